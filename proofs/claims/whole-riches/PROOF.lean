import PyProof.Rows.All
import Wide.All
import OpenK.AllK
import Wide.FinOn
import KE.KStateDown
import HandS.ForMost
import HandS.Style
import HandS.TupAny
import HandS.TupLen
import HandS.IsInst
import HandS.Conv
import KE.GoesMore
import KE.KDictDisplayH
import KE.LtSeq
import HandS.WordsExc
import HandS.Defaults
import PySem.Challenge.RW_fadewords_k61_whole_riches
import HandS.Walk
import HandS.More
import HandS.Head0
import HandS.Head1
import HandS.Head2
import HandS.HeadEnd
import HandS.HeadHook1
import HandS.HeadHook2
set_option Elab.async false
set_option linter.all false
set_option maxRecDepth 100000
set_option maxHeartbeats 4000000
/-! FwMath: the plain law. Slates, words, tables of least words; no program. -/
namespace Fw
/-! ### slates and words -/
def stp (vs s : List Int) (l : Int) : List Int := l :: s.eraseIdx ((vs.getD l.toNat 0).toNat - 1)
def run (vs s w : List Int) : List Int := w.foldl (stp vs) s
theorem run_nil {vs s : List Int} : run vs s [] = s := rfl
theorem run_snoc {vs s w : List Int} {l : Int} : run vs s (w ++ [l]) = stp vs (run vs s w) l := by
  unfold run
  rw [List.foldl_append]
  rfl
def lts (m : Nat) : List Int := (List.range m).map fun i : Nat => (i : Int)
theorem lts_len {m : Nat} : (lts m).length = m := by
  unfold lts
  rw [List.length_map, List.length_range]
theorem mem_lts {m : Nat} {l : Int} : l ∈ lts m ↔ 0 ≤ l ∧ l < (m : Int) := by
  unfold lts
  rw [List.mem_map]
  constructor
  · rintro ⟨i, hi, rfl⟩
    rw [List.mem_range] at hi
    omega
  · rintro ⟨h0, h1⟩
    exact ⟨l.toNat, List.mem_range.mpr (by omega), by omega⟩
theorem lts_get {m i : Nat} (h : i < m) : (lts m)[i]? = some (i : Int) := by
  unfold lts
  rw [List.getElem?_map, List.getElem?_range h]
  rfl
def wrds (m : Nat) : Nat → List (List Int)
  | 0 => [[]]
  | k + 1 => (wrds m k).flatMap fun w => (lts m).map fun l => w ++ [l]
theorem mem_wrds {m k : Nat} {w : List Int} : w ∈ wrds m (k + 1) ↔ ∃ u ∈ wrds m k, ∃ l ∈ lts m, w = u ++ [l] := by
  show w ∈ (wrds m k).flatMap _ ↔ _
  rw [List.mem_flatMap]
  constructor
  · rintro ⟨u, hu, h⟩
    obtain ⟨l, hl, e⟩ := List.mem_map.mp h
    exact ⟨u, hu, l, hl, e.symm⟩
  · rintro ⟨u, hu, l, hl, e⟩
    exact ⟨u, hu, List.mem_map.mpr ⟨l, hl, e.symm⟩⟩
theorem wrds_len {m : Nat} : ∀ {k : Nat} {w : List Int}, w ∈ wrds m k → w.length = k
  | 0, w, h => by
    have e : w = [] := List.mem_singleton.mp h
    rw [e]
    rfl
  | k + 1, w, h => by
    obtain ⟨u, hu, l, _, rfl⟩ := mem_wrds.mp h
    rw [List.length_append, wrds_len hu]
    rfl
theorem wrds_lts {m : Nat} : ∀ {k : Nat} {w : List Int}, w ∈ wrds m k → ∀ l ∈ w, l ∈ lts m
  | 0, w, h => by
    have e : w = [] := List.mem_singleton.mp h
    rw [e]
    intro l hl
    cases hl
  | k + 1, w, h => by
    obtain ⟨u, hu, l, hl, rfl⟩ := mem_wrds.mp h
    intro x hx
    rcases List.mem_append.mp hx with q | q
    · exact wrds_lts hu x q
    · rw [List.mem_singleton.mp q]
      exact hl
theorem flat_len {α β : Type} (f : α → List β) (n : Nat) (h : ∀ a, (f a).length = n) : ∀ l : List α, (l.flatMap f).length = l.length * n
  | [] => by simp
  | a :: r => by
    rw [List.flatMap_cons, List.length_append, h, flat_len f n h r, List.length_cons, Nat.add_mul, Nat.one_mul, Nat.add_comm]
theorem wrds_card {m : Nat} : ∀ k : Nat, (wrds m k).length = m ^ k
  | 0 => rfl
  | k + 1 => by
    show ((wrds m k).flatMap _).length = _
    rw [flat_len _ m (fun w => by rw [List.length_map, lts_len]), wrds_card k, Nat.pow_succ]
theorem wrds_snoc {m k : Nat} {w : List Int} {l : Int} (h : w ∈ wrds m k) (hl : l ∈ lts m) : w ++ [l] ∈ wrds m (k + 1) := mem_wrds.mpr ⟨w, h, l, hl, rfl⟩
theorem wrds_of {m : Nat} : ∀ (k : Nat) (w : List Int), w.length = k → (∀ l ∈ w, l ∈ lts m) → w ∈ wrds m k
  | 0, w, h, _ => by
    have e : w = [] := List.eq_nil_of_length_eq_zero h
    rw [e]
    exact List.mem_singleton.mpr rfl
  | k + 1, w, h, hl => by
    have hne : w ≠ [] := fun e => by
      rw [e] at h
      cases h
    have e := (List.dropLast_concat_getLast hne).symm
    rw [e]
    refine wrds_snoc (wrds_of k _ ?_ fun l q => hl l (List.mem_of_mem_dropLast' q)) (hl _ (List.getLast_mem hne))
    rw [List.length_dropLast]
    omega
where
  List.mem_of_mem_dropLast' {l : Int} {w : List Int} (h : l ∈ w.dropLast) : l ∈ w := List.dropLast_subset w h
theorem wrds_ne {m : Nat} (hm : 0 < m) (k : Nat) : 0 < (wrds m k).length := by
  rw [wrds_card]
  exact Nat.pow_pos hm

/-! ### how many slates there can be -/
def Sl (m : Nat) (s : List Int) : Prop := s.length ≤ 5 ∧ ∀ l ∈ s, l ∈ lts m
def Vl (m : Nat) (vs : List Int) : Prop := vs.length = m ∧ ∀ v ∈ vs, 1 ≤ v ∧ v ≤ 5
theorem Vl.at {m : Nat} {vs : List Int} (h : Vl m vs) {l : Int} (hl : l ∈ lts m) : ∃ v, vs[l.toNat]? = some v ∧ vs.getD l.toNat 0 = v ∧ 1 ≤ v ∧ v ≤ 5 := by
  obtain ⟨h0, h1⟩ := mem_lts.mp hl
  have hi : l.toNat < vs.length := by
    rw [h.1]
    omega
  have e : vs[l.toNat]? = some vs[l.toNat] := List.getElem?_eq_getElem hi
  refine ⟨vs[l.toNat], e, ?_, h.2 _ (List.getElem_mem hi)⟩
  rw [List.getD_eq_getElem?_getD, e]
  rfl
theorem stp_sl {m : Nat} {vs s : List Int} {l : Int} (hv : Vl m vs) (hs : Sl m s) (hl : l ∈ lts m) : Sl m (stp vs s l) := by
  obtain ⟨v, _, e, h1, h5⟩ := hv.at hl
  unfold stp
  rw [e]
  refine ⟨?_, fun x hx => ?_⟩
  · have h := hs.1
    rw [List.length_cons]
    rw [List.length_eraseIdx]
    split
    · omega
    · omega
  · rcases List.mem_cons.mp hx with q | q
    · rw [q]
      exact hl
    · exact hs.2 x (List.mem_of_mem_eraseIdx q)
theorem run_sl {m : Nat} {vs : List Int} (hv : Vl m vs) : ∀ {w s : List Int}, Sl m s → (∀ l ∈ w, l ∈ lts m) → Sl m (run vs s w)
  | [], s, hs, _ => hs
  | l :: w, s, hs, hw => run_sl (w := w) hv (stp_sl hv hs (hw l List.mem_cons_self)) fun x hx => hw x (List.mem_cons_of_mem _ hx)
theorem nodup_le {α : Type} [DecidableEq α] : ∀ {l L : List α}, l.Nodup → (∀ x ∈ l, x ∈ L) → l.length ≤ L.length
  | [], _, _, _ => Nat.zero_le _
  | x :: r, L, h, hs => by
    obtain ⟨h1, h2⟩ := List.nodup_cons.mp h
    have hx : x ∈ L := hs x List.mem_cons_self
    have ih : r.length ≤ (L.erase x).length := nodup_le h2 fun y hy => by
      have ne : y ≠ x := fun e => h1 (e ▸ hy)
      exact (List.mem_erase_of_ne ne).mpr (hs y (List.mem_cons_of_mem _ hy))
    rw [List.length_erase_of_mem hx] at ih
    have hp : 0 < L.length := List.length_pos_of_mem hx
    rw [List.length_cons]
    omega
def allSl (m : Nat) : List (List Int) := wrds m 0 ++ (wrds m 1 ++ (wrds m 2 ++ (wrds m 3 ++ (wrds m 4 ++ wrds m 5))))
theorem allSl_len {m : Nat} (h : m ≤ 4) : (allSl m).length ≤ 1365 := by
  unfold allSl
  simp only [List.length_append, wrds_card]
  have : m = 0 ∨ m = 1 ∨ m = 2 ∨ m = 3 ∨ m = 4 := by omega
  rcases this with rfl | rfl | rfl | rfl | rfl <;> decide
theorem mem_allSl {m : Nat} {s : List Int} (h : Sl m s) : s ∈ allSl m := by
  have hw := wrds_of s.length s rfl h.2
  have h5 := h.1
  unfold allSl
  simp only [List.mem_append]
  have : s.length = 0 ∨ s.length = 1 ∨ s.length = 2 ∨ s.length = 3 ∨ s.length = 4 ∨ s.length = 5 := by omega
  rcases this with e | e | e | e | e | e <;> rw [e] at hw <;> simp only [hw, true_or, or_true]
theorem many_le {m : Nat} {L : List (List Int)} (hm : m ≤ 4) (hn : L.Nodup) (hs : ∀ s ∈ L, Sl m s) : L.length ≤ 1365 :=
  Nat.le_trans (nodup_le hn fun s h => mem_allSl (hs s h)) (allSl_len hm)

/-! ### the order of words -/
theorem lex_irr : ∀ a : List Int, HT.lexLt a a = false
  | [] => rfl
  | x :: r => by
    rw [HT.lexLt_cons, if_pos rfl]
    exact lex_irr r
theorem lex_tri : ∀ {a b : List Int}, HT.lexLt a b = false → HT.lexLt b a = false → a = b
  | [], [], _, _ => rfl
  | [], _ :: _, h, _ => by cases h
  | _ :: _, [], _, h => by cases h
  | x :: r, y :: t, h1, h2 => by
    rw [HT.lexLt_cons] at h1 h2
    by_cases e : x = y
    · subst e
      rw [if_pos rfl] at h1 h2
      rw [lex_tri h1 h2]
    · rw [if_neg e] at h1
      rw [if_neg (fun q => e q.symm)] at h2
      have g1 := of_decide_eq_false h1
      have g2 := of_decide_eq_false h2
      omega
/-- a at most b, b at most c -/
theorem lex_le : ∀ {a b c : List Int}, HT.lexLt b a = false → HT.lexLt c b = false → HT.lexLt c a = false
  | [], _, [], _, _ => rfl
  | [], _, _ :: _, _, _ => rfl
  | _ :: _, [], _, h, _ => by cases h
  | _ :: _, _ :: _, [], _, h => by cases h
  | x :: a, y :: b, z :: c, h1, h2 => by
    rw [HT.lexLt_cons] at h1 h2
    rw [HT.lexLt_cons]
    by_cases e1 : y = x
    · subst e1
      rw [if_pos rfl] at h1
      by_cases e2 : z = y
      · subst e2
        rw [if_pos rfl] at h2
        rw [if_pos rfl]
        exact lex_le h1 h2
      · rw [if_neg e2] at h2
        rw [if_neg e2]
        exact h2
    · rw [if_neg e1] at h1
      have g1 := of_decide_eq_false h1
      by_cases e2 : z = y
      · subst e2
        rw [if_neg e1]
        exact h1
      · rw [if_neg e2] at h2
        have g2 := of_decide_eq_false h2
        rw [if_neg (by omega)]
        exact decide_eq_false (by omega)
theorem lex_snoc : ∀ {a b : List Int} (l : Int), a.length = b.length → HT.lexLt b a = false → HT.lexLt (b ++ [l]) (a ++ [l]) = false
  | [], [], l, _, _ => lex_irr [l]
  | [], _ :: _, _, h, _ => by cases h
  | _ :: _, [], _, h, _ => by cases h
  | x :: a, y :: b, l, h, h1 => by
    rw [HT.lexLt_cons] at h1
    show HT.lexLt (y :: (b ++ [l])) (x :: (a ++ [l])) = false
    rw [HT.lexLt_cons]
    by_cases e : y = x
    · subst e
      rw [if_pos rfl] at h1
      rw [if_pos rfl]
      exact lex_snoc l (Nat.succ.inj h) h1
    · rw [if_neg e] at h1
      rw [if_neg e]
      exact h1
theorem lex_as : ∀ {a b : List Int}, HT.lexLt a b = true → HT.lexLt b a = false
  | [], [], h => by cases h
  | [], _ :: _, _ => rfl
  | _ :: _, [], h => by cases h
  | x :: r, y :: t, h => by
    rw [HT.lexLt_cons] at h
    rw [HT.lexLt_cons]
    by_cases e : x = y
    · subst e
      rw [if_pos rfl] at h
      rw [if_pos rfl]
      exact lex_as h
    · rw [if_neg e] at h
      have g := of_decide_eq_true h
      rw [if_neg (fun q => e q.symm)]
      exact decide_eq_false (by omega)

/-! ### tables: slate, word, where the word stands -/
abbrev En := List Int × List Int × Nat
def lookD (D : List En) (s : List Int) : Option (List Int × Nat) := (D.find? fun e => decide (e.1 = s)).map (·.2)
def putD (D : List En) (s w : List Int) (a : Nat) : List En :=
  if (D.any fun e => decide (e.1 = s)) = true then D.map (fun e => if e.1 = s then (e.1, w, a) else e) else D ++ [(s, w, a)]
theorem lookD_any (s : List Int) : ∀ D : List En, (D.any fun e => decide (e.1 = s)) = (lookD D s).isSome
  | [] => rfl
  | e :: r => by
    by_cases h : e.1 = s
    · simp [lookD, List.any_cons, List.find?_cons, h]
    · have ih := lookD_any s r
      simp only [List.any_cons, decide_eq_false h, Bool.false_or, ih]
      simp only [lookD, List.find?_cons, decide_eq_false h]
theorem lookD_mem {D : List En} {s w : List Int} {a : Nat} (h : lookD D s = some (w, a)) : (s, w, a) ∈ D := by
  unfold lookD at h
  obtain ⟨e, he, h2⟩ := Option.map_eq_some_iff.mp h
  have h1 := List.mem_of_find?_eq_some he
  have h3 := List.find?_some he
  have h4 : e.1 = s := of_decide_eq_true h3
  have : e = (s, w, a) := by
    rw [← h4, ← h2]
  rw [← this]
  exact h1
theorem lookD_none {D : List En} {s : List Int} (h : lookD D s = none) : ∀ e ∈ D, e.1 ≠ s := by
  intro e he q
  have := lookD_any s D
  rw [h] at this
  have t : (D.any fun e => decide (e.1 = s)) = true := List.any_eq_true.mpr ⟨e, he, decide_eq_true q⟩
  rw [t] at this
  cases this
theorem lookD_there {D : List En} (hn : (D.map (·.1)).Nodup) {e : En} (he : e ∈ D) : lookD D e.1 = some e.2 := by
  cases q : lookD D e.1 with
  | none => exact absurd rfl (lookD_none q e he)
  | some p =>
    have hm := lookD_mem (w := p.1) (a := p.2) q
    have : (e.1, p.1, p.2) = e := nodup_key hn hm he rfl
    rw [← this]
where
  nodup_key : ∀ {D : List En}, (D.map (·.1)).Nodup → ∀ {e f : En}, e ∈ D → f ∈ D → e.1 = f.1 → e = f
    | [], _, _, _, h, _, _ => by cases h
    | x :: r, hn, e, f, he, hf, q => by
      obtain ⟨h1, h2⟩ := List.nodup_cons.mp (show (x.1 :: r.map (·.1)).Nodup from hn)
      rcases List.mem_cons.mp he with e1 | e1
      · rcases List.mem_cons.mp hf with e2 | e2
        · rw [e1, e2]
        · exact absurd (List.mem_map.mpr ⟨f, e2, by rw [← q, e1]⟩) h1
      · rcases List.mem_cons.mp hf with e2 | e2
        · exact absurd (List.mem_map.mpr ⟨e, e1, by rw [q, e2]⟩) h1
        · exact nodup_key h2 e1 e2 q
theorem putD_new {D : List En} {s w : List Int} {a : Nat} (h : lookD D s = none) : putD D s w a = D ++ [(s, w, a)] := by
  unfold putD
  rw [lookD_any, h]
  exact if_neg (by decide)
theorem putD_old {D : List En} {s w : List Int} {a : Nat} {p : List Int × Nat} (h : lookD D s = some p) : putD D s w a = D.map (fun e => if e.1 = s then (e.1, w, a) else e) := by
  unfold putD
  rw [lookD_any, h]
  exact if_pos rfl
theorem putD_keys {D : List En} {s w : List Int} {a : Nat} {p : List Int × Nat} (h : lookD D s = some p) : (putD D s w a).map (·.1) = D.map (·.1) := by
  rw [putD_old h, List.map_map]
  refine List.map_congr_left fun e _ => ?_
  show (if e.1 = s then (e.1, w, a) else e).1 = e.1
  split <;> rfl
theorem nodup_snoc {α : Type} {l : List α} {k : α} (h : l.Nodup) (hk : ¬ k ∈ l) : (l ++ [k]).Nodup := by
  rw [List.nodup_append]
  refine ⟨h, by simp, fun a ha b hb e => ?_⟩
  rw [List.mem_singleton.mp hb] at e
  exact hk (e ▸ ha)
theorem keys_snoc {D : List En} {s w : List Int} {a : Nat} (hn : (D.map (·.1)).Nodup) (h : lookD D s = none) : ((D ++ [(s, w, a)]).map (·.1)).Nodup := by
  rw [List.map_append]
  refine nodup_snoc hn fun m => ?_
  obtain ⟨e, he, q⟩ := List.mem_map.mp m
  exact lookD_none h e he q

/-! ### the slates that were met, for the spread -/
structure Met (m : Nat) (D : List En) : Prop where
  nd : (D.map (·.1)).Nodup
  sl : ∀ e ∈ D, Sl m e.1
  wd : ∀ e ∈ D, e.2.1.length < D.length
theorem Met.le {m : Nat} {D : List En} (hm : m ≤ 4) (h : Met m D) : D.length ≤ 1365 := by
  have := many_le hm h.nd fun s hs => by
    obtain ⟨e, he, rfl⟩ := List.mem_map.mp hs
    exact h.sl e he
  rw [List.length_map] at this
  exact this
theorem Met.one {m : Nat} {s : List Int} {a : Nat} (h : Sl m s) : Met m [(s, [], a)] :=
  ⟨by simp, fun e he => by rw [List.mem_singleton.mp he]; exact h, fun e he => by rw [List.mem_singleton.mp he]; exact Nat.zero_lt_one⟩
theorem Met.snoc {m : Nat} {D : List En} {s u : List Int} {l : Int} {a b : Nat} {t : List Int} (h : Met m D) (hs : Sl m s) (hn : lookD D s = none) (hu : (t, u, b) ∈ D) : Met m (D ++ [(s, u ++ [l], a)]) := by
  refine ⟨keys_snoc h.nd hn, fun e he => ?_, fun e he => ?_⟩
  · rcases List.mem_append.mp he with q | q
    · exact h.sl e q
    · rw [List.mem_singleton.mp q]
      exact hs
  · rw [List.length_append]
    rcases List.mem_append.mp he with q | q
    · exact Nat.lt_succ_of_lt (h.wd e q)
    · rw [List.mem_singleton.mp q]
      have := h.wd _ hu
      show (u ++ [l]).length < D.length + 1
      rw [List.length_append]
      exact Nat.succ_lt_succ this

/-! ### tables of least words -/
structure Tab (vs s0 : List Int) (C : List (List Int)) (D : List En) : Prop where
  nd : (D.map (·.1)).Nodup
  all : ∀ c ∈ C, ∃ e ∈ D, e.1 = run vs s0 c
  each : ∀ e ∈ D, e.2.1 ∈ C ∧ run vs s0 e.2.1 = e.1 ∧ ∀ c ∈ C, run vs s0 c = e.1 → HT.lexLt c e.2.1 = false
theorem Tab.nil {vs s0 : List Int} : Tab vs s0 [] [] := ⟨List.nodup_nil, fun _ h => (by cases h), fun _ h => (by cases h)⟩
theorem Tab.start {vs s0 : List Int} {m a : Nat} : Tab vs s0 (wrds m 0) [(s0, [], a)] :=
  ⟨by simp, fun c h => ⟨_, List.mem_singleton.mpr rfl, by rw [List.mem_singleton.mp (show c ∈ [[]] from h)]; rfl⟩, fun e h => by
    rw [List.mem_singleton.mp h]
    refine ⟨List.mem_singleton.mpr rfl, rfl, fun c hc _ => ?_⟩
    rw [List.mem_singleton.mp (show c ∈ [[]] from hc)]
    rfl⟩
theorem Tab.new {vs s0 : List Int} {C : List (List Int)} {D : List En} {c : List Int} {a : Nat} (h : Tab vs s0 C D) (hn : lookD D (run vs s0 c) = none) : Tab vs s0 (C ++ [c]) (D ++ [(run vs s0 c, c, a)]) := by
  refine ⟨keys_snoc h.nd hn, fun x hx => ?_, fun e he => ?_⟩
  · rcases List.mem_append.mp hx with q | q
    · obtain ⟨e, he, r⟩ := h.all x q
      exact ⟨e, List.mem_append_left _ he, r⟩
    · rw [List.mem_singleton.mp q]
      exact ⟨_, List.mem_append_right _ (List.mem_singleton.mpr rfl), rfl⟩
  · rcases List.mem_append.mp he with q | q
    · obtain ⟨h1, h2, h3⟩ := h.each e q
      refine ⟨List.mem_append_left _ h1, h2, fun x hx r => ?_⟩
      rcases List.mem_append.mp hx with z | z
      · exact h3 x z r
      · rw [List.mem_singleton.mp z] at r
        exact absurd r.symm (lookD_none hn e q)
    · rw [List.mem_singleton.mp q]
      refine ⟨List.mem_append_right _ (List.mem_singleton.mpr rfl), rfl, fun x hx r => ?_⟩
      rcases List.mem_append.mp hx with z | z
      · obtain ⟨e', he', r'⟩ := h.all x z
        exact absurd (r'.trans r) (lookD_none hn e' he')
      · rw [List.mem_singleton.mp z]
        exact lex_irr c
theorem Tab.stay {vs s0 : List Int} {C : List (List Int)} {D : List En} {c w : List Int} {b : Nat} (h : Tab vs s0 C D) (hl : lookD D (run vs s0 c) = some (w, b)) (hlt : HT.lexLt c w = false) : Tab vs s0 (C ++ [c]) D := by
  have hm := lookD_mem hl
  refine ⟨h.nd, fun x hx => ?_, fun e he => ?_⟩
  · rcases List.mem_append.mp hx with q | q
    · exact h.all x q
    · rw [List.mem_singleton.mp q]
      exact ⟨_, hm, rfl⟩
  · obtain ⟨h1, h2, h3⟩ := h.each e he
    refine ⟨List.mem_append_left _ h1, h2, fun x hx r => ?_⟩
    rcases List.mem_append.mp hx with z | z
    · exact h3 x z r
    · rw [List.mem_singleton.mp z] at r ⊢
      have e1 : e.2 = (w, b) := by
        have t := lookD_there h.nd he
        rw [← r, hl] at t
        exact (Option.some.inj t).symm
      rw [e1]
      exact hlt
theorem Tab.less {vs s0 : List Int} {C : List (List Int)} {D : List En} {c w : List Int} {a b : Nat} (h : Tab vs s0 C D) (hl : lookD D (run vs s0 c) = some (w, b)) (hlt : HT.lexLt c w = true) : Tab vs s0 (C ++ [c]) (putD D (run vs s0 c) c a) := by
  have hm := lookD_mem hl
  have hk := putD_keys (w := c) (a := a) hl
  refine ⟨by rw [hk]; exact h.nd, fun x hx => ?_, fun e he => ?_⟩
  · have key : ∀ s, s ∈ D.map (·.1) → ∃ e ∈ putD D (run vs s0 c) c a, e.1 = s := fun s hs => by
      rw [← hk] at hs
      obtain ⟨e, he, r⟩ := List.mem_map.mp hs
      exact ⟨e, he, r⟩
    rcases List.mem_append.mp hx with q | q
    · obtain ⟨e, he, r⟩ := h.all x q
      exact key _ (List.mem_map.mpr ⟨e, he, r⟩)
    · rw [List.mem_singleton.mp q]
      exact key _ (List.mem_map.mpr ⟨_, hm, rfl⟩)
  · rw [putD_old hl] at he
    obtain ⟨f, hf, r⟩ := List.mem_map.mp he
    by_cases q : f.1 = run vs s0 c
    · rw [if_pos q] at r
      have hw : f.2 = (w, b) := by
        have t := lookD_there h.nd hf
        rw [q, hl] at t
        exact (Option.some.inj t).symm
      obtain ⟨h1, h2, h3⟩ := h.each f hf
      rw [← r]
      refine ⟨List.mem_append_right _ (List.mem_singleton.mpr rfl), q.symm, fun x hx z => ?_⟩
      rcases List.mem_append.mp hx with y | y
      · have := h3 x y z
        rw [hw] at this
        exact lex_le (lex_as hlt) this
      · rw [List.mem_singleton.mp y]
        exact lex_irr c
    · rw [if_neg q] at r
      rw [← r]
      obtain ⟨h1, h2, h3⟩ := h.each f hf
      refine ⟨List.mem_append_left _ h1, h2, fun x hx z => ?_⟩
      rcases List.mem_append.mp hx with y | y
      · exact h3 x y z
      · rw [List.mem_singleton.mp y] at z
        exact absurd z.symm q
/-- the words that one turn tries -/
def cands (m : Nat) (D : List En) : List (List Int) := D.flatMap fun e => (lts m).map fun l => e.2.1 ++ [l]
theorem Tab.turn {vs s0 : List Int} {m k : Nat} {D D' : List En} (h : Tab vs s0 (wrds m k) D) (h' : Tab vs s0 (cands m D) D') : Tab vs s0 (wrds m (k + 1)) D' := by
  have sub : ∀ c ∈ cands m D, c ∈ wrds m (k + 1) := fun c hc => by
    obtain ⟨e, he, q⟩ := List.mem_flatMap.mp hc
    obtain ⟨l, hl, rfl⟩ := List.mem_map.mp q
    exact wrds_snoc (h.each e he).1 hl
  -- each word has a candidate that leads to the same slate and is no greater
  have low : ∀ x ∈ wrds m (k + 1), ∃ c ∈ cands m D, run vs s0 c = run vs s0 x ∧ HT.lexLt x c = false := fun x hx => by
    obtain ⟨u, hu, l, hl, rfl⟩ := mem_wrds.mp hx
    obtain ⟨e, he, r⟩ := h.all u hu
    obtain ⟨h1, h2, h3⟩ := h.each e he
    refine ⟨e.2.1 ++ [l], List.mem_flatMap.mpr ⟨e, he, List.mem_map.mpr ⟨l, hl, rfl⟩⟩, ?_, ?_⟩
    · rw [run_snoc, run_snoc, h2, r]
    · exact lex_snoc l (by rw [wrds_len h1, wrds_len hu]) (h3 u hu r.symm)
  refine ⟨h'.nd, fun x hx => ?_, fun e he => ?_⟩
  · obtain ⟨c, hc, r, _⟩ := low x hx
    obtain ⟨e, he, q⟩ := h'.all c hc
    exact ⟨e, he, q.trans r⟩
  · obtain ⟨h1, h2, h3⟩ := h'.each e he
    refine ⟨sub _ h1, h2, fun x hx r => ?_⟩
    obtain ⟨c, hc, q, z⟩ := low x hx
    exact lex_le (h3 c hc (q.trans r)) z

/-! ### what the law asks -/
theorem rich {vs s0 : List Int} {m n : Nat} {D : List En} (T : Tab vs s0 (wrds m n) D) (wt : List Int → Int) {e0 : En} (h0 : e0 ∈ D) (hmin : ∀ e ∈ D, wt e.1 ≤ wt e0.1 ∧ (wt e.1 = wt e0.1 → HT.lexLt e.2.1 e0.2.1 = false))
    {best : Int} {v u : List Int} (hv : v ∈ wrds m n) (hb : wt (run vs s0 v) = best) (hle : ∀ x ∈ wrds m n, wt (run vs s0 x) ≤ best)
    (hu : u ∈ wrds m n) (hub : wt (run vs s0 u) = best) (hul : ∀ x ∈ wrds m n, wt (run vs s0 x) = best → HT.lexLt x u = false) : wt e0.1 = best ∧ e0.2.1 = u := by
  obtain ⟨a1, a2, a3⟩ := T.each e0 h0
  have e1 : wt e0.1 = best := by
    have := hle _ a1
    rw [a2] at this
    obtain ⟨e, he, r⟩ := T.all v hv
    have := (hmin e he).1
    rw [r, hb] at this
    omega
  refine ⟨e1, lex_tri ?_ ?_⟩
  · exact hul _ a1 (by rw [a2, e1])
  · obtain ⟨e, he, r⟩ := T.all u hu
    have q := (hmin e he).2 (by rw [r, hub, e1])
    exact lex_le q ((T.each e he).2.2 u hu r.symm)
theorem ends_eq {vs s0 : List Int} {m n : Nat} {D : List En} (T : Tab vs s0 (wrds m n) D) (f : List Int → Int) {a b : Int} (ha : a ∈ D.map fun e => f e.1) (hb : b ∈ (wrds m n).map fun w => f (run vs s0 w)) :
    (a ∈ (wrds m n).map fun w => f (run vs s0 w)) ∧ (b ∈ D.map fun e => f e.1) := by
  obtain ⟨e, he, rfl⟩ := List.mem_map.mp ha
  obtain ⟨w, hw, rfl⟩ := List.mem_map.mp hb
  refine ⟨List.mem_map.mpr ⟨e.2.1, (T.each e he).1, by rw [(T.each e he).2.1]⟩, ?_⟩
  obtain ⟨e', he', r⟩ := T.all w hw
  exact List.mem_map.mpr ⟨e', he', by rw [r]⟩
theorem min_eq {vs s0 : List Int} {m n : Nat} {D : List En} (T : Tab vs s0 (wrds m n) D) (f : List Int → Int) {a b : Int} (ha : a ∈ D.map fun e => f e.1) (hb : b ∈ (wrds m n).map fun w => f (run vs s0 w))
    (la : ∀ x ∈ D.map (fun e => f e.1), a ≤ x) (lb : ∀ x ∈ (wrds m n).map (fun w => f (run vs s0 w)), b ≤ x) : a = b := by
  obtain ⟨h1, h2⟩ := ends_eq T f ha hb
  have := la _ h2
  have := lb _ h1
  omega
theorem max_eq {vs s0 : List Int} {m n : Nat} {D : List En} (T : Tab vs s0 (wrds m n) D) (f : List Int → Int) {a b : Int} (ha : a ∈ D.map fun e => f e.1) (hb : b ∈ (wrds m n).map fun w => f (run vs s0 w))
    (la : ∀ x ∈ D.map (fun e => f e.1), x ≤ a) (lb : ∀ x ∈ (wrds m n).map (fun w => f (run vs s0 w)), x ≤ b) : a = b := by
  obtain ⟨h1, h2⟩ := ends_eq T f ha hb
  have := la _ h2
  have := lb _ h1
  omega
theorem tab_ne {vs s0 : List Int} {m n : Nat} {D : List En} (T : Tab vs s0 (wrds m n) D) (hm : 0 < m) : 0 < D.length := by
  obtain ⟨w, hw⟩ := List.exists_mem_of_length_pos (wrds_ne hm n)
  obtain ⟨e, he, _⟩ := T.all w hw
  exact List.length_pos_of_mem he
theorem tab_met {vs s0 : List Int} {m n : Nat} {C : List (List Int)} {D : List En} (T : Tab vs s0 C D) (hv : Vl m vs) (hs : Sl m s0) (hC : ∀ c ∈ C, c ∈ wrds m n) : ∀ e ∈ D, Sl m e.1 ∧ e.2.1 ∈ wrds m n := fun e he => by
  obtain ⟨h1, h2, _⟩ := T.each e he
  exact ⟨by rw [← h2]; exact run_sl hv hs (wrds_lts (hC _ h1)), hC _ h1⟩
end Fw

set_option Elab.async false
set_option linter.all false
set_option maxRecDepth 100000
set_option maxHeartbeats 4000000
/-! FwRules: rules that the layer lacks for this text. -/
namespace Fw
open PySem PySem.Spec PyProof.Rows L2
/-! ### the keys of a dict that nobody else holds: it is locked where the walk begins, and stays so -/
def iKeysF (td : TE) : TI := fun σ H R => td σ H fun x H1 => ∃ (d : Addr) (kvs : List (List Key × V)), x = .ref d ∧ H1 d = some (.dT kvs) ∧ ∀ od, R (Itkt d od kvs) (upd H1 d (.frz od (.dT kvs)))
theorem pi_keysF {X : Cx} {tg e : Expr} {td : TE} (he : PE X e td) : PI X tg e (iKeysF td) := ⟨fun pins s σ H R I h =>
  thn (he.run pins s σ H _ I h) fun u s1 ⟨x, H1, I1, rx, d, kvs, ex, hd, q⟩ => by
    subst ex
    cases (show u = Value.ref d from rx)
    obtain ⟨od, I2⟩ := I1.lock hd trivial
    obtain ⟨g1, g2, g3, es, ep, g4, g5, _⟩ := I2.frzT upd_same
    exact iter_keys g1 g2 g3 g4 (pi_one (tk := s1.toks) I2 _ (turn_keysT _ g4) ⟨_, Heap.get?_push_size _ rfl, rfl, by rw [g5] <;> rfl⟩ (q od))⟩

/-! ### enumerate of a tuple -/
theorem new_enum_tup (t : Addr) (items : Array Value) :
    Meets (Builtin.«enumerate.__new__» ⟨[.type "enumerate", .ref t], []⟩) (fun _ R s => s.heap.IsTuple t items ∧ R (.ok (.ret (.ref (s.heap.push { cls := .type "tuple_iterator", data := .fields #[.ref t, .int 0 0] }).objs.size)))
      { s with heap := (s.heap.push { cls := .type "tuple_iterator", data := .fields #[.ref t, .int 0 0] }).push { cls := .type "enumerate", data := .fields #[.none, .bool false, .ref s.heap.objs.size, rawInt 0, .none, .none] } }) :=
  .of_wp fun prog w A R st hh => by
    obtain ⟨hp, gg, dd, tt, oo⟩ := st
    obtain ⟨isT, fin⟩ := hh
    have sb := sub_enumerate
    have it : ∀ {B : Around} {E : Value → Shared → Prop} {Q : Value → Shared → Prop}, Q (.ref hp.objs.size) ⟨hp.push { cls := .type "tuple_iterator", data := .fields #[.ref t, .int 0 0] }, gg, dd, tt, oo⟩ → wpAny (model prog w) B (pyIter (.ref t)) Q E ⟨hp, gg, dd, tt, oo⟩ := fun q => wpAny_pyIter_tuple isT q
    wp_walk using it
    refine wpAny_stack_any fun _ => wpAny_pure ?_
    split
    · rename_i c _ _ _ _ _
      cases (c == Value.type "enumerate") <;> (wp_walk using it; exact ⟨_, rfl, fin⟩)
    · wp_walk using it
      exact ⟨_, rfl, fin⟩
theorem call_enum_tup {prog : Program} {w : World} {A : Around} {E : Value → Shared → Prop} {s : Shared} {t : Addr} {items : Array Value} {Q : Value → Shared → Prop} (ht : s.heap.IsTuple t items)
    (h : ∀ h', IsEnum h' (s.heap.objs.size + 1) s.heap.objs.size 0 .none → h'.IsTupleIter s.heap.objs.size t 0 → (∀ b o, s.heap.get? b = some o → h'.get? b = some o) → Q (.ref (s.heap.objs.size + 1)) { s with heap := h' }) :
    wpAny (model prog w) A (call (.type "enumerate") [.ref t]) Q E s := by
  refine callType_new F.called_enumerate (by decide) (F.typeCall_enumerate_1 _) (F.newCall_enumerate_1 _) (fun ob => F.args_object_init_2 ob _) F.entry_enumerate_new (new_enum_tup t items) ⟨ht, ?_⟩
  have sz : (s.heap.push { cls := .type "tuple_iterator", data := .fields #[.ref t, .int 0 0] }).objs.size = s.heap.objs.size + 1 := Heap.size_push ..
  show _ ∧ _
  rw [sz]
  have en : IsEnum ((s.heap.push { cls := .type "tuple_iterator", data := .fields #[.ref t, .int 0 0] }).push { cls := .type "enumerate", data := .fields #[.none, .bool false, .ref s.heap.objs.size, rawInt 0, .none, .none] })
      (s.heap.objs.size + 1) s.heap.objs.size 0 .none := by
    have g := Heap.get?_push_size (s.heap.push { cls := .type "tuple_iterator", data := .fields #[.ref t, .int 0 0] }) (o := { cls := .type "enumerate", data := .fields #[.none, .bool false, .ref s.heap.objs.size, rawInt 0, .none, .none] }) rfl
    rw [sz] at g
    exact g
  exact ⟨⟨_, en, rfl⟩, h _ en ⟨_, Heap.get?_push_of_some _ (Heap.get?_push_size _ rfl), rfl, rfl⟩ fun b o z => Heap.get?_push_of_some _ (Heap.get?_push_of_some _ z)⟩
/-- each item of the tuple at a, in a new pair with its place -/
def Itn (K : PySem.W.Frag) (a : Addr) : It where
  go := fun i H => ∃ (xs : List V) (x : V), SqT K H a xs ∧ xs[i]? = some x
  yld := fun i H v H' => ∃ T x, v = .ref T ∧ H T = none ∧ H' = upd H T (.tup [.int (i : Nat), x]) ∧ ∀ xs, SqT K H a xs → xs[i]? = some x
  stop := fun i H => ∃ xs : List V, SqT K H a xs ∧ xs.length = i
theorem turn_enum_tup {P : Program} {w : World} {K : PySem.W.Frag} {elts : List Expr} {kk : Nat} {tpos : Pos} (a e it : Addr) :
    Turn P w K (.Tuple elts kk tpos) (Itn K a) [e, it] e (fun i h => (∃ old, IsEnum h e it ((i : Nat) : Int) old) ∧ h.IsTupleIter it a i) where
  mem := List.mem_cons_self
  obj := fun i h st b hb => by
    obtain ⟨⟨old, he⟩, o, ho, _, hd⟩ := st
    rcases List.mem_cons.mp hb with z | z
    · rw [z]
      exact ⟨_, he, fun v q => nomatch q⟩
    · exact ⟨o, by rw [List.mem_singleton.mp z]; exact ho, fun v q => by rw [hd] at q; cases q⟩
  keep := fun i h h' st k => by
    obtain ⟨⟨old, he⟩, hi⟩ := st
    exact ⟨⟨old, k e (by simp) _ he⟩, hi.at fun o q => k it (by simp) o q⟩
  item := by
    intro X hP hw hK hc i pins s σ H E I hf st hg
    subst hP hw hK
    obtain ⟨⟨old, he⟩, hit⟩ := st
    obtain ⟨xs, x, hq, hx⟩ := hg
    obtain ⟨its, rv, p, _⟩ := I.tuple hq
    obtain ⟨u, hu, ru⟩ := rv.get hx
    have pt : s.heap.IsTuple a its.toArray := p
    have n1 : a ≠ it := fun z => by
      obtain ⟨o1, g1, c1, _⟩ := pt
      obtain ⟨o2, g2, c2, _⟩ := hit
      rw [z, g2] at g1
      cases g1
      rw [c2] at c1
      injection c1 with c3
      exact absurd c3 (by decide)
    have n2 : e ≠ it := fun z => by
      obtain ⟨o2, g2, c2, _⟩ := hit
      have g1 : s.heap.get? e = _ := he
      rw [z, g2] at g1
      have c3 := congrArg (fun q : Option Obj => q.map (·.cls)) g1
      have c4 : some o2.cls = some (Value.type "enumerate") := c3
      rw [c2] at c4
      injection c4 with c5
      injection c5 with c6
      exact absurd c6 (by decide)
    have n3 : e ≠ a := fun z => by
      obtain ⟨o2, g2, c2, _⟩ := pt
      have g1 : s.heap.get? e = _ := he
      rw [z, g2] at g1
      have c3 := congrArg (fun q : Option Obj => q.map (·.cls)) g1
      have c4 : some o2.cls = some (Value.type "enumerate") := c3
      rw [c2] at c4
      injection c4 with c5
      injection c5 with c6
      exact absurd c6 (by decide)
    have le : e < s.heap.objs.size := Heap.lt_size he
    have li : it < s.heap.objs.size := by
      obtain ⟨_, g2, _⟩ := hit
      exact Heap.lt_size g2
    have hsz : i < its.toArray.size := by
      have := (List.getElem?_eq_some_iff.mp hu).1
      simpa using this
    refine wpAny_pyNext_enum_itemD (Draws.tuple (A := X.A.in1) (I.ok.hd hc) it a n1 its.toArray) he ⟨hit, pt⟩ hsz n2 (by simp [n2, n3]) fun x2 h' tk hx2 ho st2 hT hz hk => ?_
    have ex2 : x2 = u := by
      have g1 : its.toArray[i]? = some x2 := hx2
      rw [List.getElem?_toArray, hu] at g1
      exact (Option.some.inj g1).symm
    subst ex2
    refine ⟨_, rfl, wpAny_letOwnedTupleGo_enum (s := { s with heap := h', toks := tk + 1 }) ho fun h2 he2 sb => ?_⟩
    have fT : h2.get? s.heap.objs.size = some { cls := .type "tuple", data := .seq #[.int i tk, x2] } := (sb.2 _ (Nat.ne_of_gt le)).trans hT
    have ok : ObjOk X.prog X.w (upd H s.heap.objs.size (.tup [.int (i : Nat), x])) h2 s.heap.objs.size (.tup [.int (i : Nat), x]) := ⟨by show 2 ≤ sizeLine; decide, [.int i tk, x2], .cons ⟨_, rfl⟩ (.cons ru .nil), _, fT, rfl, _, rfl⟩
    have I1 : Inv X pins σ (upd H s.heap.objs.size (.tup [.int (i : Nat), x])) { s with heap := h2, toks := tk + 1 } :=
      I.turnedNew (ch := [e, it]) (fun b ob hb q => (sb.2 b fun z => hb (by simp [z])).trans (hk b ob (fun z => hb (by simp [z])) (fun z => hb (by simp [z])) q)) hf (Nat.le_refl _) ok
    refine ⟨.ref s.heap.objs.size, _, I1, rfl, ⟨_, x, rfl, I.hok.fresh (Nat.le_refl _), rfl, fun ys hy => by rw [I.tuple_inj hy hq]; exact hx⟩, ⟨⟨x2, ?_⟩, st2.1.at fun o q => (sb.2 it n2.symm).trans q⟩, fun b hb => ?_⟩
    · have e1 : ((i + 1 : Nat) : Int) = (i : Int) + 1 := by omega
      rw [e1]
      exact he2
    · have lb : b < s.heap.objs.size := by
        rcases List.mem_cons.mp hb with z | z
        · rw [z]; exact le
        · rw [List.mem_singleton.mp z]; exact li
      rw [upd_ne (Nat.ne_of_lt lb)]
      exact (hf b hb).1
  done := by
    intro X hP hw hK hc i pins s σ H E I hf st hg
    subst hP hw hK
    obtain ⟨⟨old, he⟩, hit⟩ := st
    obtain ⟨xs, hq, hx⟩ := hg
    obtain ⟨its, rv, p, _⟩ := I.tuple hq
    have pt : s.heap.IsTuple a its.toArray := p
    have hl := rv.length
    have n1 : a ≠ it := fun z => by
      obtain ⟨o1, g1, c1, _⟩ := pt
      obtain ⟨o2, g2, c2, _⟩ := hit
      rw [z, g2] at g1
      cases g1
      rw [c2] at c1
      injection c1 with c3
      exact absurd c3 (by decide)
    obtain ⟨f0, f1, _, f3, f4, f5⟩ := hf it (by simp)
    have ei : its.toArray.size = i := by simp; omega
    exact wpAny_pyNext_enum_endD (Draws.tuple (A := X.A.in1) (I.ok.hd hc) it a n1 its.toArray) he (show s.heap.IsTupleIter it a its.toArray.size ∧ _ from ⟨ei ▸ hit, pt⟩) fun h' eb => ⟨rfl, I.turned (t' := s.toks) (fun b o hb q => eb b o hb q) f0 f1 f3 f4 f5⟩
  self := fun A i s Q E st h => let ⟨⟨_, he⟩, _⟩ := st; wpAny_pyIter_enum he h
/-- for i, x in enumerate(t) -/
def iEnumT (K : PySem.W.Frag) (ta : TA) : TI := fun σ H R => ta σ H fun vs H1 => ∃ a xs, vs = [.ref a] ∧ SqT K H1 a xs ∧ R (Itn K a) H1
theorem pi_enumT {X : Cx} {e : Expr} {ta : TA} {p pos tpos : Pos} {elts : List Expr} {kk : Nat} (hg : Gl X "enumerate") (hm : X.mg "enumerate" = none) (ha : PA X [e] ta) (hs : starEach [e] X.env = [(false, eval e X.env)] := by rfl) :
    PI X (.Tuple elts kk tpos) (.Call (.Name "enumerate" p) [e] [] pos) (iEnumT X.K ta) := ⟨fun pins s σ H R I h =>
  Call_ (ld_blt I hg hm boot_enumerate (PyProof.Rows.callWith_type1 (thn (ha.run pos pins s σ H _ I h) fun us s1 ⟨vs, H1, I1, r1, a, xs, ex, hq, q⟩ => by
    subst ex
    obtain ⟨u, rfl, ru⟩ := vals1 r1
    cases (show u = Value.ref a from ru)
    obtain ⟨its, rv, pt, _⟩ := I1.tuple hq
    refine call_enum_tup (show s1.heap.IsTuple a its.toArray from pt) fun h' he hit hk => wpAny_pyIter_enum he ?_
    refine ⟨s1.heap.objs.size + 1, [s1.heap.objs.size + 1, s1.heap.objs.size], _, _, H1, rfl, I1.kept (h' := h') (t' := s1.toks) hk, turn_enum_tup a (s1.heap.objs.size + 1) s1.heap.objs.size, ⟨⟨.none, he⟩, hit⟩, fun b hb => ?_, q⟩
    have le : s1.heap.objs.size ≤ b := by
      rcases List.mem_cons.mp hb with z | z
      · rw [z]; exact Nat.le_succ _
      · rw [List.mem_singleton.mp z]; exact Nat.le_refl _
    exact I1.fpOk le (I1.hok.fresh le)) hs rfl))⟩
theorem for_enumT {K : PySem.W.Frag} {a : Addr} {xs : List V} {g : TG} {tb : TS} {D : Ends} {σ : L2.St} {H : Hp} (Pv : Nat → L2.St → Hp → Prop) (h0 : Pv 0 σ H) (hl : ∀ i σ H, i ≤ xs.length → Pv i σ H → SqT K H a xs)
    (hs : ∀ (i : Nat) x T σ H, xs[i]? = some x → H T = none → Pv i σ H → g (.ref T) σ (upd H T (.tup [.int (i : Nat), x])) fun σ2 H2 => tb { D with nx := Pv (i + 1), ct := Pv (i + 1), bk := D.nx } σ2 H2) (hd : ∀ σ H, Pv xs.length σ H → D.nx σ H) :
    ∃ W : Nat → Nat → L2.St → Hp → Prop, (∃ m, W 0 m σ H) ∧ ∀ i m σ H, W i m σ H →
      ((Itn K a).stop i H ∧ D.nx σ H) ∨ ((Itn K a).go i H ∧ ∃ N : L2.St → Hp → Prop, (∀ σ' H', N σ' H' → ∃ m', m' < m ∧ W (i + 1) m' σ' H') ∧ ∀ x H', (Itn K a).yld i H x H' → g x σ H' fun σ2 H2 => tb { D with nx := N, ct := N, bk := D.nx } σ2 H2) := by
  refine ⟨fun i m σ H => m + i = xs.length ∧ Pv i σ H, ⟨xs.length, rfl, h0⟩, fun i m σ H ⟨em, pv⟩ => ?_⟩
  have sq := hl i σ H (by omega) pv
  cases m with
  | zero =>
    have ei : i = xs.length := by omega
    exact .inl ⟨⟨xs, sq, ei.symm⟩, hd σ H (ei ▸ pv)⟩
  | succ m =>
    have hi : i < xs.length := by omega
    refine .inr ⟨⟨xs, xs[i], sq, List.getElem?_eq_getElem hi⟩, Pv (i + 1), fun σ2 H2 p2 => ⟨m, Nat.lt_succ_self _, by omega, p2⟩, fun x H2 ⟨T, y, ex, nT, eH, f⟩ => ?_⟩
    subst ex eH
    exact hs i y T σ H (f xs sq) nT pv

/-! ### {t: v}, t a tuple -/
def tDispT (tk tv : TE) : TE := fun σ H Q => ∀ p, H p = none → tk σ (upd H p (.dT [])) fun x H1 => tv σ H1 fun y H2 => H2 p = some (.dT []) ∧ ∃ (k : List Key) (b : Addr), x = .ref b ∧ H2 b = some (.tup (k.map kV)) ∧ Q (.ref p) (upd H2 p (.dT [(k, y)]))
theorem pe_dispT {X : Cx} {pos : Pos} {ke ve : Expr} {tk tv : TE} (hu : X.A.units + 1 < cLine) (hk : PE X ke tk) (hv : PE X ve tv) : PE X (.Dict [some ke] [ve] pos) (tDispT tk tv) := by
  refine ⟨fun pins s σ H Q I q => ?_⟩
  have I1 := I.laid (o := .dT []) (h' := s.heap.push { cls := .type "dict", data := .dict #[] }) (t' := s.toks) (fun _ _ q => Heap.get?_push_of_some _ q) (Nat.le_refl _) (dt_empty s.heap I.big)
  have w1 := (pps_cons hk hv (pps_nil (pos := pos))).run pins _ σ _ (fun ps H2 => match ps with
    | [(x, y)] => H2 s.heap.objs.size = some (.dT []) ∧ ∃ (k : List Key) (b : Addr), x = .ref b ∧ H2 b = some (.tup (k.map kV)) ∧ Q (.ref s.heap.objs.size) (upd H2 s.heap.objs.size (.dT [(k, y)]))
    | _ => False) I1 (q _ (I.hok.fresh (Nat.le_refl _)))
  rw [arm_eval_Dict, zip_pairTrees [some ke] [ve] X.env pos rfl rfl, dictDisplay_pairs (pairTrees [some ke] [ve] X.env pos) (fun z => by cases z) (Nat.succ_lt_succ (Nat.zero_lt_succ 15))]
  refine wpAny_bind (wpAny_standAt (wpAny_bind (wpAny_subDictH (knd := tupleKind (mixKind X.prog X.w)) (Nat.lt_of_succ_lt hu) (Nat.succ_le_succ (Nat.zero_le 14)) (thn w1 fun ws s2 ⟨ps, H2, I2, rel, q2⟩ => ?_))))
  cases rel with
  | nil => exact q2.elim
  | @cons p1 w2 _ _ r t =>
    cases t with
    | cons _ _ => exact q2.elim
    | nil =>
      obtain ⟨x, y⟩ := p1
      obtain ⟨wk, wv⟩ := w2
      obtain ⟨r1, r2⟩ := r
      obtain ⟨hp, k, b, ex, hb, q2⟩ := q2
      subst ex
      cases (show wk = Value.ref b from r1)
      obtain ⟨_, hd, xs, rk, dd⟩ := dt_of I2.hok hp
      cases rk
      refine ⟨[(k, b, wv)], ⟨rfl, rfl, key_of I2.hok hb, trivial⟩, dd, fun h' tk' dd' sb => wpAny_pure ⟨.ref s.heap.objs.size, _, ?_, rfl, q2⟩⟩
      obtain ⟨o, es, ep, g1, g2, g3, g4, _, g6⟩ := dd'
      refine d_write I2 (by rw [hp]; trivial) sb ⟨o, g1⟩ ⟨by show 1 ≤ sizeLine; decide, hd, [(k, b, wv)], .cons ⟨rfl, ?_, r2⟩ .nil, o, es, ep, g1, g2, g3, g4, g6⟩
      rw [upd_ne (ne_of hb hp fun z => nomatch z)]
      exact hb

/-! ### t.count(k) -/
def cntIs (k : Int) : Value → Bool
  | .int n _ => n == k
  | _ => false
theorem mt_tcount {X : Cx} : MtR X "tuple.count" (fun x xs H Q => ∃ (p : Addr) (ns : List Int) (k : Int), x = .ref p ∧ xs = [.int k] ∧ SqT X.K H p (ns.map V.int) ∧ Q (.int (ns.count k : Nat)) H) := by
  intro pins s σ H x xs v us Q I rx rxs h
  obtain ⟨p, ns, k, rfl, rfl, hs, q⟩ := h
  cases rx
  obtain ⟨u, rfl, t, rfl⟩ := rxs.one
  obtain ⟨its, rv, ⟨⟨cls, dd, data, sl⟩, ho, hc, n, hd⟩, _⟩ := I.tuple hs
  simp only at hc hd
  subst hc hd
  have gives : ∀ {us : List Value} {ns : List Int}, Vals (ns.map V.int) us → (∀ y ∈ us, SeqAt.EqAt X.A.in1 s y (.int k t) (cntIs k y)) ∧ us.countP (cntIs k) = ns.count k := by
    intro us ns
    induction ns generalizing us with
    | nil =>
      intro r
      cases r
      exact ⟨fun y hy => (by cases hy), rfl⟩
    | cons m r ih =>
      intro rr
      cases rr with
      | cons r1 r2 =>
        obtain ⟨t2, rfl⟩ := r1
        obtain ⟨h1, h2⟩ := ih r2
        refine ⟨fun y hy => ?_, ?_⟩
        · rcases List.mem_cons.mp hy with z | z
          · rw [z]
            exact SeqAt.EqAt.int_int m t2 k t
          · exact h1 y z
        · rw [List.countP_cons, List.count_cons, h2] <;> rfl
  obtain ⟨g1, g2⟩ := gives rv
  refine call_meets PySem.F.slot_tuple_count ⟨_, ho, rfl⟩ PySem.F.entry_tuple_count (PySem.F.args_tuple_count_2 _ _) (SeqAt.tuple_countAt p its.toArray n dd sl (.int k t) (cntIs k)) ⟨ho, fun y hy => g1 y (by simpa using hy), ?_⟩
  refine ⟨.int (ns.count k : Nat), H, I.tok _, ⟨s.toks, ?_⟩, q⟩
  rw [← g2]

/-! ### min of a list, whatever the items are, by their order over the heap that stands -/
section
variable {prog : Program} {w : World} {A : Around} {R : Result → Shared → Prop} {I S : Addr} {fp wr : List Addr} {n : Nat} {P : Nat → Value → Prop} {Sx : Nat → Heap → Prop} {g : Heap}
def Ho (g h : Heap) : Prop := ∀ b o, g.get? b = some o → h.get? b = some o
def LtOf (prog : Program) (w : World) (A : Around) (g : Heap) (P : Nat → Value → Prop) (bt : Nat → Nat → Bool) : Prop :=
  ∀ i j vi vj (s : Shared) (Q E : Value → Shared → Prop), Ho g s.heap → P i vi → P j vj → Q (.bool (bt i j)) s → wpAny (model prog w) A (richCompare .Lt vi vj) Q E s
theorem min_go (W : Walks prog w A.in1 I fp wr n P Sx) (bt : Nat → Nat → Bool) (lt : LtOf prog w A.in1 g P bt) (sf : S ∉ fp) (gw : ∀ b ∈ wr, g.get? b = none) (gS : g.get? S = none) :
    ∀ (k j : Nat) (s : Shared) (vb : Value) (c : Nat), j + 1 + k = n → Sx (j + 1) s.heap → P (argBest bt j) vb → Ho g s.heap → s.heap.get? S = some { cls := .type "list", dict := none, data := .seq #[vb, vb] c, slots := #[] } →
    (∀ v h' tk, P (argBest bt (n - 1)) v → (∀ b o, b ∉ wr → b ≠ S → s.heap.get? b = some o → h'.get? b = some o) → R (.ok (.ret v)) { s with heap := h', toks := tk }) →
    codeAny (model prog w) A (.builtin "min.loop" ⟨[.ref I, .none, .ref S], []⟩) R s := by
  have sw : S ∉ wr := fun z => sf (W.sub _ z)
  have nm : (toString "min" ++ toString ".loop" : String) = "min.loop" := by decide
  have ho1 : ∀ {h h' : Heap}, Ho g h → (∀ b o, b ∉ wr → h.get? b = some o → h'.get? b = some o) → Ho g h' := fun a k b o e => k b o (fun z => by rw [gw b z] at e; cases e) (a b o e)
  have ho2 : ∀ {h : Heap} {f : Obj → Obj}, Ho g h → Ho g (h.update S f) := fun a b o e => (Heap.get?_update_other _ _ (fun z => by rw [← z, gS] at e; cases e)).trans (a b o e)
  intro k
  induction k with
  | zero =>
    intro j s vb c hj st pb kp hS hR
    have hn : j + 1 = n := hj
    subst hn
    refine codeAny_builtin F.entry_min_loop ?_
    rw [Around.under_plainId F.plain_min_loop _]
    show wpAny _ A.in1 (seqItems? (.ref S) >>= _) _ _ s
    refine wpAny_bind (wpAny_seqItems hS rfl ?_)
    show wpAny _ A.in1 (tryCatch (pyNext (.ref I)) _ >>= _) _ _ s
    refine wpAny_bind (wpAny_tryCatch (W.done s _ _ st fun h1 tk k1 => ?_))
    have s1 := k1 S _ sw hS
    show wpAny _ A.in1 (updateSeq S (fun _ => #[]) >>= _) _ _ _
    refine wpAny_bind (wpAny_updateSeq s1 rfl (wpAny_bind (wpAny_letGo (wpAny_pure ?_))))
    exact hR vb _ tk pb fun b o bw bS e => (Heap.get?_update_other _ _ bS.symm).trans (k1 b o bw e)
  | succ k ih =>
    intro j s vb c hj st pb kp hS hR
    have lt1 : j + 1 < n := by omega
    refine codeAny_builtin F.entry_min_loop ?_
    rw [Around.under_plainId F.plain_min_loop _]
    show wpAny _ A.in1 (seqItems? (.ref S) >>= _) _ _ s
    refine wpAny_bind (wpAny_seqItems hS rfl ?_)
    show wpAny _ A.in1 (tryCatch (pyNext (.ref I)) _ >>= _) _ _ s
    refine wpAny_bind (wpAny_tryCatch (W.item (j + 1) s _ _ lt1 st fun v h1 tk pv st1 k1 => ?_))
    have s1 := k1 S _ sw hS
    have kp1 := ho1 kp k1
    show wpAny _ A.in1 (tryCatch (holding [v, v] (richCompare .Lt v vb >>= _)) _ >>= _) _ _ _
    refine wpAny_bind (wpAny_tryCatch (wpAny_holding (wpAny_bind (lt (j + 1) (argBest bt j) v vb _ _ _ kp1 pv pb ?_))))
    refine wpAny_bind (wpAny_holding (wpAny_truthy_bool (wpAny_bind (wpAny_letGo (wpAny_pure ?_)))))
    cases hb : bt (j + 1) (argBest bt j) with
    | true =>
      simp only [if_true]
      refine wpAny_bind (wpAny_updateSeq s1 rfl (wpAny_bind (wpAny_letGo ?_)))
      rw [nm]
      refine wpAny_pure ⟨plainId_quiet F.plain_min_loop _, ih (j + 1) _ v _ (by omega) (W.frame _ _ _ st1 fun b bf o e => ?_) (by simp only [argBest, hb, if_true]; exact pv) (ho2 kp1) (Heap.get?_update_self _ s1 rfl) fun v2 h2 tk2 p2 k2 => ?_⟩
      · exact (Heap.get?_update_other _ _ (fun z : S = b => sf (z ▸ bf))).trans e
      · exact hR v2 h2 tk2 p2 fun b o bw bS e => k2 b o bw bS ((Heap.get?_update_other _ _ bS.symm).trans (k1 b o bw e))
    | false =>
      simp only [Bool.false_eq_true, if_false]
      refine wpAny_bind (wpAny_letGo ?_)
      rw [nm]
      refine wpAny_pure ⟨plainId_quiet F.plain_min_loop _, ih (j + 1) _ vb c (by omega) st1 (by simp only [argBest, hb, Bool.false_eq_true, if_false]; exact pb) kp1 s1 fun v2 h2 tk2 p2 k2 => ?_⟩
      exact hR v2 h2 tk2 p2 fun b o bw bS e => k2 b o bw bS (k1 b o bw e)
end
theorem min_listH {prog : Program} {w : World} {A : Around} {E : Value → Shared → Prop} {s : Shared} {l : Addr} {items : Array Value} {bt : Nat → Nat → Bool} {Q : Value → Shared → Prop} (hh : A.handled = none) (hl : s.heap.IsList l items) (hn : 0 < items.size)
    (lt : LtOf prog w A.in1 s.heap (fun i v => items[i]? = some v) bt) (h : ∀ v h' tk, items[argBest bt (items.size - 1)]? = some v → (∀ b o, s.heap.get? b = some o → h'.get? b = some o) → Q v { s with heap := h', toks := tk }) :
    wpAny (model prog w) A (call (.builtin "min") [.ref l]) Q E s := by
  have nm : (toString "min" ++ toString ".loop" : String) = "min.loop" := by decide
  refine call_function_tree F.kind_min F.plain_min F.entry_min (F.args_min1 _) ?_
  show wpAny _ A.in1 (Builtin.Builtins.bindParams "min" ["key", "default"] 0 ⟨[], []⟩ >>= _) _ _ s
  refine wpAny_bind (wpAny_of_eq (show Builtin.Builtins.bindParams "min" ["key", "default"] 0 ⟨[], []⟩ = pure [none, none] from rfl) (wpAny_bind (wpAny_pure ?_)))
  have ll : l < s.heap.objs.size := by
    obtain ⟨_, e, _⟩ := hl
    exact Heap.lt_size e
  have ne : l ≠ s.heap.objs.size := Nat.ne_of_lt ll
  have W := Walks.list (prog := prog) (w := w) (A := A.in1) hh s.heap.objs.size l ne items
  have no : ∀ b, s.heap.objs.size ≤ b → s.heap.get? b = none := fun b z => Heap.get?_none_of_le z
  refine wpAny_bind (wpAny_pyIter_list hl (wpAny_bind (wpAny_newObj_type ?_)))
  rw [nm]
  have z1 : (s.heap.push { cls := .type "list_iterator", data := .fields #[.ref l, .int 0 0] }).objs.size = s.heap.objs.size + 1 := Heap.size_push ..
  -- the first item
  refine wpAny_pure ⟨plainId_quiet F.plain_min_loop _, ?_⟩
  rw [z1]
  generalize hg : (s.heap.push { cls := .type "list_iterator", data := .fields #[.ref l, .int 0 0] }).push { cls := .type "list", data := .seq #[] } = hp
  have k0 : Ho s.heap hp := fun b o e => by
    rw [← hg]
    exact Heap.get?_push_of_some _ (Heap.get?_push_of_some _ e)
  have sS : hp.get? (s.heap.objs.size + 1) = some { cls := .type "list", dict := none, data := .seq #[], slots := #[] } := by
    rw [← hg, ← z1]
    exact Heap.get?_push_size _ rfl
  have st0 : hp.IsListIter s.heap.objs.size l 0 ∧ hp.IsList l items := by
    refine ⟨⟨{ cls := .type "list_iterator", data := .fields #[.ref l, .int 0 0] }, ?_, rfl, rfl⟩, hl.at fun o e => k0 l o e⟩
    rw [← hg]
    exact Heap.get?_push_of_some _ (Heap.get?_push_size _ rfl)
  have sf : s.heap.objs.size + 1 ∉ [s.heap.objs.size, l] := by
    intro z
    rcases List.mem_cons.mp z with q | q
    · exact absurd q (Nat.succ_ne_self _)
    · have q1 : s.heap.objs.size + 1 = l := List.mem_singleton.mp q
      have q2 : (l : Nat) < s.heap.objs.size := ll
      exact absurd q2 (by rw [← q1]; exact Nat.not_lt.mpr (Nat.le_succ _))
  refine codeAny_builtin F.entry_min_loop ?_
  rw [Around.under_plainId F.plain_min_loop _]
  show wpAny _ A.in1 (seqItems? (.ref (s.heap.objs.size + 1)) >>= _) _ _ _
  refine wpAny_bind (wpAny_seqItems sS rfl ?_)
  show wpAny _ A.in1 (tryCatch (pyNext (.ref s.heap.objs.size)) _ >>= _) _ _ _
  refine wpAny_bind (wpAny_tryCatch (W.item 0 _ _ _ hn st0 fun v h1 tk pv st1 k1 => ?_))
  have w1 : s.heap.objs.size + 1 ∉ [s.heap.objs.size] := fun z => sf (List.mem_cons.mpr (.inl (List.mem_singleton.mp z)))
  have s1 := k1 _ _ w1 sS
  have kp1 : Ho s.heap h1 := fun b o e => k1 b o (fun z => by rw [List.mem_singleton.mp z, no _ (Nat.le_refl _)] at e; cases e) (k0 b o e)
  show wpAny _ A.in1 (updateSeq (s.heap.objs.size + 1) (fun _ => #[v, v]) >>= _) _ _ _
  refine wpAny_bind (wpAny_updateSeq s1 rfl ?_)
  rw [nm]
  refine wpAny_pure ⟨plainId_quiet F.plain_min_loop _, min_go W bt lt sf (fun b hb => by rw [List.mem_singleton.mp hb]; exact no _ (Nat.le_refl _)) (no _ (Nat.le_succ _)) (items.size - 1) 0 _ v _ (by omega) (W.frame _ _ _ st1 fun b bf o e => ?_) pv
    (fun b o e => (Heap.get?_update_other _ _ (fun z => by rw [← z, no _ (Nat.le_succ _)] at e; cases e)).trans (kp1 b o e)) (Heap.get?_update_self _ s1 rfl) fun v2 h2 tk2 p2 k2 => ?_⟩
  · exact (Heap.get?_update_other _ _ (fun z : s.heap.objs.size + 1 = b => sf (z ▸ bf))).trans e
  · refine h v2 h2 tk2 p2 fun b o e => k2 b o (fun z => by rw [List.mem_singleton.mp z, no _ (Nat.le_refl _)] at e; cases e) (fun z => by rw [z, no _ (Nat.le_succ _)] at e; cases e) ?_
    exact (Heap.get?_update_other _ _ (fun z => by rw [← z, no _ (Nat.le_succ _)] at e; cases e)).trans (kp1 b o e)
end Fw

set_option Elab.async false
set_option linter.all false
set_option maxRecDepth 100000
set_option maxHeartbeats 4000000
/-! FwMin: min of a list of words, of a list of pairs (number, word). -/
namespace Fw
open PySem PySem.Spec PyProof.Rows L2
/-! ### the place of the least one -/
theorem best_le (f : Nat → List Int) : ∀ k : Nat, argBest (fun i j => HT.lexLt (f i) (f j)) k ≤ k ∧ ∀ j, j ≤ k → HT.lexLt (f j) (f (argBest (fun i j => HT.lexLt (f i) (f j)) k)) = false
  | 0 => ⟨Nat.le_refl _, fun j hj => by
    have e : j = 0 := by omega
    rw [e]
    exact lex_irr _⟩
  | k + 1 => by
    obtain ⟨h1, h2⟩ := best_le f k
    show (if HT.lexLt (f (k + 1)) (f (argBest (fun i j => HT.lexLt (f i) (f j)) k)) = true then k + 1 else argBest (fun i j => HT.lexLt (f i) (f j)) k) ≤ k + 1 ∧ ∀ j, j ≤ k + 1 → HT.lexLt (f j) (f (if HT.lexLt (f (k + 1)) (f (argBest (fun i j => HT.lexLt (f i) (f j)) k)) = true then k + 1 else argBest (fun i j => HT.lexLt (f i) (f j)) k)) = false
    by_cases hb : HT.lexLt (f (k + 1)) (f (argBest (fun i j => HT.lexLt (f i) (f j)) k)) = true
    · rw [if_pos hb]
      refine ⟨Nat.le_refl _, fun j hj => ?_⟩
      by_cases e : j = k + 1
      · rw [e]
        exact lex_irr _
      · exact lex_le (lex_as hb) (h2 j (by omega))
    · rw [if_neg hb]
      refine ⟨by omega, fun j hj => ?_⟩
      by_cases e : j = k + 1
      · rw [e]
        exact Bool.eq_false_iff.mpr hb
      · exact h2 j (by omega)

/-! ### comparisons over the model's heap -/
section
variable {A : Around} {s : Shared} {l b : Addr} {its ups : List Value} {ns ms : List Int}
theorem int_at {ns : List Int} {us : List Value} (r : Vals (ns.map V.int) us) {j : Nat} (h1 : j < ns.length) : ∃ t, us[j]? = some (.int ns[j] t) := by
  have g : (ns.map V.int)[j]? = some (.int ns[j]) := by
    rw [List.getElem?_map, List.getElem?_eq_getElem h1]
    rfl
  obtain ⟨u, hu, t, rfl⟩ := r.get g
  exact ⟨t, hu⟩
theorem eq_words (hl : IsTup s.heap l its.toArray) (hb : IsTup s.heap b ups.toArray) (r1 : Vals (ns.map V.int) its) (r2 : Vals (ms.map V.int) ups) (hu : A.units < cLine) : ∃ k, SeqAt.EqAt A s (.ref l) (.ref b) k ∧ (k = true → ns = ms) := by
  by_cases e : l = b
  · subst e
    refine ⟨true, SeqAt.EqAt.same _, fun _ => ?_⟩
    obtain ⟨o, g1, _, n, d1⟩ := hl
    obtain ⟨o2, g2, _, n2, d2⟩ := hb
    rw [g1] at g2
    cases g2
    rw [d1] at d2
    injection d2 with d3 _
    have e2 : its = ups := by simpa using congrArg Array.toList d3
    subst e2
    have e3 := r1.inj r2
    exact List.map_inj_right (fun x y q => V.int.inj q) |>.mp e3
  · have l1 : its.length = ns.length := by
      have := r1.length
      rw [List.length_map] at this
      exact this.symm
    have l2 : ups.length = ms.length := by
      have := r2.length
      rw [List.length_map] at this
      exact this.symm
    refine ⟨_, SeqAt.EqAt.of_refs e (SeqAt.RcAt.tuples (e := fun j => ns.getD j 0 == ms.getD j 0) hl hb hu fun j h1 h2 => ?_), fun q => ?_⟩
    · have j1 : j < ns.length := by simpa [l1] using h1
      have j2 : j < ms.length := by simpa [l2] using h2
      obtain ⟨t, g1⟩ := int_at r1 j1
      obtain ⟨u, g2⟩ := int_at r2 j2
      have e1 : its.toArray[j] = .int ns[j] t := by
        have := (List.getElem?_eq_some_iff.mp g1).2
        simpa using this
      have e2 : ups.toArray[j] = .int ms[j] u := by
        have := (List.getElem?_eq_some_iff.mp g2).2
        simpa using this
      rw [e1, e2]
      have d1 : ns.getD j 0 = ns[j] := by rw [List.getD_eq_getElem?_getD, List.getElem?_eq_getElem j1]; rfl
      have d2 : ms.getD j 0 = ms[j] := by rw [List.getD_eq_getElem?_getD, List.getElem?_eq_getElem j2]; rfl
      show SeqAt.EqAt A.in1 s _ _ (ns.getD j 0 == ms.getD j 0)
      rw [d1, d2]
      exact SeqAt.EqAt.int_int _ t _ u
    · obtain ⟨q1, q2⟩ := Bool.and_eq_true_iff.mp q
      have sz : ns.length = ms.length := by
        have := eq_of_beq q2
        simpa [l1, l2] using this
      refine List.ext_getElem sz fun j j1 j2 => ?_
      have q3 := List.all_eq_true.mp q1 j (List.mem_range.mpr (by simp [l1, l2]; omega))
      have q4 : ns.getD j 0 = ms.getD j 0 := eq_of_beq q3
      rw [List.getD_eq_getElem?_getD, List.getD_eq_getElem?_getD, List.getElem?_eq_getElem j1, List.getElem?_eq_getElem j2] at q4
      exact q4
theorem lt_words (hl : IsTup s.heap l its.toArray) (hb : IsTup s.heap b ups.toArray) (r1 : Vals (ns.map V.int) its) (r2 : Vals (ms.map V.int) ups) (hu : A.units < cLine) : SeqAt.RcLt A s (.ref l) (.ref b) (HT.lexLt ns ms) := fun prog w E Q h => by
  have i1 : IntsAre its.toArray.toList ns := intsAre_of r1
  have i2 : IntsAre ups.toArray.toList ms := intsAre_of r2
  exact (HT.lt_tupInts hl hb i1 i2 hu h : wpAny (model prog w) A (compareOp .Lt (.ref l) (.ref b)) Q E s)
theorem lt_pairs {p q : Addr} {x y : Int} {t u : Tok} (hp : IsTup s.heap p #[.int x t, .ref l]) (hq : IsTup s.heap q #[.int y u, .ref b]) (hl : IsTup s.heap l its.toArray) (hb : IsTup s.heap b ups.toArray) (r1 : Vals (ns.map V.int) its) (r2 : Vals (ms.map V.int) ups)
    (hu : A.units + 1 < cLine) : SeqAt.RcLt A s (.ref p) (.ref q) (HT.lexLt (x :: ns) (y :: ms)) := by
  have hu1 : A.in1.units < cLine := hu
  obtain ⟨k, ek, yes⟩ := eq_words (A := A.in1) hl hb r1 r2 hu1
  have lw := lt_words (A := A.in1) hl hb r1 r2 hu1
  have c := SeqAt.RcLt.tuples (A := A) (s := s) (e := fun j => match j with
    | 0 => x == y
    | _ => k) (r := fun j => match j with
    | 0 => decide (x < y)
    | _ => HT.lexLt ns ms) hp hq (Nat.lt_of_succ_lt hu) (fun j h1 h2 => ?_) (fun j h1 h2 _ => ?_)
  · have e : SeqAt.firstLt (fun j => match j with
        | 0 => x == y
        | _ => k) (fun j => match j with
        | 0 => decide (x < y)
        | _ => HT.lexLt ns ms) (decide ((#[Value.int x t, .ref l] : Array Value).size < (#[Value.int y u, .ref b] : Array Value).size)) (List.range (min (#[Value.int x t, .ref l] : Array Value).size (#[Value.int y u, .ref b] : Array Value).size)) = HT.lexLt (x :: ns) (y :: ms) := by
      show (if (x == y) = true then (if k = true then false else HT.lexLt ns ms) else decide (x < y)) = (if x = y then HT.lexLt ns ms else decide (x < y))
      by_cases exy : x = y
      · rw [if_pos (beq_iff_eq.mpr exy), if_pos exy]
        cases k with
        | true =>
          rw [yes rfl, if_pos rfl]
          exact (lex_irr _).symm
        | false => exact if_neg Bool.false_ne_true
      · rw [if_neg (fun z => exy (beq_iff_eq.mp z)), if_neg exy]
    rw [e] at c
    exact c
  · match j, h1, h2 with
    | 0, _, _ => exact SeqAt.EqAt.int_int x t y u
    | 1, _, _ => exact ek
    | j + 2, h, _ => exact absurd h (Nat.not_lt.mpr (Nat.le_add_left 2 j))
  · match j, h1, h2 with
    | 0, _, _ => exact fun prog w E Q h => HT.rcLt_int A.in1 s x t y u prog w E Q h
    | 1, _, _ => exact lw
    | j + 2, h, _ => exact absurd h (Nat.not_lt.mpr (Nat.le_add_left 2 j))
end

/-! ### the rules -/
def WordAt (K : PySem.W.Frag) (H : Hp) (v : V) (ns : List Int) : Prop := ∃ a : Addr, v = .ref a ∧ SqT K H a (ns.map V.int)
def PairAt (K : PySem.W.Frag) (H : Hp) (v : V) (p : Int × List Int) : Prop := ∃ a b : Addr, v = .ref a ∧ SqT K H a [.int p.1, .ref b] ∧ SqT K H b (p.2.map V.int)
def rMinOf {α : Type} (At : V → α → Prop) (code : α → List Int) (K : PySem.W.Frag) (H : Hp) : List V → VK → Prop := fun xs Q => ∃ (a : Addr) (vs : List V) (ws : List α), xs = [.ref a] ∧ SqL K H a vs ∧ 0 < vs.length ∧ Paired At vs ws ∧
  ∀ (k : Nat) v w, vs[k]? = some v → ws[k]? = some w → (∀ u ∈ ws, HT.lexLt (code u) (code w) = false) → Q v H
theorem min_core {α : Type} {X : Cx} {At : V → α → Prop} {code : α → List Int} {pins : List (Addr × Obj)} {s : Shared} {σ : L2.St} {H : Hp} {xs : List V} {us : List Value} {Q : VK} (hc : X.calm = true) (I : Inv X pins σ H s) (r : Vals xs us) (h : rMinOf At code X.K H xs Q)
    (cmp : ∀ v u v' u' x y, At v x → At v' y → RelV v u → RelV v' u' → ∀ s' : Shared, Ho s.heap s'.heap → SeqAt.RcLt X.A.in1 s' u u' (HT.lexLt (code x) (code y))) :
    wpAny (model X.prog X.w) X.A (call (.builtin "min") us) (EP X pins σ Q) X.xe s := by
  obtain ⟨a, vs, ws, rfl, hs, hn, pr, fin⟩ := h
  obtain ⟨u, rfl, ru⟩ := vals1 r
  cases (show u = Value.ref a from ru)
  obtain ⟨its, rv, p, _⟩ := I.list hs
  have len := rv.length
  have lw := Paired.length pr
  obtain ⟨w0, hw0⟩ : ∃ w0, ws[0]? = some w0 := ⟨ws[0]'(by omega), List.getElem?_eq_getElem (by omega)⟩
  have three : ∀ (i : Nat) (v : Value), its.toArray[i]? = some v → ∃ x y, vs[i]? = some x ∧ ws[i]? = some y ∧ RelV x v ∧ At x y := fun i v e => by
    rw [List.getElem?_toArray] at e
    have hi : i < vs.length := by
      have := (List.getElem?_eq_some_iff.mp e).1
      omega
    have g := List.getElem?_eq_getElem hi
    obtain ⟨v2, g2, rx⟩ := rv.get g
    rw [e] at g2
    cases g2
    obtain ⟨y, g3, at_⟩ := paired_get pr g
    exact ⟨_, y, g, g3, rx, at_⟩
  have sz : its.toArray.size = vs.length := by rw [List.size_toArray, ← len]
  refine min_listH (bt := fun i j => HT.lexLt (code (ws.getD i w0)) (code (ws.getD j w0))) (I.ok.hd hc) p.isList (by rw [sz]; exact hn) (fun i j vi vj s' Q' E' ho e1 e2 q => ?_) fun v h' tk e k => ?_
  · obtain ⟨x1, y1, _, g1, r1, t1⟩ := three i vi e1
    obtain ⟨x2, y2, _, g2, r2, t2⟩ := three j vj e2
    have d1 : ws.getD i w0 = y1 := by rw [List.getD_eq_getElem?_getD, g1]; rfl
    have d2 : ws.getD j w0 = y2 := by rw [List.getD_eq_getElem?_getD, g2]; rfl
    have q2 : Q' (.bool (HT.lexLt (code (ws.getD i w0)) (code (ws.getD j w0)))) s' := q
    rw [d1, d2] at q2
    exact cmp x1 vi x2 vj y1 y2 t1 t2 r1 r2 s' ho X.prog X.w E' Q' q2
  · obtain ⟨x, y, g0, g1, rx, _⟩ := three _ v e
    refine ⟨x, H, I.kept k, rx, fin _ x y g0 g1 fun u hu => ?_⟩
    obtain ⟨j, hj, ej⟩ := List.getElem_of_mem hu
    have b := (best_le (fun i => code (ws.getD i w0)) (its.toArray.size - 1)).2 j (by rw [sz, lw]; omega)
    have d1 : ws.getD (argBest (fun i j => HT.lexLt (code (ws.getD i w0)) (code (ws.getD j w0))) (its.toArray.size - 1)) w0 = y := by rw [List.getD_eq_getElem?_getD, g1]; rfl
    have d2 : ws.getD j w0 = u := by rw [List.getD_eq_getElem?_getD, List.getElem?_eq_getElem hj, ej]; rfl
    simp only [d1, d2] at b
    exact b
section
variable {X : Cx}
theorem cr_minW (hc : X.calm = true) (hu : X.A.units + 1 < cLine) : CallR X (.builtin "min") (fun xs H Q => rMinOf (WordAt X.K H) (fun w => w) X.K H xs Q) := by
  intro pins s σ H xs us Q I r h
  refine min_core hc I r h fun v u v' u' x y t1 t2 r1 r2 s' ho => ?_
  obtain ⟨a, rfl, ha⟩ := t1
  obtain ⟨b, rfl, hb⟩ := t2
  cases (show u = Value.ref a from r1)
  cases (show u' = Value.ref b from r2)
  obtain ⟨i1, q1, p1, _⟩ := I.tuple ha
  obtain ⟨i2, q2, p2, _⟩ := I.tuple hb
  have up : ∀ {c : Addr} {z : Array Value}, IsTup s.heap c z → IsTup s'.heap c z := fun {c z} ⟨o, g, k⟩ => ⟨o, ho c o g, k⟩
  exact lt_words (up p1) (up p2) q1 q2 hu
theorem cr_minP (hc : X.calm = true) (hu : X.A.units + 2 < cLine) : CallR X (.builtin "min") (fun xs H Q => rMinOf (PairAt X.K H) (fun p : Int × List Int => p.1 :: p.2) X.K H xs Q) := by
  intro pins s σ H xs us Q I r h
  refine min_core hc I r h fun v u v' u' x y t1 t2 r1 r2 s' ho => ?_
  obtain ⟨a, c, rfl, ha, hc1⟩ := t1
  obtain ⟨b, d, rfl, hb, hd1⟩ := t2
  cases (show u = Value.ref a from r1)
  cases (show u' = Value.ref b from r2)
  obtain ⟨i1, q1, p1, _⟩ := I.tuple ha
  obtain ⟨i2, q2, p2, _⟩ := I.tuple hb
  obtain ⟨i3, q3, p3, _⟩ := I.tuple hc1
  obtain ⟨i4, q4, p4, _⟩ := I.tuple hd1
  have up : ∀ {c : Addr} {z : Array Value}, IsTup s.heap c z → IsTup s'.heap c z := fun {c z} ⟨o, g, k⟩ => ⟨o, ho c o g, k⟩
  obtain ⟨u1, u2, rfl, ⟨t1, rfl⟩, e2⟩ := q1.two
  obtain ⟨u3, u4, rfl, ⟨t3, rfl⟩, e4⟩ := q2.two
  cases (show u2 = Value.ref c from e2)
  cases (show u4 = Value.ref d from e4)
  exact lt_pairs (up p1) (up p2) (up p3) (up p4) q3 q4 hu
end
end Fw

set_option Elab.async false
set_option linter.all false
set_option maxRecDepth 100000
set_option maxHeartbeats 4000000
/-! FwText: the defs of the text by their places, their scopes (printed by gen_text.py). -/
namespace Fw
open PySem PySem.Spec PyProof.Rows L2
def tp (i : Nat) : Stmt := PySem.Challenge.pw_fadewords_k61_whole_riches.main.body.getD i (.Pass ⟨0, 0, 0, 0⟩)
abbrev sWhole : Stmt := tp 12
abbrev sWithin : Stmt := tp 13
abbrev sNeedNumber : Stmt := tp 14
abbrev sTupleOf : Stmt := tp 15
abbrev sNeedValues : Stmt := tp 16
abbrev sWrongLetter : Stmt := tp 17
abbrev sNeedSlate : Stmt := tp 18
abbrev sNeedLetter : Stmt := tp 19
abbrev sStepped : Stmt := tp 21
abbrev sSpread : Stmt := tp 24
abbrev sSpreadTo : Stmt := tp 25
abbrev sNeedWorths : Stmt := tp 27
abbrev sWorthOf : Stmt := tp 28
abbrev sWordsOf : Stmt := tp 29
abbrev sRichest : Stmt := tp 30
abbrev sCopies : Stmt := tp 31
abbrev sTaken : Stmt := tp 33
abbrev sLValues : Stmt := tp 34
abbrev sLWord : Stmt := tp 35
abbrev sLWrite : Stmt := tp 36
abbrev sLSlates : Stmt := tp 37
abbrev sLWords : Stmt := tp 38
abbrev sAlike : Stmt := tp 39
abbrev sLaw : Stmt := tp 40
abbrev FnP (K : PySem.W.Frag) (x : Str) (st : Stmt) (f : Addr) (fd : FuncData) : Prop := FunD K x x (defArgs st) (defBody st) (defScope st) [] [] f fd
theorem scWhole : FnScope ["value"] ["value"] (defScope sWhole) := ⟨rfl, rfl, rfl, by decide +kernel, rfl, by decide +kernel, by decide +kernel⟩
theorem scWithin : FnScope ["value", "low", "high"] ["value", "low", "high"] (defScope sWithin) := ⟨rfl, rfl, rfl, by decide +kernel, rfl, by decide +kernel, by decide +kernel⟩
theorem scNeedNumber : FnScope ["value", "low", "high"] ["value", "low", "high"] (defScope sNeedNumber) := ⟨rfl, rfl, rfl, by decide +kernel, rfl, by decide +kernel, by decide +kernel⟩
theorem scTupleOf : FnScope ["value", "low", "high"] ["value", "low", "high"] (defScope sTupleOf) := ⟨rfl, rfl, rfl, by decide +kernel, rfl, by decide +kernel, by decide +kernel⟩
theorem scNeedValues : FnScope ["value", "told"] ["value"] (defScope sNeedValues) := ⟨rfl, rfl, rfl, by decide +kernel, rfl, by decide +kernel, by decide +kernel⟩
theorem scWrongLetter : FnScope ["many", "value", "index", "letter"] ["many", "value"] (defScope sWrongLetter) := ⟨rfl, rfl, rfl, by decide +kernel, rfl, by decide +kernel, by decide +kernel⟩
theorem scNeedSlate : FnScope ["values", "slate", "index"] ["values", "slate"] (defScope sNeedSlate) := ⟨rfl, rfl, rfl, by decide +kernel, rfl, by decide +kernel, by decide +kernel⟩
theorem scNeedLetter : FnScope ["values", "letter"] ["values", "letter"] (defScope sNeedLetter) := ⟨rfl, rfl, rfl, by decide +kernel, rfl, by decide +kernel, by decide +kernel⟩
theorem scStepped : FnScope ["values", "slate", "letter", "place"] ["values", "slate", "letter"] (defScope sStepped) := ⟨rfl, rfl, rfl, by decide +kernel, rfl, by decide +kernel, by decide +kernel⟩
theorem scSpread : FnScope ["values", "slate"] ["values", "slate"] (defScope sSpread) := ⟨rfl, rfl, rfl, by decide +kernel, rfl, by decide +kernel, by decide +kernel⟩
theorem scSpreadTo : FnScope ["values", "slate", "most", "found", "rim", "later", "here", "letter", "more"] ["values", "slate", "most"] (defScope sSpreadTo) := ⟨rfl, rfl, rfl, by decide +kernel, rfl, by decide +kernel, by decide +kernel⟩
theorem scNeedWorths : FnScope ["values", "worths", "many", "worth"] ["values", "worths"] (defScope sNeedWorths) := ⟨rfl, rfl, rfl, by decide +kernel, rfl, by decide +kernel, by decide +kernel⟩
theorem scWorthOf : FnScope ["worths", "slate", "letter"] ["worths", "slate"] (defScope sWorthOf) := ⟨rfl, rfl, rfl, by decide +kernel, rfl, by decide +kernel, by decide +kernel⟩
theorem scWordsOf : FnScope ["values", "slate", "length", "found", "turn", "later", "here", "letter", "more", "word"] ["values", "slate", "length"] (defScope sWordsOf) := ⟨rfl, rfl, rfl, by decide +kernel, rfl, by decide +kernel, by decide +kernel⟩
theorem scRichest : FnScope ["values", "worths", "slate", "length", "found", "best", "word", "here"] ["values", "worths", "slate", "length"] (defScope sRichest) := ⟨rfl, rfl, rfl, by decide +kernel, rfl, by decide +kernel, by decide +kernel⟩
theorem scCopies : FnScope ["values", "slate", "letter", "length", "some", "here"] ["values", "slate", "letter", "length"] (defScope sCopies) := ⟨rfl, rfl, rfl, by decide +kernel, rfl, by decide +kernel, by decide +kernel⟩
theorem scTaken : FnScope ["_law_row", "_law_many", "_law_found", "_law_cell"] ["_law_row", "_law_many"] (defScope sTaken) := ⟨rfl, rfl, rfl, by decide +kernel, rfl, by decide +kernel, by decide +kernel⟩
theorem scLValues : FnScope ["_law_row", "_law_most", "_law_top", "_law_high", "_law_letter"] ["_law_row", "_law_most", "_law_top"] (defScope sLValues) := ⟨rfl, rfl, rfl, by decide +kernel, rfl, by decide +kernel, by decide +kernel⟩
theorem scLWord : FnScope ["_law_row", "_law_many", "_law_most", "_law_index"] ["_law_row", "_law_many", "_law_most"] (defScope sLWord) := ⟨rfl, rfl, rfl, by decide +kernel, rfl, by decide +kernel, by decide +kernel⟩
theorem scLWrite : FnScope ["_law_values_here", "_law_slate", "_law_word_here", "_law_here", "_law_letter", "_law_spot"] ["_law_values_here", "_law_slate", "_law_word_here"] (defScope sLWrite) := ⟨rfl, rfl, rfl, by decide +kernel, rfl, by decide +kernel, by decide +kernel⟩
theorem scLSlates : FnScope ["_law_values_here", "_law_slate", "_law_found", "_law_rim", "_law_later", "_law_here", "_law_letter", "_law_more"] ["_law_values_here", "_law_slate"] (defScope sLSlates) := ⟨rfl, rfl, rfl, by decide +kernel, rfl, by decide +kernel, by decide +kernel⟩
theorem scLWords : FnScope ["_law_many", "_law_length", "_law_found", "_law_turn", "_law_longer", "_law_word_here", "_law_letter"] ["_law_many", "_law_length"] (defScope sLWords) := ⟨rfl, rfl, rfl, by decide +kernel, rfl, by decide +kernel, by decide +kernel⟩
theorem scAlike : FnScope ["_law_found", "_law_due", "_law_k"] ["_law_found", "_law_due"] (defScope sAlike) := ⟨rfl, rfl, rfl, by decide +kernel, rfl, by decide +kernel, by decide +kernel⟩
theorem scLaw : FnScope ["_law_script", "_law_row", "_law_values_here", "_law_many", "_law_length", "_law_letter", "_law_worths", "_law_slate", "_law_rows", "_law_word_here", "_law_here", "_law_best", "_law_due", "_law_some", "_law_told"] ["_law_script"] (defScope sLaw) := ⟨rfl, rfl, rfl, by decide +kernel, rfl, by decide +kernel, by decide +kernel⟩
/-- what stands in the module -/
structure Mg (mg : Str → Option Value) : Prop where
  n_isinstance : mg "isinstance" = none
  n_int : mg "int" = none
  n_bool : mg "bool" = none
  n_tuple : mg "tuple" = none
  n_len : mg "len" = none
  n_all : mg "all" = none
  n_enumerate : mg "enumerate" = none
  n_range : mg "range" = none
  n_sum : mg "sum" = none
  n_min : mg "min" = none
  n_max : mg "max" = none
  n_list : mg "list" = none
  n_str : mg "str" = none
  v_MOST_LETTERS : ∃ t, mg "MOST_LETTERS" = some (.int 5 t)
  v_MOST_VALUE : ∃ t, mg "MOST_VALUE" = some (.int 6 t)
  v_MOST_SLATE : ∃ t, mg "MOST_SLATE" = some (.int 12 t)
  v_MOST_SLATES : ∃ t, mg "MOST_SLATES" = some (.int 2000 t)
end Fw

set_option Elab.async false
set_option linter.all false
set_option maxRecDepth 100000
set_option maxHeartbeats 4000000
/-! FwTup: tuples of ints whose objects are known (no __dict__), tables keyed by them. -/
namespace Fw
open PySem PySem.Spec PyProof.Rows L2
/-! ### heaps -/
theorem same_upd {H : Hp} {p : Addr} {o : HO} (h : H p = none) : Same H (upd H p o) := fun b x e => by
  rw [upd_ne (ne_of_none e h)]
  exact e
theorem sm_upd {H H1 : Hp} {p : Addr} {o : HO} (a : Same H H1) (h : H p = none) : Same H (upd H1 p o) := fun b x e => by
  rw [upd_ne (ne_of_none e h)]
  exact a b x e
/-! ### tuples -/
def TupI (H : Hp) (a : Addr) (ns : List Int) : Prop := ∃ o : Obj, H a = some (.frz o (.tup (ns.map V.int))) ∧ o.dict = none
section
variable {K : PySem.W.Frag} {H H1 : Hp} {a : Addr} {ns : List Int}
theorem TupI.sq (h : TupI H a ns) : SqT K H a (ns.map V.int) := let ⟨o, e, _⟩ := h; .inl (.inr ⟨o, e⟩)
theorem TupI.same (h : TupI H a ns) (s : Same H H1) : TupI H1 a ns := let ⟨o, e, d⟩ := h; ⟨o, s _ _ e, d⟩
theorem TupI.ty (h : TupI H a ns) : TyX K H (.ref a) (.type "tuple") := let ⟨_, e, _⟩ := h; .fTuple e
theorem TupI.upd {p : Addr} {o : HO} (h : TupI H a ns) (ne : a ≠ p) : TupI (L2.upd H p o) a ns := by
  obtain ⟨ob, e, d⟩ := h
  exact ⟨ob, by rw [upd_ne ne]; exact e, d⟩
theorem vI_inj {ns ms : List Int} (h : ns.map V.int = ms.map V.int) : ns = ms := List.map_inj_right (fun x y q => V.int.inj q) |>.mp h
theorem TupI.inj {ms : List Int} (h : TupI H a ns) (h' : TupI H a ms) : ns = ms := by
  obtain ⟨o, e, _⟩ := h
  obtain ⟨o2, e2, _⟩ := h'
  rw [e] at e2
  injection e2 with e3
  injection e3 with _ e4
  injection e4 with e5
  exact vI_inj e5
end
section
variable {X : Cx} {pins : List (Addr × Obj)} {σ : L2.St} {H : Hp} {s : Shared}
/-- a tuple just laid -/
theorem new_tup {ns : List Int} {its : List Value} (I : Inv X pins σ H s) (r : Vals (ns.map V.int) its) (z : ns.length ≤ sizeLine) :
    ∃ H', Inv X pins σ H' { s with heap := s.heap.push { cls := .type "tuple", data := .seq its.toArray } } ∧ H s.heap.objs.size = none ∧ Same H H' ∧ TupI H' s.heap.objs.size ns := by
  have hn : H s.heap.objs.size = none := I.hok.fresh (Nat.le_refl _)
  refine ⟨upd H s.heap.objs.size (.frz { cls := .type "tuple", data := .seq its.toArray } (.tup (ns.map V.int))), I.laid (t' := s.toks) (fun b o e => Heap.get?_push_of_some _ e) (Nat.le_refl _) ⟨Heap.get?_push_size _ rfl, by rw [List.length_map]; exact z, its, r, IsTup.new _ _⟩, hn, same_upd hn, _, upd_same, rfl⟩
theorem TupI.raw {a : Addr} {ns : List Int} (I : Inv X pins σ H s) (h : TupI H a ns) : ∃ its : List Value, Vals (ns.map V.int) its ∧ IsTup s.heap a its.toArray ∧ ns.length ≤ sizeLine ∧ ∃ o, s.heap.get? a = some o ∧ o.dict = none := by
  obtain ⟨o, e, d⟩ := h
  obtain ⟨g, z, its, r, p⟩ := I.hok a _ e
  exact ⟨its, r, p, by rw [List.length_map] at z; exact z, o, g, d⟩
end
/-- a display of ints -/
def tTupP (t : TA) : TE := fun σ H Q => t σ H fun xs H1 => ∃ ns : List Int, xs = ns.map V.int ∧ ns.length ≤ 100000 ∧ ∀ p H', H1 p = none → Same H1 H' → TupI H' p ns → Q (.ref p) H'
theorem small_line {n : Nat} (h : n ≤ 100000) : n ≤ sizeLine := Nat.le_of_lt (Nat.lt_of_le_of_lt h (by decide))
theorem pe_tupP {X : Cx} {es : List Expr} {pos : Pos} {t : TA} {x1 : Nat} (h : PA X es t) : PE X (.Tuple es x1 pos) (tTupP t) := ⟨fun pins s σ H Q I hq =>
  wpAny_Tuple_spliced (thn (h.run pos pins s σ H _ I hq) fun us s1 ⟨xs, H1, I1, r, ns, ex, z, q⟩ => by
    subst ex
    obtain ⟨H2, I2, n2, s2, t2⟩ := new_tup I1 r (small_line z)
    exact ⟨by rw [← r.length, List.length_map]; exact small_line z, .ref s1.heap.objs.size, H2, I2, rfl, q _ H2 n2 s2 t2⟩)⟩
/-- t + u -/
def rCatP : R2 := fun x y H Q => ∃ (a b : Addr) (xs ys : List Int), x = .ref a ∧ y = .ref b ∧ TupI H a xs ∧ TupI H b ys ∧ xs.length + ys.length ≤ 100000 ∧ ∀ p H', Same H H' → TupI H' p (xs ++ ys) → Q (.ref p) H'
theorem op_catP {X : Cx} : OpR X (binaryOp .Add) rCatP := by
  intro pins s σ H x y v u Q I rx ry h
  obtain ⟨a, b, xs, ys, rfl, rfl, ha, hb, hl, q⟩ := h
  cases (show v = Value.ref a from rx)
  cases (show u = Value.ref b from ry)
  obtain ⟨i1, r1, p1, _, _⟩ := ha.raw I
  obtain ⟨i2, r2, p2, _, _⟩ := hb.raw I
  have l1 := r1.length
  have l2 := r2.length
  rw [List.length_map] at l1 l2
  by_cases e1 : xs = []
  · subst e1
    cases r1
    exact cat_tup0 p1 p2 ⟨.ref b, H, I, rfl, q b H (Same.refl H) hb⟩
  · have n1 : i1 ≠ [] := fun z => by
      rw [z] at l1
      exact e1 (List.eq_nil_of_length_eq_zero l1)
    refine HT.cat_tup p1 p2 n1 (fun z => ?_) (fun _ => ?_) (small_line (by omega))
    · rw [z] at l2
      have e2 : ys = [] := List.eq_nil_of_length_eq_zero l2
      subst e2
      exact ⟨.ref a, H, I, rfl, q a H (Same.refl H) (by rw [List.append_nil]; exact ha)⟩
    · have rr : Vals ((xs ++ ys).map V.int) (i1 ++ i2) := by
        rw [List.map_append]
        exact r1.append r2
      obtain ⟨H2, I2, _, s2, t2⟩ := new_tup I rr (small_line (by rw [List.length_append]; exact hl))
      exact ⟨.ref s.heap.objs.size, H2, I2, rfl, q _ H2 s2 t2⟩
/-- t[lo:hi], not the whole -/
def rSlP : V → Option Int → Option Int → Hp → VK → Prop := fun x lo hi H Q => ∃ (a : Addr) (ns ms : List Int), x = .ref a ∧ TupI H a ns ∧ ¬ (HT.sIx ns.length 0 lo = 0 ∧ HT.sIx ns.length ns.length hi = ns.length) ∧ cutV (ns.map V.int) lo hi = ms.map V.int ∧ ∀ p H', Same H H' → TupI H' p ms → Q (.ref p) H'
theorem sl_tupP {X : Cx} : SlR X rSlP := by
  intro pins s σ H x v vl vu lo hi sl Q I rx hs pl pu h
  obtain ⟨a, ns, ms, rfl, ha, hw, ec, q⟩ := h
  cases (show v = Value.ref a from rx)
  obtain ⟨its, r, p1, hz, _⟩ := ha.raw I
  have len := r.length
  rw [List.length_map] at len
  have sz : its.toArray.size = ns.length := by rw [List.size_toArray]; exact len.symm
  refine ⟨"tuple", _, PyProof.Rows.slot_tuple_getitem.lookup, p1.typeIs, ?_⟩
  refine HT.getItem_tuple_cut p1 hs pl pu (by rw [sz]; exact hw) ?_ (by rw [sz]; exact hz)
  rw [sz]
  have rr := (r.drop (HT.sIx ns.length 0 lo)).take (HT.sIx ns.length ns.length hi - HT.sIx ns.length 0 lo)
  have ec2 : ((ns.map V.int).drop (HT.sIx ns.length 0 lo)).take (HT.sIx ns.length ns.length hi - HT.sIx ns.length 0 lo) = ms.map V.int := by
    rw [← ec]
    unfold cutV
    rw [List.length_map]
  rw [ec2] at rr
  have lm : ms.length ≤ ns.length := by
    have := congrArg List.length ec2
    rw [List.length_map, List.length_take, List.length_drop, List.length_map] at this
    omega
  obtain ⟨H2, I2, _, s2, t2⟩ := new_tup I rr (Nat.le_trans lm hz)
  exact ⟨.ref s.heap.objs.size, H2, I2, rfl, q _ H2 s2 t2⟩
/-- tuple(list of ints) -/
theorem call_tupP {X : Cx} : CallR X (.type "tuple") (fun xs H Q => ∃ (l : Addr) (ns : List Int), xs = [.ref l] ∧ SqL X.K H l (ns.map V.int) ∧ ∀ p H', H p = none → Same H H' → TupI H' p ns → Q (.ref p) H') := by
  intro pins s σ H xs us Q I r h
  obtain ⟨l, ns, rfl, hl, q⟩ := h
  obtain ⟨u, rfl, ru⟩ := vals1 r
  cases (show u = Value.ref l from ru)
  obtain ⟨its, r1, pl, hz⟩ := I.list hl
  have len := r1.length
  rw [List.length_map] at hz
  refine call_tuple_list pl.isList (fun h' kp => ?_) (by simp only [List.size_toArray]; rw [List.length_map] at len; omega)
  have I1 : Inv X pins σ H { s with heap := h' } := I.kept (t' := s.toks) kp
  obtain ⟨H2, I2, n2, s2, t2⟩ := new_tup I1 r1 hz
  exact ⟨.ref h'.objs.size, H2, I2, rfl, q _ H2 n2 s2 t2⟩
/-- a method of such a tuple -/
def tBMT (r : V → List V → Hp → VK → Prop) (to : TE) (t : TA) : TE := fun σ H Q => to σ H fun x H1 => (∃ a ns, x = .ref a ∧ TupI H1 a ns) ∧ t σ H1 fun xs H2 => r x xs H2 Q
theorem pe_bmT {X : Cx} {o e : Expr} {es : List Expr} {name : Str} {id : String} {apos cpos : Pos} {r : V → List V → Hp → VK → Prop} {to : TE} {t : TA} (slot : Slot "tuple" name id) (hty : typeOf (.builtin id) = pure (.type "method_descriptor")) (hm : MtR X id r) (ho : PE X o to) (ha : PA X (e :: es) t)
    (hbase : attributeBase o name X.env (eval o X.env) = eval o X.env := by rfl)
    (few : ((backTo cpos (starEach (e :: es) X.env)).all (fun x => !x.1) && (backToKw cpos (keywordEach [] X.env)).all (fun x => x.1.isSome) && decide ((e :: es).length + ([] : List Keyword).length + (if ([] : List Keyword).isEmpty then 0 else 1) < 30)) = true := by rfl)
    (line : (apos.endLine == cpos.line) = true := by rfl) (st : starEach (e :: es) X.env = (false, eval e X.env) :: starEach es X.env := by rfl) (pln : (backTo cpos (starEach es X.env)).any (·.1) = false := by rfl) :
    PE X (.Call (.Attribute o name apos) (e :: es) [] cpos) (tBMT r to t) := ⟨fun pins s σ H Q I h =>
  wpAny_Call_method_late hbase few line rfl (thn (ho.run pins s σ H _ I h) fun v s1 ⟨x, H1, I1, r1, ⟨a, ns, ex, ta⟩, q1⟩ => by
    subst ex
    cases (show v = Value.ref a from r1)
    obtain ⟨its, _, p1, _, ob, g, d⟩ := ta.raw I1
    refine ⟨"tuple", id, PySem.F.plainAttrs_tuple, slot, hty, p1.typeIs, fun b e => (by cases e; exact ⟨ob, g, d⟩), ?_⟩
    have hA := ha.run cpos pins s1 σ H1 _ I1 q1
    rw [st] at hA ⊢
    refine Calls.callWith_builtin (by show (false || (backTo cpos (starEach es X.env)).any (·.1)) = false; rw [pln] <;> rfl) (Calls.evalArgs_plain (thn hA fun us s2 ⟨vs, H2, I2, r2, q2⟩ => hm pins s2 σ H2 _ vs _ us Q I2 r1 r2 q2)))⟩

/-! ### tables keyed by such tuples -/
def rowsX (D : List En) (ks : List Addr) : List (List Key × Addr × Value) := List.zipWith (fun (e : En) (q : Addr) => (e.1.map Sum.inl, q, Value.ref e.2.2)) D ks
def DXf (P : Program) (w : World) (d : Addr) (D : List En) (ks : List Addr) (h : Heap) : Prop := (d == sysModules) = false ∧ ∃ o es ep, h.get? d = some o ∧ o.ExactDict ∧ o.data = .dict es ep ∧ es.toList = (rowsX D ks).map (entryOfKey (tupleKind (mixKind P w))) ∧ ((rowsX D ks).map (·.1)).Nodup
def DXo (P : Program) (w : World) (d : Addr) (D : List En) (ks : List Addr) : HO := .ext (DXf P w d D ks)
abbrev KeysI (H : Hp) : List En → List Addr → Prop := Paired fun (e : En) (q : Addr) => TupI H q e.1
/-- it may be written; it may be read -/
def DictW (P : Program) (w : World) (H : Hp) (d : Addr) (D : List En) : Prop := ∃ ks, H d = some (DXo P w d D ks) ∧ KeysI H D ks
def DictR (P : Program) (w : World) (H : Hp) (d : Addr) (D : List En) : Prop := ∃ ks, Rd H d (DXo P w d D ks) ∧ KeysI H D ks
section
variable {P : Program} {w : World} {H H1 : Hp} {d : Addr} {D : List En} {ks : List Addr}
theorem DictW.r (h : DictW P w H d D) : DictR P w H d D := let ⟨ks, a, b⟩ := h; ⟨ks, .inl a, b⟩
theorem KeysI.same (h : KeysI H D ks) (s : Same H H1) : KeysI H1 D ks := Paired.mapP h fun _ _ t => t.same s
theorem DictW.same (h : DictW P w H d D) (s : Same H H1) : DictW P w H1 d D := let ⟨ks, a, b⟩ := h; ⟨ks, s _ _ a, KeysI.same b s⟩
theorem DictR.same (h : DictR P w H d D) (s : Same H H1) : DictR P w H1 d D := by
  obtain ⟨ks, a, b⟩ := h
  refine ⟨ks, ?_, KeysI.same b s⟩
  rcases a with a | ⟨o, a⟩
  · exact .inl (s _ _ a)
  · exact .inr ⟨o, s _ _ a⟩
theorem DictW.some (h : DictW P w H d D) : ∃ φ, H d = some (.ext φ) := let ⟨_, a, _⟩ := h; ⟨_, a⟩
theorem TupI.ne {a : Addr} {ns : List Int} (t : TupI H a ns) (h : DictW P w H d D) : a ≠ d := fun e => by
  obtain ⟨o, g, _⟩ := t
  obtain ⟨φ, g2⟩ := h.some
  rw [e, g2] at g
  cases g
theorem DXf.stay {h1 h2 : Heap} (x : DXf P w d D ks h1) (k : ∀ o, h1.get? d = some o → h2.get? d = some o) : DXf P w d D ks h2 :=
  let ⟨a, o, es, ep, g, r⟩ := x; ⟨a, o, es, ep, k o g, r⟩
theorem DXf.ok {h : Heap} (x : DXf P w d D ks h) : ObjOk P w H h d (DXo P w d D ks) :=
  ⟨x, let ⟨_, o, _, _, g, _⟩ := x; ⟨o, g⟩, fun _ _ y k => y.stay k⟩
theorem rows_keys (l : D.length = ks.length) : (rowsX D ks).map (·.1) = D.map fun e => e.1.map Sum.inl := by
  induction D generalizing ks with
  | nil => rfl
  | cons e r ih =>
    cases ks with
    | nil => cases l
    | cons q t =>
      show _ :: (rowsX r t).map _ = _ :: _
      rw [ih (Nat.succ.inj l)]
theorem inl_inj {s t : List Int} : s.map (Sum.inl : Int → Key) = t.map Sum.inl ↔ s = t := List.map_inj_right fun _ _ h => Sum.inl.inj h
theorem keyV (s : List Int) : (s.map (Sum.inl : Int → Key)).map kV = s.map V.int := by
  rw [List.map_map]
  rfl
theorem rows_nodup (l : D.length = ks.length) (h : (D.map (·.1)).Nodup) : ((rowsX D ks).map (·.1)).Nodup := by
  rw [rows_keys l]
  have e : (D.map fun e => e.1.map (Sum.inl : Int → Key)) = (D.map (·.1)).map fun s => s.map Sum.inl := by
    rw [List.map_map]
    rfl
  rw [e]
  exact nd_map h
where
  nd_map : ∀ {L : List (List Int)}, L.Nodup → (L.map fun s => s.map (Sum.inl : Int → Key)).Nodup
    | [], _ => List.nodup_nil
    | x :: r, h => by
      obtain ⟨h1, h2⟩ := List.nodup_cons.mp h
      refine List.nodup_cons.mpr ⟨fun m => ?_, nd_map h2⟩
      obtain ⟨y, hy, e⟩ := List.mem_map.mp m
      rw [inl_inj] at e
      exact h1 (e ▸ hy)
theorem rows_at (l : D.length = ks.length) (s : List Int) : (atKey (rowsX D ks) (s.map Sum.inl)).map (·.2) = (lookD D s).map fun p => Value.ref p.2 := by
  induction D generalizing ks with
  | nil => rfl
  | cons e r ih =>
    cases ks with
    | nil => cases l
    | cons q t =>
      have ih := ih (Nat.succ.inj l)
      show (atKey ((e.1.map Sum.inl, q, Value.ref e.2.2) :: rowsX r t) _).map _ = _
      by_cases h : e.1 = s
      · have h1 : e.1.map (Sum.inl : Int → Key) = s.map Sum.inl := inl_inj.mpr h
        simp [atKey, lookD, List.find?_cons, h1, h]
      · have h1 : ¬ e.1.map (Sum.inl : Int → Key) = s.map Sum.inl := fun z => h (inl_inj.mp z)
        simpa [atKey, lookD, List.find?_cons, h1, h] using ih
theorem rows_put (l : D.length = ks.length) (s wd : List Int) (a b : Nat) : ∃ ks', storedH (rowsX D ks) (s.map Sum.inl) b (Value.ref a) = rowsX (putD D s wd a) ks' ∧ (putD D s wd a).length = ks'.length ∧
    ∀ (T : List Int → Addr → Prop), T s b → Paired (fun (e : En) q => T e.1 q) D ks → Paired (fun (e : En) q => T e.1 q) (putD D s wd a) ks' := by
  have at_ := rows_at l s
  cases h : lookD D s with
  | none =>
    rw [h] at at_
    have n : atKey (rowsX D ks) (s.map Sum.inl) = none := Option.map_eq_none_iff.mp at_
    refine ⟨ks ++ [b], ?_, ?_, fun T hT pr => ?_⟩
    · rw [storedH_new n, putD_new h]
      unfold rowsX
      rw [List.zipWith_append l]
      rfl
    · rw [putD_new h, List.length_append, List.length_append, l]
      rfl
    · rw [putD_new h]
      exact Paired.snoc pr hT
  | some p =>
    rw [h] at at_
    obtain ⟨z, hz, _⟩ := Option.map_eq_some_iff.mp at_
    refine ⟨ks, ?_, ?_, fun T hT pr => ?_⟩
    · rw [storedH_old hz, putD_old h]
      clear at_ hz h
      induction D generalizing ks with
      | nil => rfl
      | cons e r ih =>
        cases ks with
        | nil => cases l
        | cons q t =>
          show putAt _ _ (e.1.map Sum.inl, q, Value.ref e.2.2) :: (rowsX r t).map _ = _ :: rowsX (r.map _) t
          rw [ih (Nat.succ.inj l)]
          congr 1
          show (if e.1.map Sum.inl = s.map Sum.inl then (e.1.map (Sum.inl : Int → Key), q, Value.ref a) else (e.1.map Sum.inl, q, Value.ref e.2.2)) = ((if e.1 = s then (e.1, wd, a) else e).1.map Sum.inl, q, Value.ref (if e.1 = s then (e.1, wd, a) else e).2.2)
          by_cases q1 : e.1 = s
          · rw [if_pos q1, if_pos (inl_inj.mpr q1)]
          · rw [if_neg q1, if_neg fun z => q1 (inl_inj.mp z)]
    · rw [putD_old h, List.length_map, l]
    · rw [putD_old h]
      clear at_ hz h l
      induction pr with
      | nil => exact .nil
      | @cons e q r t hq _ ih =>
        rw [List.map_cons]
        refine .cons ?_ ih
        by_cases q1 : e.1 = s
        · rw [if_pos q1]
          exact hq
        · rw [if_neg q1]
          exact hq
theorem key_is {h : Heap} {a : Addr} {s : List Int} (ok : HOk P w H h) (t : TupI H a s) : (tupleKind (mixKind P w)).is h (s.map Sum.inl) a := by
  obtain ⟨o, e, _⟩ := t
  obtain ⟨_, _, its, r, ob, g1, g2, n, g3⟩ := ok a _ e
  exact ⟨ob, its.toArray, n, g1, g2, g3, by simpa using items_are (P := P) (w := w) (ks := s.map Sum.inl) (by rw [keyV]; exact r)⟩
theorem rows_are {h : Heap} (ok : HOk P w H h) : ∀ {D : List En} {ks : List Addr}, KeysI H D ks → ∀ x ∈ rowsX D ks, (tupleKind (mixKind P w)).is h x.1 x.2.1
  | _, _, .nil => fun x hx => by cases hx
  | e :: r, q :: t, .cons h1 h2 => fun x hx => by
    rcases List.mem_cons.mp (show x ∈ (e.1.map Sum.inl, q, Value.ref e.2.2) :: rowsX r t from hx) with z | z
    · rw [z]
      exact key_is ok h1
    · exact rows_are ok h2 x z
theorem DictR.raw {h : Heap} (ok : HOk P w H h) (x : DictR P w H d D) : ∃ ks, KeysI H D ks ∧ (d == sysModules) = false ∧ h.DictOfH (tupleKind (mixKind P w)) d (rowsX D ks) := by
  obtain ⟨ks, a, b⟩ := x
  have y : ObjOk P w H h d (DXo P w d D ks) := a.ok ok
  obtain ⟨⟨g0, o, es, ep, g1, g2, g3, g4, g5⟩, _⟩ := y
  exact ⟨ks, b, g0, o, es, ep, g1, g2, g3, g4, rows_are ok b, g5⟩
theorem DictR.off (h : DictR P w H d D) {p : Addr} {o : HO} (nd : d ≠ p) (nt : ∀ (q : Addr) ns, TupI H q ns → q ≠ p) : DictR P w (upd H p o) d D := by
  obtain ⟨ks, a, b⟩ := h
  refine ⟨ks, ?_, Paired.mapP b fun e q t => t.upd (nt q _ t)⟩
  unfold Rd
  rw [upd_ne nd]
  exact a
theorem DictW.off (h : DictW P w H d D) {p : Addr} {o : HO} (nd : d ≠ p) (nt : ∀ (q : Addr) ns, TupI H q ns → q ≠ p) : DictW P w (upd H p o) d D := by
  obtain ⟨ks, a, b⟩ := h
  exact ⟨ks, by rw [upd_ne nd]; exact a, Paired.mapP b fun e q t => t.upd (nt q _ t)⟩
end
theorem not_tup {H : Hp} {p : Addr} {o : HO} (h : H p = some o) (nf : ∀ ob u, o ≠ .frz ob u) : ∀ (q : Addr) ns, TupI H q ns → q ≠ p := fun q ns ⟨ob, g, _⟩ e => by
  rw [e, h] at g
  exact nf _ _ (Option.some.inj g)
section
variable {X : Cx} {o i e value : Expr} {pos pos' : Pos} {td ty tv : TE}
/-- {} -/
def tXNew (P : Program) (w : World) : TE := fun _ H Q => ∀ p u, H p = none → DictW P w (upd H p u) p [] → Q (.ref p) (upd H p u)
theorem dx_empty {P : Program} {w : World} {h : Heap} (big : sysModules < h.objs.size) : DXf P w h.objs.size [] [] (h.push { cls := .type "dict", data := .dict #[] }) :=
  ⟨beq_eq_false_iff_ne.mpr (Ne.symm (Nat.ne_of_lt big)), _, #[], 0, Heap.get?_push_size _ rfl, ⟨rfl, rfl, rfl⟩, rfl, rfl, List.nodup_nil⟩
theorem new_dict {pins : List (Addr × Obj)} {σ : L2.St} {H : Hp} {s : Shared} (I : Inv X pins σ H s) : Inv X pins σ (upd H s.heap.objs.size (DXo X.prog X.w s.heap.objs.size [] [])) { s with heap := s.heap.push { cls := .type "dict", data := .dict #[] } } :=
  I.laid (t' := s.toks) (fun _ _ q => Heap.get?_push_of_some _ q) (Nat.le_refl _) (dx_empty I.big).ok
theorem pe_xnew : PE X (.Dict [] [] pos) (tXNew X.prog X.w) := ⟨fun pins s σ H Q I h =>
  wpAny_Dict_empty ⟨.ref s.heap.objs.size, _, new_dict I, rfl, h _ _ (I.hok.fresh (Nat.le_refl _)) ⟨[], upd_same, .nil⟩⟩⟩
/-- {t: u} -/
def tXDisp (P : Program) (w : World) (tk tv : TE) : TE := fun σ H Q => ∀ p o, H p = none → DictW P w (upd H p o) p [] → tk σ (upd H p o) fun x H1 => tv σ H1 fun y H2 => H2 p = some o ∧ ∃ (b a : Addr) (s wd : List Int), x = .ref b ∧ y = .ref a ∧ TupI H2 b s ∧
  ∀ u, DictW P w (upd H2 p u) p [(s, wd, a)] → Q (.ref p) (upd H2 p u)
theorem pe_xdisp {ke ve : Expr} {tk tv : TE} (hu : X.A.units + 1 < cLine) (hk : PE X ke tk) (hv : PE X ve tv) : PE X (.Dict [some ke] [ve] pos) (tXDisp X.prog X.w tk tv) := by
  refine ⟨fun pins s σ H Q I q => ?_⟩
  have w1 := (pps_cons hk hv (pps_nil (pos := pos))).run pins _ σ _ (fun ps H2 => match ps with
    | [(x, y)] => H2 s.heap.objs.size = some (DXo X.prog X.w s.heap.objs.size [] []) ∧ ∃ (b a : Addr) (t wd : List Int), x = .ref b ∧ y = .ref a ∧ TupI H2 b t ∧
        ∀ u, DictW X.prog X.w (upd H2 s.heap.objs.size u) s.heap.objs.size [(t, wd, a)] → Q (.ref s.heap.objs.size) (upd H2 s.heap.objs.size u)
    | _ => False) (new_dict I) (q _ _ (I.hok.fresh (Nat.le_refl _)) ⟨[], upd_same, .nil⟩)
  rw [arm_eval_Dict, zip_pairTrees [some ke] [ve] X.env pos rfl rfl, dictDisplay_pairs (pairTrees [some ke] [ve] X.env pos) (fun z => by cases z) (Nat.succ_lt_succ (Nat.zero_lt_succ 15))]
  refine wpAny_bind (wpAny_standAt (wpAny_bind (wpAny_subDictH (knd := tupleKind (mixKind X.prog X.w)) (Nat.lt_of_succ_lt hu) (Nat.succ_le_succ (Nat.zero_le 14)) (thn w1 fun ws s2 ⟨ps, H2, I2, rel, q2⟩ => ?_))))
  cases rel with
  | nil => exact q2.elim
  | @cons p1 w2 _ _ r t =>
    cases t with
    | cons _ _ => exact q2.elim
    | nil =>
      obtain ⟨x, y⟩ := p1
      obtain ⟨wk, wv⟩ := w2
      obtain ⟨r1, r2⟩ := r
      obtain ⟨hp, b, a, t, wd, ex, ey, hb, q2⟩ := q2
      subst ex ey
      cases (show wk = Value.ref b from r1)
      cases (show wv = Value.ref a from r2)
      obtain ⟨⟨g0, o0, es0, ep0, k1, k2, k3, k4, k5⟩, _⟩ : ObjOk X.prog X.w H2 s2.heap s.heap.objs.size (DXo X.prog X.w s.heap.objs.size [] []) := I2.hok _ _ hp
      refine ⟨[(t.map Sum.inl, b, Value.ref a)], ⟨rfl, rfl, key_is I2.hok hb, trivial⟩, ⟨o0, es0, ep0, k1, k2, k3, k4, (fun _ z => by cases z), k5⟩, fun h' tk' dd' sb => wpAny_pure ?_⟩
      obtain ⟨o1, es, ep, g1, g2, g3, g4, _, g6⟩ := dd'
      have ne : b ≠ s.heap.objs.size := not_tup hp (fun _ _ z => nomatch z) b _ hb
      have new : ObjOk X.prog X.w (upd H2 s.heap.objs.size (DXo X.prog X.w s.heap.objs.size [(t, wd, a)] [b])) h' s.heap.objs.size (DXo X.prog X.w s.heap.objs.size [(t, wd, a)] [b]) := DXf.ok ⟨g0, o1, es, ep, g1, g2, g3, g4, g6⟩
      exact ⟨.ref s.heap.objs.size, _, d_write (t' := tk') I2 (by rw [hp]; trivial) sb ⟨o1, g1⟩ new, rfl, q2 _ ⟨[b], upd_same, .cons (hb.upd ne) .nil⟩⟩
/-- t not in d -/
def tXNot (P : Program) (w : World) (ty td : TE) : TE := fun σ H Q => ty σ H fun y H1 => td σ H1 fun x H2 => ∃ (d b : Addr) (D : List En) (s : List Int), x = .ref d ∧ y = .ref b ∧ DictR P w H2 d D ∧ TupI H2 b s ∧ Q (.bl (!(lookD D s).isSome)) H2
theorem pc_xnot (hu : X.A.units + 1 < cLine) (hi : PE X i ty) (ho : PE X o td) : PC X .NotIn i o (tXNot X.prog X.w ty td) := ⟨fun pins s σ H Q I h =>
  thn (hi.run pins s σ H _ I h) fun iv s1 ⟨y, H1, I1, ry, q1⟩ => thn (ho.run pins s1 σ H1 _ I1 q1) fun u s2 ⟨x, H2, I2, rx, d, b, D, t, ex, ey, dr, tb, q2⟩ => by
    subst ex ey
    cases (show u = Value.ref d from rx)
    cases (show iv = Value.ref b from ry)
    obtain ⟨ks, kp, hd, dd⟩ := dr.raw I2.hok
    refine wpAny_notIn_heap (tupleKind_room_in1 hu) (key_is I2.hok tb) hd dd ⟨.bl (!(lookD D t).isSome), H2, I2.tok _, ?_, q2⟩
    have e := congrArg Option.isSome (rows_at kp.length t)
    rw [Option.isSome_map, Option.isSome_map] at e
    show Value.bool _ = Value.bool _
    rw [e]⟩
/-- d[t] -/
def tXGet (P : Program) (w : World) (td ty : TE) : TE := fun σ H Q => td σ H fun x H1 => ty σ H1 fun y H2 => ∃ (d b a : Addr) (D : List En) (s wd : List Int), x = .ref d ∧ y = .ref b ∧ DictR P w H2 d D ∧ TupI H2 b s ∧ lookD D s = some (wd, a) ∧ Q (.ref a) H2
theorem pe_xget (hu : X.A.units + 1 < cLine) (ho : PE X o td) (hi : PE X i ty) (hs : NoSl i) : PE X (.Subscript o i pos) (tXGet X.prog X.w td ty) := ⟨fun pins s σ H Q I h =>
  subD_of PySem.F.slot_dict_getitem.lookup hs (thn (ho.run pins s σ H _ I h) fun u s1 ⟨x, H1, I1, rx, q1⟩ => thn (hi.run pins s1 σ H1 _ I1 q1) fun iv s2 ⟨y, H2, I2, ry, d, b, a, D, t, wd, ex, ey, dr, tb, lk, q2⟩ => by
    subst ex ey
    cases (show u = Value.ref d from rx)
    cases (show iv = Value.ref b from ry)
    obtain ⟨ks, kp, hd, dd⟩ := dr.raw I2.hok
    have e := rows_at kp.length t
    rw [lk] at e
    obtain ⟨z, hz, hz2⟩ := Option.map_eq_some_iff.mp e
    refine ⟨dd.typeIs, wpAny_getItem_heap (tupleKind_room_in1 hu) (key_is I2.hok tb) dd hz ?_⟩
    rw [hz2]
    exact ⟨.ref a, H2, I2.tok _, rfl, q2⟩)⟩
/-- d[t] = u -/
def sXPut (P : Program) (w : World) (td ty tv : TE) : TS := fun N σ H => tv σ H fun v H1 => td σ H1 fun x H2 => ty σ H2 fun y H3 => ∃ (d b a : Addr) (D : List En) (s wd : List Int), x = .ref d ∧ y = .ref b ∧ v = .ref a ∧ DictW P w H3 d D ∧ TupI H3 b s ∧ D.length ≤ 50000 ∧
  ∀ u, DictW P w (upd H3 d u) d (putD D s wd a) → N.nx σ (upd H3 d u)
theorem ps_xput (hu : X.A.units + 1 < cLine) (ho : PE X o td) (hi : PE X i ty) (hv : PE X value tv) (hs : swapsWith value (some (.Subscript o i pos')) pos.line X.env = pure false) : PS X (.Assign [.Subscript o i pos'] value pos) (sXPut X.prog X.w td ty tv) := ⟨fun pins s σ H N I h =>
  wpAny_Assign_Subscript (thn (hv.run pins s σ H _ I h) fun r s1 ⟨v, H1, I1, rv, q1⟩ => thn (ho.run pins s1 σ H1 _ I1 q1) fun u s2 ⟨x, H2, I2, rx, q2⟩ => thn (hi.run pins s2 σ H2 _ I2 q2) fun iv s3 ⟨y, H3, I3, ry, d, b, a, D, t, wd, ex, ey, ev, dw, tb, ln, q3⟩ => by
    subst ex ey ev
    cases (show u = Value.ref d from rx)
    cases (show iv = Value.ref b from ry)
    cases (show r = Value.ref a from rv)
    obtain ⟨ks, hd0, kp⟩ := dw
    obtain ⟨⟨g0, o0, es0, ep0, k1, k2, k3, k4, k5⟩, _⟩ : ObjOk X.prog X.w H3 s3.heap d (DXo X.prog X.w d D ks) := I3.hok _ _ hd0
    have len : (rowsX D ks).length = D.length := by
      unfold rowsX
      rw [List.length_zipWith, ← kp.length, Nat.min_self]
    obtain ⟨ks', er, lr, pr⟩ := rows_put kp.length t wd a b
    refine wpAny_setItem_heap (hsz := by rw [len]; exact small_line (by omega)) (tupleKind_room_in1 hu) (key_is I3.hok tb) ⟨o0, es0, ep0, k1, k2, k3, k4, rows_are I3.hok kp, k5⟩ fun h' dd' sb => ?_
    rw [er] at dd'
    obtain ⟨o1, es, ep, g1, g2, g3, g4, _, g6⟩ := dd'
    have ne : ∀ (q : Addr) ns, TupI H3 q ns → q ≠ d := not_tup hd0 (fun _ _ z => nomatch z)
    have new : ObjOk X.prog X.w (upd H3 d (DXo X.prog X.w d (putD D t wd a) ks')) h' d (DXo X.prog X.w d (putD D t wd a) ks') := DXf.ok ⟨g0, o1, es, ep, g1, g2, g3, g4, g6⟩
    exact ⟨σ, _, d_write I3 (by rw [hd0]; trivial) sb ⟨o1, g1⟩ new, q3 _ ⟨ks', upd_same, pr (fun s q => TupI (upd H3 d (DXo X.prog X.w d (putD D t wd a) ks')) q s) (tb.upd (ne b _ tb)) (Paired.mapP kp fun e q z => z.upd (ne q _ z))⟩⟩) hs⟩
/-- len(d) -/
theorem call_xlen : CallR X (.builtin "len") (fun xs H Q => ∃ (d : Addr) (D : List En), xs = [.ref d] ∧ DictR X.prog X.w H d D ∧ D.length ≤ 50000 ∧ Q (.int (D.length : Nat)) H) := by
  intro pins s σ H xs us Q I r h
  obtain ⟨d, D, rfl, dr, ln, q⟩ := h
  obtain ⟨u, rfl, ru⟩ := vals1 r
  cases (show u = Value.ref d from ru)
  obtain ⟨ks, kp, hd, dd⟩ := dr.raw I.hok
  have len : (rowsX D ks).length = D.length := by
    unfold rowsX
    rw [List.length_zipWith, ← kp.length, Nat.min_self]
  refine call_len_dictH hd dd (by rw [len]; omega) ?_
  rw [len]
  exact ⟨.int (D.length : Nat), H, I.tok _, ⟨_, rfl⟩, q⟩
end
/-! ### the keys, one after another: the dict is locked where the walk begins, and stays so -/
def Itx (P : Program) (w : World) (d : Addr) (od : Obj) (D : List En) (ks : List Addr) : It where
  go := fun i H => H d = some (.frz od (DXo P w d D ks)) ∧ i < ks.length
  yld := fun i H x H' => H' = H ∧ ∃ q, ks[i]? = some q ∧ x = .ref q
  stop := fun i H => H d = some (.frz od (DXo P w d D ks)) ∧ ks.length ≤ i
theorem frzX {X : Cx} {pins : List (Addr × Obj)} {σ : L2.St} {H : Hp} {s : Shared} {d : Addr} {od : Obj} {D : List En} {ks : List Addr} (I : Inv X pins σ H s) (hl : D.length = ks.length) (h : H d = some (.frz od (DXo X.prog X.w d D ks))) :
    (d == sysModules) = false ∧ s.heap.get? d = some od ∧ od.ExactDict ∧ ∃ es ep, od.data = .dict es ep ∧ es.size = ks.length ∧ ∀ (i : Nat) q, ks[i]? = some q → ∃ en, es[i]? = some en ∧ en.key = .ref q := by
  obtain ⟨g, ⟨⟨g0, o, es, ep, k1, k2, k3, k4, _⟩, _⟩⟩ := I.hok d _ h
  rw [g] at k1
  cases k1
  have len : (rowsX D ks).length = ks.length := by
    unfold rowsX
    rw [List.length_zipWith, hl, Nat.min_self]
  refine ⟨g0, g, k2, es, ep, k3, by rw [size_of_entries k4, len], fun i q hq => ?_⟩
  have hi := (List.getElem?_eq_some_iff.mp hq).1
  have hD : D[i]? = some (D[i]'(by omega)) := List.getElem?_eq_getElem _
  have row : (rowsX D ks)[i]? = some ((D[i]'(by omega)).1.map Sum.inl, q, Value.ref (D[i]'(by omega)).2.2) := by
    unfold rowsX
    rw [List.getElem?_zipWith, hD, hq]
  have e := entry_at k4 i
  rw [row] at e
  exact ⟨_, e, rfl⟩
theorem turn_keysX {P : Program} {w : World} {K : PySem.W.Frag} {tg : Expr} {d : Addr} {od : Obj} {D : List En} {ks : List Addr} {es : Array DictEntry} {ep : Nat} (it : Addr) (hl : D.length = ks.length) (hod : od.data = .dict es ep) :
    Turn P w K tg (Itx P w d od D ks) [it] it (fun i h => h.IsKeyIter it d i ks.length ep) where
  mem := List.mem_cons_self
  obj := fun i h st b hb => by
    obtain ⟨oi, e, c, dd⟩ := st
    rw [List.mem_singleton.mp hb]
    exact ⟨oi, e, fun v z => by rw [dd] at z; cases z⟩
  keep := fun i h h' st k => st.at fun oi e => k it List.mem_cons_self oi e
  item := by
    intro X hP hw hK hc i pins s σ H E I hf st hg
    subst hP hw hK
    obtain ⟨hd, hi⟩ := hg
    obtain ⟨f0, f1, _, f3, f4, f5⟩ := hf it List.mem_cons_self
    obtain ⟨_, g1, _, es', ep', g3, g4, ent⟩ := frzX I hl hd
    obtain ⟨rfl, rfl⟩ := dict_ep hod g3
    have hq : ks[i]? = some ks[i] := List.getElem?_eq_getElem hi
    obtain ⟨en, hen, hkey⟩ := ent i _ hq
    refine next_key_item st g1 g3 g4 hen fun h' st' sb => ?_
    have I1 : Inv X pins σ H { s with heap := h' } := I.turned (t' := s.toks) (fun b ob hb e => (sb.2 b hb).trans e) f0 f1 f3 f4 f5
    obtain ⟨oi, e, c, dd⟩ := id st'
    exact ⟨en.key, rfl, go_of (s := { s with heap := h' }) e c dd (by decide) ⟨.ref ks[i], H, I1, hkey, ⟨rfl, _, hq, rfl⟩, st', fun b hb => (hf b hb).1⟩⟩
  done := by
    intro X hP hw hK hc i pins s σ H E I hf st hg
    subst hP hw hK
    obtain ⟨hd, hi⟩ := hg
    obtain ⟨f0, f1, _, f3, f4, f5⟩ := hf it List.mem_cons_self
    obtain ⟨_, g1, _, es', ep', g3, g4, ent⟩ := frzX I hl hd
    obtain ⟨rfl, rfl⟩ := dict_ep hod g3
    exact next_key_end (I.ok.hd hc) st g1 g3 g4 hi fun h' eb => ⟨rfl, I.turned (t' := s.toks) (fun b ob hb e => eb b ob hb e) f0 f1 f3 f4 f5⟩
  self := fun A i s Q E st h => by
    refine wpAny_pyIter_slot st.typeIs F.slot_dict_keyiterator_iter (wpAny_call_entry F.slot_dict_keyiterator_iter st.typeIs F.entry_dict_keyiterator_iter ?_ (F.args_dict_keyiterator_iter_1 _))
    show wpAny _ _ (ret (.ref it)) _ _ s
    exact wpAny_pure ⟨_, rfl, "dict_keyiterator", _, st.typeIs, F.slot_dict_keyiterator_next.lookup, h⟩
def iKeysX (P : Program) (w : World) (td : TE) : TI := fun σ H R => td σ H fun x H1 => ∃ (d : Addr) (D : List En) (ks : List Addr), x = .ref d ∧ H1 d = some (DXo P w d D ks) ∧ D.length = ks.length ∧ ∀ od, R (Itx P w d od D ks) (upd H1 d (.frz od (DXo P w d D ks)))
theorem pi_keysX {X : Cx} {tg e : Expr} {td : TE} (he : PE X e td) : PI X tg e (iKeysX X.prog X.w td) := ⟨fun pins s σ H R I h =>
  thn (he.run pins s σ H _ I h) fun u s1 ⟨x, H1, I1, rx, d, D, ks, ex, hd, hl, q⟩ => by
    subst ex
    cases (show u = Value.ref d from rx)
    obtain ⟨od, I2⟩ := I1.lock hd trivial
    obtain ⟨g1, g2, g3, es, ep, g4, g5, _⟩ := frzX I2 hl upd_same
    exact iter_keys g1 g2 g3 g4 (pi_one (tk := s1.toks) I2 _ (turn_keysX _ hl g4) ⟨_, Heap.get?_push_size _ rfl, rfl, by rw [g5] <;> rfl⟩ (q od))⟩
theorem walk_keysX {P : Program} {w : World} {d : Addr} {od : Obj} {D : List En} {ks : List Addr} : Walk (Itx P w d od D ks) ks.length (fun H => H d = some (.frz od (DXo P w d D ks))) (fun i H x H' => H' = H ∧ ∃ q, ks[i]? = some q ∧ x = .ref q) :=
  ⟨fun _ _ hi g => ⟨g, hi⟩, fun _ g => ⟨g, Nat.le_refl _⟩, fun _ _ _ _ _ _ y => y⟩
end Fw

set_option Elab.async false
set_option linter.all false
set_option maxRecDepth 100000
set_option maxHeartbeats 4000000
/-! FwBase: short words for the walk of this text. -/
namespace Fw
open PySem PySem.Spec PyProof.Rows L2
theorem b_isinstance : bootBuiltins "isinstance" = some (.builtin "isinstance") := by decide +kernel
theorem b_int : bootBuiltins "int" = some (.type "int") := by decide +kernel
theorem b_bool : bootBuiltins "bool" = some (.type "bool") := by decide +kernel
theorem b_tuple : bootBuiltins "tuple" = some (.type "tuple") := by decide +kernel
theorem b_list : bootBuiltins "list" = some (.type "list") := by decide +kernel
theorem b_str : bootBuiltins "str" = some (.type "str") := by decide +kernel
theorem b_len : bootBuiltins "len" = some (.builtin "len") := by decide +kernel
theorem b_all : bootBuiltins "all" = some (.builtin "all") := by decide +kernel
theorem b_sum : bootBuiltins "sum" = some (.builtin "sum") := by decide +kernel
theorem b_min : bootBuiltins "min" = some (.builtin "min") := by decide +kernel
theorem b_max : bootBuiltins "max" = some (.builtin "max") := by decide +kernel

/-! ### a def's rule, nothing let out -/
section
variable {P : Program} {w : World} {K : PySem.W.Frag} {mg : Str → Option Value} {base : Heap}
theorem go {x : Str} {st : Stmt} {f : Addr} {fd : FuncData} {N ps : List Str} {k : Nat} {sp : Sp} (F : FnP K x st f fd) (S : FnScope N ps (defScope st)) (len : ∀ vs H Q E, sp vs H Q E → vs.length = ps.length)
    (body : ∀ (cdv : Value) (A : Around) (outer : List Env) (s : Shared) (H : Hp) (vs : List V) (Q : VK) (E : XK), Room k (A.deeper (envOfC x (defScope st) s.heap.objs.size f cdv)) → sp vs H Q E →
      ∃ t, PSs (cxOf CX0 P w K mg base N x (defScope st) f cdv A outer s H E).nox (defBody st) t ∧ t { nx := fun _ H' => Q .non H', rt := Q } (start N vs) H) : FnOk P w K mg base CX0 (k + 1) f fd ps sp :=
  FunD.ok F S len fun cdv A outer s H vs Q E hr h => let ⟨t, h1, h2⟩ := body cdv A outer s H vs Q E hr h; ⟨t, h1.nox, h2⟩
/-- a def that may be called by its name -/
def Fk (P : Program) (w : World) (K : PySem.W.Frag) (mg : Str → Option Value) (base : Heap) (k : Nat) (x : Str) (ps : List Str) (sp : Sp) : Prop :=
  ∃ f fd, FnOk P w K mg base CX0 k f fd ps sp ∧ mg x = some (.ref f) ∧ PySem.W.keepIn K (.ref f) = true ∧ Binds K fd ps []
theorem Fk.mono {j k : Nat} {x : Str} {ps : List Str} {sp : Sp} (h : Fk P w K mg base j x ps sp) (l : j ≤ k) : Fk P w K mg base k x ps sp :=
  let ⟨f, fd, F, r⟩ := h; ⟨f, fd, F.mono l, r⟩
end
section
variable {X : Cx}
/-- a call's reading -/
def tCl (sp : Sp) (t : TA) : TE := fun σ H Q => t σ H fun vs H1 => sp vs H1 Q E0
theorem pe_c {k : Nat} {x : Str} {ps : List Str} {sp : Sp} {p pos : Pos} {e : Expr} {es : List Expr} {t : TA} (C : Fk X.prog X.w X.K X.mg X.base k x ps sp) (hr : Room k X.A) (hg : Gl X x) (ha : PA X (e :: es) t) (hdb : (x == ("__debug__" : Str)) = false := by decide)
    (he : starEach (e :: es) X.env = (false, eval e X.env) :: starEach es X.env := by rfl) (hpl : (backTo pos (starEach es X.env)).any (·.1) = false := by rfl) : PE X (.Call (.Name x p) (e :: es) [] pos) (tCl sp t) := by
  obtain ⟨f, fd, F, gm, kp, b⟩ := C
  have h := pe_call (p := p) F hr hg gm kp b .nil pass0 ha hdb he hpl
  refine ⟨fun pins s σ H Q I q => h.run pins s σ H Q I ?_⟩
  show t σ H fun vs H1 => sp (vs ++ []) H1 Q E0
  simp only [List.append_nil]
  exact q
/-- isinstance(x, T), T a built-in class -/
theorem call_isB : CallR X (.builtin "isinstance") (fun xs H Q => ∃ (x : V) (n t : String) (b : Bool), xs = [x, .ty n] ∧ TyX X.K H x (.type t) ∧ kitB t n = some b ∧ Q (.bl b) H) := by
  intro pins s σ H xs us Q I r h
  obtain ⟨x, n, t, b, e, ty, kb, q⟩ := h
  exact call_isi pins s σ H xs us Q I r ⟨x, .ty n, .type t, .type n, b, e, .ty n, ty, kit_ty kb, q⟩
end
/-! ### heaps -/
theorem sm_tup {H H1 : Hp} {K : PySem.W.Frag} {p : Addr} {xs : List V} (a : Same H H1) (h : SqT K H p xs) : SqT K H1 p xs := by
  rcases h with (h | ⟨o, h⟩) | h
  · exact .inl (.inl (a _ _ h))
  · exact .inl (.inr ⟨o, a _ _ h⟩)
  · exact .inr h
theorem atI_int {ns : List Int} {i : Int} {v : Int} (h0 : 0 ≤ i) (h : ns[i.toNat]? = some v) : atI (ns.map V.int) i = some (.int v) := by
  refine at_of (j := i.toNat) (by omega) ?_
  rw [List.getElem?_map, h]
  rfl
theorem bl_t {Q : VK} {H : Hp} {c : Prop} [Decidable c] (h : c) (q : Q (.bl true) H) : Q (.bl (decide c)) H := by
  rw [decide_eq_true h]
  exact q
theorem bl_f {Q : VK} {H : Hp} {c : Prop} [Decidable c] (h : ¬ c) (q : Q (.bl false) H) : Q (.bl (decide c)) H := by
  rw [decide_eq_false h]
  exact q
theorem all_rep (n : Nat) : (List.replicate n true).all id = true := by
  rw [List.all_eq_true]
  intro x hx
  exact List.eq_of_mem_replicate hx
theorem rep_snoc (n : Nat) : (List.replicate n true).map V.bl ++ [.bl true] = (List.replicate (n + 1) true).map V.bl := by
  rw [List.replicate_succ', List.map_append]
  rfl
theorem get_map {ns : List Int} {i : Nat} {x : V} (h : (ns.map V.int)[i]? = some x) : ∃ y, ns[i]? = some y ∧ x = .int y ∧ y ∈ ns := by
  rw [List.getElem?_map] at h
  obtain ⟨y, h1, h2⟩ := Option.map_eq_some_iff.mp h
  exact ⟨y, h1, h2.symm, List.mem_of_getElem? h1⟩
theorem lt_line {n : Nat} (h : n ≤ 100000) : n < sizeLine := Nat.lt_of_le_of_lt h (by decide)
theorem len_map {ns : List Int} : (ns.map V.int).length = ns.length := List.length_map ..
end Fw

set_option Elab.async false
set_option linter.all false
set_option maxRecDepth 100000
set_option maxHeartbeats 4000000
/-! FwChk: the checks of arguments. -/
namespace Fw
open PySem PySem.Spec PyProof.Rows L2
section
variable {P : Program} {w : World} {K : PySem.W.Frag} {mg : Str → Option Value} {base : Heap} {f : Addr} {fd : FuncData}
def spWhole : Sp := fun vs H Q _ => ∃ i : Int, vs = [.int i] ∧ Q (.bl true) H
theorem ok_whole (F : FnP K "whole" sWhole f fd) (M : Mg mg) : FnOk P w K mg base CX0 1 f fd ["value"] spWhole := by
  refine go F scWhole (fun vs H Q E h => ?_) (fun cdv A outer s H vs Q E hr h => ?_)
  · obtain ⟨i, rfl, _⟩ := h
    rfl
  · obtain ⟨i, rfl, q⟩ := h
    refine ⟨_, pss_one (ps_ret (pe_and (pe_callB call_isB (by rfl) M.n_isinstance b_isinstance (pa_cons (pv 0) (pa_cons (pe_bltn (v := .ty "int") (by rfl) M.n_int b_int rfl) pa_nil)))
      (pe_one (pe_not (pe_callB call_isB (by rfl) M.n_isinstance b_isinstance (pa_cons (pv 0) (pa_cons (pe_bltn (v := .ty "bool") (by rfl) M.n_bool b_bool rfl) pa_nil))))))), ?_⟩
    refine ⟨_, rfl, _, _, _, _, rfl, .base (.int i), (by decide +kernel : kitB "int" "int" = some true), true, rfl, iteT ?_⟩
    exact ⟨_, rfl, _, _, _, _, rfl, .base (.int i), (by decide +kernel : kitB "int" "bool" = some false), false, rfl, q⟩
def spWithin : Sp := fun vs H Q _ => ∃ i lo hi : Int, vs = [.int i, .int lo, .int hi] ∧ lo ≤ i ∧ i ≤ hi ∧ Q (.bl true) H
theorem ok_within (F : FnP K "within" sWithin f fd) (M : Mg mg) (C : Fk P w K mg base 1 "whole" ["value"] spWhole) : FnOk P w K mg base CX0 2 f fd ["value", "low", "high"] spWithin := by
  refine go F scWithin (fun vs H Q E h => ?_) (fun cdv A outer s H vs Q E hr h => ?_)
  · obtain ⟨i, lo, hi, rfl, _⟩ := h
    rfl
  · obtain ⟨i, lo, hi, rfl, h1, h2, q⟩ := h
    refine ⟨_, pss_one (ps_ret (pe_and (pe_c C hr (by rfl) (pa_cons (pv 0) pa_nil)) (pe_one (pe_chain op_le op_le (pv 1) (pv 0) (pv 2))))), ?_⟩
    refine ⟨_, rfl, i, rfl, true, rfl, iteT ?_⟩
    refine ⟨_, rfl, _, rfl, _, _, rfl, rfl, true, ?_, iteT ?_⟩
    · exact congrArg V.bl (decide_eq_true h1)
    · exact ⟨_, rfl, _, _, rfl, rfl, bl_t (Q := Q) h2 q⟩
def spNum : Sp := fun vs H Q _ => ∃ i lo hi : Int, vs = [.int i, .int lo, .int hi] ∧ lo ≤ i ∧ i ≤ hi ∧ Q .non H
theorem ok_needNumber (F : FnP K "need_number" sNeedNumber f fd) (M : Mg mg) (C : Fk P w K mg base 2 "within" ["value", "low", "high"] spWithin) : FnOk P w K mg base CX0 3 f fd ["value", "low", "high"] spNum := by
  refine go F scNeedNumber (fun vs H Q E h => ?_) (fun cdv A outer s H vs Q E hr h => ?_)
  · obtain ⟨i, lo, hi, rfl, _⟩ := h
    rfl
  · obtain ⟨i, lo, hi, rfl, h1, h2, q⟩ := h
    refine ⟨_, pss_one (ps_if (pt_not (pt_val (pe_c C hr (by rfl) (pa_cons (pv 0) (pa_cons (pv 1) (pa_cons (pv 2) pa_nil)))))) (pss_one ps_never) pss_nil), ?_⟩
    exact ⟨_, rfl, _, rfl, _, rfl, i, lo, hi, rfl, h1, h2, true, rfl, iteF q⟩
def spTupOf : Sp := fun vs H Q _ => ∃ (a : Addr) (xs : List Int) (lo hi : Int), vs = [.ref a, .int lo, .int hi] ∧ TupI H a xs ∧ lo ≤ (xs.length : Int) ∧ (xs.length : Int) ≤ hi ∧ Q (.bl true) H
theorem ok_tupleOf (F : FnP K "tuple_of" sTupleOf f fd) (M : Mg mg) : FnOk P w K mg base CX0 1 f fd ["value", "low", "high"] spTupOf := by
  refine go F scTupleOf (fun vs H Q E h => ?_) (fun cdv A outer s H vs Q E hr h => ?_)
  · obtain ⟨a, xs, lo, hi, rfl, _⟩ := h
    rfl
  · obtain ⟨a, xs, lo, hi, rfl, ha, h1, h2, q⟩ := h
    refine ⟨_, pss_one (ps_ret (pe_and (pe_callB call_isB (by rfl) M.n_isinstance b_isinstance (pa_cons (pv 0) (pa_cons (pe_bltn (v := .ty "tuple") (by rfl) M.n_tuple b_tuple rfl) pa_nil)))
      (pe_one (pe_chain op_le op_le (pv 1) (pe_callB call_len (by rfl) M.n_len b_len (pa_cons (pv 0) pa_nil)) (pv 2))))), ?_⟩
    refine ⟨_, rfl, _, _, _, _, rfl, ha.ty, (by decide +kernel : kitB "tuple" "tuple" = some true), true, rfl, iteT ?_⟩
    refine ⟨_, rfl, _, rfl, _, _, rfl, .inr ⟨_, ha.sq, len_map.symm⟩, _, _, rfl, rfl, true, ?_, iteT ?_⟩
    · exact congrArg V.bl (decide_eq_true h1)
    · exact ⟨_, rfl, _, _, rfl, rfl, bl_t (Q := Q) h2 q⟩
def spNeedValues : Sp := fun vs H Q _ => ∃ (a : Addr) (ns : List Int), vs = [.ref a] ∧ TupI H a ns ∧ 1 ≤ ns.length ∧ ns.length ≤ 5 ∧ (∀ v ∈ ns, 1 ≤ v ∧ v ≤ 6) ∧ ∀ H', Same H H' → Q .non H'
theorem ok_needValues (F : FnP K "need_values" sNeedValues f fd) (M : Mg mg) (CT : Fk P w K mg base 1 "tuple_of" ["value", "low", "high"] spTupOf) (CW : Fk P w K mg base 2 "within" ["value", "low", "high"] spWithin) : FnOk P w K mg base CX0 3 f fd ["value"] spNeedValues := by
  obtain ⟨tL, eL⟩ := M.v_MOST_LETTERS
  obtain ⟨tV, eV⟩ := M.v_MOST_VALUE
  refine go F scNeedValues (fun vs H Q E h => ?_) (fun cdv A outer s H vs Q E hr h => ?_)
  · obtain ⟨a, ns, rfl, _⟩ := h
    rfl
  · obtain ⟨a, ns, rfl, ha, l1, l5, hv, q⟩ := h
    refine ⟨_, pss_one (ps_if (PW.pt (pw_or (pt_not (pt_val (pe_c CT (hr.mono (by decide)) (by rfl) (pa_cons (pv 0) (pa_cons pe_int (pa_cons (pe_glob (v := .int 5) (by rfl) eL ⟨tL, rfl⟩) pa_nil))))))
      (pw_or1 (pt_not (pt_val (pe_callB (cr_all rfl) (by rfl) M.n_all b_all (pa_cons (pe_lc (own := [("told", 1)]) (g := gName 1) (tt := tYes) (by rfl) scNeedValues.nd (pi_tup (pv 0))
        (blkOk_by (own := [("told", 1)]) (N := ["value", "told"]) (sc := defScope sNeedValues) (by decide +kernel)) (fun _ _ _ _ _ => pg_name (i := 1) scNeedValues.nd rfl (Or.inl rfl)) (fun _ _ _ _ _ => pts_nil)
        (fun _ _ _ _ _ => pe_c CW hr (by rfl) (pa_cons (pv 1) (pa_cons pe_int (pa_cons (pe_glob (v := .int 6) (by rfl) eV ⟨tV, rfl⟩) pa_nil))))) pa_nil))))))) (pss_one ps_never) pss_nil), ?_⟩
    refine ⟨_, rfl, a, ns, 1, 5, rfl, ha, by omega, by omega, true, rfl, iteF ?_⟩
    refine ⟨_, rfl, a, rfl, ⟨_, ha.sq⟩, fun D nD => lc_tup (K := K) (a := a) (xs := ns.map V.int) (fun i H1 => Same H H1 ∧ H1 D = some (.lst ((List.replicate i true).map V.bl)))
      ⟨same_upd nD, upd_same⟩ (fun i H1 _ ⟨s1, _⟩ => sm_tup s1 ha.sq) (fun i x H1 hx ⟨s1, e1⟩ => ?_) (fun H1 ⟨s1, e1⟩ => ?_)⟩
    · obtain ⟨y, h1, rfl, hm⟩ := get_map hx
      obtain ⟨g1, g6⟩ := hv y hm
      have hi := (List.getElem?_eq_some_iff.mp h1).1
      refine ⟨rfl, _, rfl, y, 1, 6, rfl, g1, g6, _, e1, lt_line (by rw [List.length_map, List.length_replicate]; omega), sm_upd s1 nD, ?_⟩
      rw [upd_same, rep_snoc]
    · refine ⟨D, _, rfl, SqL.of e1, _, rfl, ?_⟩
      rw [all_rep]
      exact iteF (q H1 s1)
def spWrong : Sp := fun vs H Q _ => ∃ (m : Int) (a : Addr) (ns : List Int), vs = [.int m, .ref a] ∧ TupI H a ns ∧ (∀ l ∈ ns, 0 ≤ l ∧ l < m) ∧ ∀ H', Same H H' → Q .non H'
theorem ok_wrong (F : FnP K "wrong_letter" sWrongLetter f fd) (M : Mg mg) (CW : Fk P w K mg base 2 "within" ["value", "low", "high"] spWithin) : FnOk P w K mg base CX0 3 f fd ["many", "value"] spWrong := by
  refine go F scWrongLetter (fun vs H Q E h => ?_) (fun cdv A outer s H vs Q E hr h => ?_)
  · obtain ⟨m, a, ns, rfl, _⟩ := h
    rfl
  · obtain ⟨m, a, ns, rfl, ha, hv, q⟩ := h
    refine ⟨_, pss_cons (ps_for PassesOwn.never rfl (pi_enumT (by rfl) M.n_enumerate (pa_cons (pv 1) pa_nil)) (pg_tup rfl (pgs_cons (pg_name (i := 2) scWrongLetter.nd rfl (.inl rfl)) (pgs_cons (pg_name (i := 3) scWrongLetter.nd rfl (.inl rfl)) pgs_nil)))
      (pss_one (ps_if (pt_not (pt_val (pe_c CW hr (by rfl) (pa_cons (pv 3) (pa_cons pe_int (pa_cons (pe_op op_sub (pv 0) pe_int) pa_nil)))))) (pss_one ps_never) pss_nil))) (pss_one (ps_ret pe_non)), ?_⟩
    refine ⟨_, rfl, a, _, rfl, ha.sq, for_enumT (K := K) (a := a) (xs := ns.map V.int) (fun i σ H1 => ∃ x y, σ = [some (.int m), some (.ref a), x, y] ∧ Same H H1) ⟨none, none, rfl, Same.refl H⟩ (fun i σ H1 _ ⟨_, _, _, s1⟩ => sm_tup s1 ha.sq) (fun i x T σ H1 hx nT ⟨c, d, es, s1⟩ => ?_) (fun σ H1 ⟨c, d, es, s1⟩ => ?_)⟩
    · subst es
      obtain ⟨y, h1, rfl, hm⟩ := get_map hx
      obtain ⟨g1, g2⟩ := hv y hm
      have s2 : Same H (upd H1 T (.tup [.int (i : Nat), .int y])) := s1.trans (same_upd nT)
      refine ⟨T, _, rfl, SqT.of upd_same, rfl, _, _, rfl, _, _, rfl, rfl, ?_⟩
      refine ⟨_, rfl, _, rfl, _, _, rfl, rfl, y, 0, m - 1, rfl, g1, by omega, true, rfl, iteF ?_⟩
      exact ⟨_, _, rfl, s2⟩
    · subst es
      exact q H1 s1
def spNeedSlate : Sp := fun vs H Q _ => ∃ (v a : Addr) (ns sl : List Int), vs = [.ref v, .ref a] ∧ TupI H v ns ∧ TupI H a sl ∧ sl.length ≤ 12 ∧ (∀ l ∈ sl, 0 ≤ l ∧ l < (ns.length : Int)) ∧ ∀ H', Same H H' → Q .non H'
theorem ok_needSlate (F : FnP K "need_slate" sNeedSlate f fd) (M : Mg mg) (CT : Fk P w K mg base 1 "tuple_of" ["value", "low", "high"] spTupOf) (CW : Fk P w K mg base 3 "wrong_letter" ["many", "value"] spWrong) : FnOk P w K mg base CX0 4 f fd ["values", "slate"] spNeedSlate := by
  obtain ⟨tS, eS⟩ := M.v_MOST_SLATE
  refine go F scNeedSlate (fun vs H Q E h => ?_) (fun cdv A outer s H vs Q E hr h => ?_)
  · obtain ⟨v, a, ns, sl, rfl, _⟩ := h
    rfl
  · obtain ⟨v, a, ns, sl, rfl, hv, ha, hl, hb, q⟩ := h
    refine ⟨_, pss_cons (ps_if (pt_not (pt_val (pe_c CT (hr.mono (by decide)) (by rfl) (pa_cons (pv 1) (pa_cons pe_int (pa_cons (pe_glob (v := .int 12) (by rfl) eS ⟨tS, rfl⟩) pa_nil)))))) (pss_one ps_never) pss_nil)
      (pss_cons (ps_set (i := 2) scNeedSlate.nd rfl (.inl rfl) (pe_c CW hr (by rfl) (pa_cons (pe_callB call_len (by rfl) M.n_len b_len (pa_cons (pv 0) pa_nil)) (pa_cons (pv 1) pa_nil))))
      (pss_one (ps_if (pt_cmpR op_notN (pv 2) pe_non (nomark _)) (pss_one ps_never) pss_nil))), ?_⟩
    refine ⟨_, rfl, a, _, 0, 12, rfl, ha, by omega, by omega, true, rfl, iteF ?_⟩
    refine ⟨_, rfl, _, ns.length, rfl, .inr ⟨_, hv.sq, len_map.symm⟩, _, rfl, (ns.length : Int), a, sl, rfl, ha, hb, fun H1 s1 => ?_⟩
    exact ⟨_, rfl, rfl, _, rfl, iteF (q H1 s1)⟩
def spNeedLetter : Sp := fun vs H Q _ => ∃ (v : Addr) (ns : List Int) (l : Int), vs = [.ref v, .int l] ∧ TupI H v ns ∧ 0 ≤ l ∧ l < (ns.length : Int) ∧ Q .non H
theorem ok_needLetter (F : FnP K "need_letter" sNeedLetter f fd) (M : Mg mg) (CW : Fk P w K mg base 2 "within" ["value", "low", "high"] spWithin) : FnOk P w K mg base CX0 3 f fd ["values", "letter"] spNeedLetter := by
  refine go F scNeedLetter (fun vs H Q E h => ?_) (fun cdv A outer s H vs Q E hr h => ?_)
  · obtain ⟨v, ns, l, rfl, _⟩ := h
    rfl
  · obtain ⟨v, ns, l, rfl, hv, h0, h1, q⟩ := h
    refine ⟨_, pss_one (ps_if (pt_not (pt_val (pe_c CW hr (by rfl) (pa_cons (pv 1) (pa_cons pe_int (pa_cons (pe_op op_sub (pe_callB call_len (by rfl) M.n_len b_len (pa_cons (pv 0) pa_nil)) pe_int) pa_nil)))))) (pss_one ps_never) pss_nil), ?_⟩
    refine ⟨_, rfl, _, rfl, _, ns.length, rfl, .inr ⟨_, hv.sq, len_map.symm⟩, _, _, rfl, rfl, l, 0, (ns.length : Int) - 1, rfl, h0, by omega, true, rfl, iteF q⟩
def spNeedWorths : Sp := fun vs H Q _ => ∃ (v a : Addr) (ns ws : List Int), vs = [.ref v, .ref a] ∧ TupI H v ns ∧ TupI H a ws ∧ ws.length = ns.length ∧ ns.length ≤ 1000 ∧ (∀ x ∈ ws, -99 ≤ x ∧ x ≤ 99) ∧ ∀ H', Same H H' → Q .non H'
theorem ok_needWorths (F : FnP K "need_worths" sNeedWorths f fd) (M : Mg mg) (CT : Fk P w K mg base 1 "tuple_of" ["value", "low", "high"] spTupOf) (CW : Fk P w K mg base 2 "within" ["value", "low", "high"] spWithin) : FnOk P w K mg base CX0 3 f fd ["values", "worths"] spNeedWorths := by
  refine go F scNeedWorths (fun vs H Q E h => ?_) (fun cdv A outer s H vs Q E hr h => ?_)
  · obtain ⟨v, a, ns, ws, rfl, _⟩ := h
    rfl
  · obtain ⟨v, a, ns, ws, rfl, hv, ha, hl, hk, hb, q⟩ := h
    refine ⟨_, pss_cons (ps_set (i := 2) scNeedWorths.nd rfl (.inl rfl) (pe_callB call_len (by rfl) M.n_len b_len (pa_cons (pv 0) pa_nil)))
      (pss_one (ps_if (PW.pt (pw_or (pt_not (pt_val (pe_c CT (hr.mono (by decide)) (by rfl) (pa_cons (pv 1) (pa_cons (pv 2) (pa_cons (pv 2) pa_nil))))))
      (pw_or1 (pt_not (pt_val (pe_callB (cr_all rfl) (by rfl) M.n_all b_all (pa_cons (pe_lc (own := [("worth", 3)]) (g := gName 3) (tt := tYes) (by rfl) scNeedWorths.nd (pi_tup (pv 1))
        (blkOk_by (own := [("worth", 3)]) (N := ["values", "worths", "many", "worth"]) (sc := defScope sNeedWorths) (by decide +kernel)) (fun _ _ _ _ _ => pg_name (i := 3) scNeedWorths.nd rfl (Or.inl rfl)) (fun _ _ _ _ _ => pts_nil)
        (fun _ _ _ _ _ => pe_c CW hr (by rfl) (pa_cons (pv 3) (pa_cons (pe_un un_neg pe_int) (pa_cons pe_int pa_nil))))) pa_nil))))))) (pss_one ps_never) pss_nil)), ?_⟩
    refine ⟨_, rfl, _, ns.length, rfl, .inr ⟨_, hv.sq, len_map.symm⟩, ?_⟩
    refine ⟨_, rfl, _, rfl, _, rfl, a, ws, (ns.length : Int), (ns.length : Int), rfl, ha, by omega, by omega, true, rfl, iteF ?_⟩
    refine ⟨_, rfl, a, rfl, ⟨_, ha.sq⟩, fun D nD => lc_tup (K := K) (a := a) (xs := ws.map V.int) (fun i H1 => Same H H1 ∧ H1 D = some (.lst ((List.replicate i true).map V.bl)))
      ⟨same_upd nD, upd_same⟩ (fun i H1 _ ⟨s1, _⟩ => sm_tup s1 ha.sq) (fun i x H1 hx ⟨s1, e1⟩ => ?_) (fun H1 ⟨s1, e1⟩ => ?_)⟩
    · obtain ⟨y, h1, rfl, hm⟩ := get_map hx
      obtain ⟨g1, g6⟩ := hb y hm
      have hi := (List.getElem?_eq_some_iff.mp h1).1
      refine ⟨rfl, _, rfl, _, rfl, y, -99, 99, rfl, g1, g6, _, e1, lt_line (by rw [List.length_map, List.length_replicate]; omega), sm_upd s1 nD, ?_⟩
      rw [upd_same, rep_snoc]
    · refine ⟨D, _, rfl, SqL.of e1, _, rfl, ?_⟩
      rw [all_rep]
      exact iteF (q H1 s1)
end
end Fw

set_option Elab.async false
set_option linter.all false
set_option maxRecDepth 100000
set_option maxHeartbeats 4000000
/-! FwStep: stepped, worth_of; the tables as they stand in the heap. -/
namespace Fw
open PySem PySem.Spec PyProof.Rows L2
/-! ### tuples added, cut -/
theorem cut_to (xs : List V) (k : Nat) : cutV xs none (some (k : Int)) = xs.take k := by
  unfold cutV
  rw [HT.sIx_none, HT.sIx_nat]
  show ((xs.drop 0).take (min k xs.length - 0)) = xs.take k
  rw [List.drop_zero, Nat.sub_zero]
  by_cases h : k ≤ xs.length
  · rw [Nat.min_eq_left h]
  · rw [Nat.min_eq_right (by omega), List.take_of_length_le (Nat.le_refl _), List.take_of_length_le (by omega)]
theorem cut_from (xs : List V) (k : Nat) : cutV xs (some (k : Int)) none = xs.drop k := by
  unfold cutV
  rw [HT.sIx_none, HT.sIx_nat]
  by_cases h : k ≤ xs.length
  · rw [Nat.min_eq_left h, List.take_of_length_le]
    rw [List.length_drop]
    exact Nat.le_refl _
  · rw [Nat.min_eq_right (by omega), List.drop_of_length_le (Nat.le_refl _), List.drop_of_length_le (by omega), List.take_nil]
section
variable {P : Program} {w : World} {K : PySem.W.Frag} {mg : Str → Option Value} {base : Heap} {f : Addr} {fd : FuncData}
def spStepped : Sp := fun vs H Q _ => ∃ (v s : Addr) (ns sl : List Int) (l p : Int), vs = [.ref v, .ref s, .int l] ∧ TupI H v ns ∧ TupI H s sl ∧ 0 ≤ l ∧ ns[l.toNat]? = some p ∧ 1 ≤ p ∧ p ≤ 1000 ∧ sl.length ≤ 1000 ∧
  ∀ H' q a x, Same H H' → H' q = some (.tup [.ref a, x]) → TupI H' a (stp ns sl l) → Q (.ref q) H'
theorem ok_stepped (F : FnP K "stepped" sStepped f fd) (M : Mg mg) : FnOk P w K mg base CX0 1 f fd ["values", "slate", "letter"] spStepped := by
  refine go F scStepped (fun vs H Q E h => ?_) (fun cdv A outer s H vs Q E hr h => ?_)
  · obtain ⟨v, s, ns, sl, l, p, rfl, _⟩ := h
    rfl
  · obtain ⟨v, t, ns, sl, l, p, rfl, hv, ht, h0, hp, p1, p2, hl, q⟩ := h
    have es : stp ns sl l = l :: sl.eraseIdx (p.toNat - 1) := by
      unfold stp
      rw [List.getD_eq_getElem?_getD, hp]
      rfl
    refine ⟨_, pss_cons (ps_set (i := 3) scStepped.nd rfl (.inl rfl) (pe_ix ix_tup (pv 0) (pv 2) (fun _ _ => rfl)))
      (pss_cons (ps_if (pt_cmpR op_gt (pv 3) (pe_callB call_len (by rfl) M.n_len b_len (pa_cons (pv 1) pa_nil)) (nomark _))
        (pss_one (ps_ret (pe_tup (pa_cons (pe_op op_catP (pe_tupP (pa_cons (pv 2) pa_nil)) (pv 1)) (pa_cons pe_non pa_nil))))) pss_nil)
      (pss_one (ps_ret (pe_tup (pa_cons (pe_op op_catP (pe_op op_catP (pe_tupP (pa_cons (pv 2) pa_nil)) (pe_slice sl_tupP (pv 1) po_none (po_some (pe_op op_sub (pv 3) pe_int)))) (pe_slice sl_tupP (pv 1) (po_some (pv 3)) po_none))
        (pa_cons (pe_ix ix_tup (pv 1) (pe_op op_sub (pv 3) pe_int) (fun _ _ => rfl)) pa_nil)))))), ?_⟩
    refine ⟨_, rfl, _, rfl, v, _, l, _, rfl, rfl, hv.sq, atI_int h0 hp, ?_⟩
    refine ⟨_, rfl, _, rfl, _, sl.length, rfl, .inr ⟨_, ht.sq, len_map.symm⟩, _, _, rfl, rfl, _, rfl, ite2 (fun e => ?_) (fun e => ?_)⟩
    · -- the new letter in front of all
      have e1 : (sl.length : Int) < p := of_decide_eq_true e
      refine ⟨_, rfl, [l], rfl, (by decide : 1 ≤ 100000), fun p1 H1 _ s1 t1 => ?_⟩
      have e2 : [l] ++ sl = stp ns sl l := by
        rw [es, List.eraseIdx_of_length_le (by omega)]
        rfl
      refine ⟨_, rfl, p1, t, [l], sl, rfl, rfl, t1, ht.same s1, (by show 1 + _ ≤ _; omega), fun a H2 s2 ha => ?_⟩
      rw [e2] at ha
      exact ⟨by show 2 ≤ sizeLine; decide, fun r nr => q _ r a .non ((s1.trans s2).trans (same_upd nr)) upd_same (ha.same (same_upd nr))⟩
    · have e1 : ¬ (sl.length : Int) < p := fun z => e (decide_eq_true z)
      obtain ⟨k, ek⟩ : ∃ k : Nat, p = (k : Int) + 1 := ⟨p.toNat - 1, by omega⟩
      subst ek
      have lk : k < sl.length := by omega
      have e3 : ((k : Int) + 1).toNat - 1 = k := by omega
      rw [e3] at es
      refine ⟨_, rfl, [l], rfl, (by decide : 1 ≤ 100000), fun p1 H1 _ s1 t1 => ?_⟩
      -- slate[:place - 1]
      refine ⟨_, rfl, _, rfl, _, _, rfl, rfl, (k : Int), congrArg V.int (by omega), t, sl, sl.take k, rfl, ht.same s1, ?_, by rw [cut_to, List.map_take], fun p2 H2 s2 t2 => ?_⟩
      · rw [HT.sIx_nat]
        rintro ⟨_, z⟩
        omega
      refine ⟨p1, p2, [l], _, rfl, rfl, t1.same s2, t2, (by rw [List.length_take]; show 1 + _ ≤ _; omega), fun a3 H3 s3 t3 => ?_⟩
      -- slate[place:]
      have ht3 : TupI H3 t sl := ((ht.same s1).same s2).same s3
      refine ⟨_, rfl, _, rfl, ((k + 1 : Nat) : Int), congrArg V.int (by omega), t, sl, sl.drop (k + 1), rfl, ht3, ?_, by rw [cut_from, List.map_drop], fun p4 H4 s4 t4 => ?_⟩
      · rw [HT.sIx_nat]
        rintro ⟨z, _⟩
        omega
      refine ⟨a3, p4, _, _, rfl, rfl, t3.same s4, t4, (by rw [List.length_append, List.length_take, List.length_drop]; show 1 + _ + _ ≤ _; omega), fun a5 H5 s5 t5 => ?_⟩
      -- slate[place - 1], the pair
      have gk : sl[k]? = some sl[k] := List.getElem?_eq_getElem lk
      refine ⟨_, rfl, _, rfl, _, _, rfl, rfl, t, _, (k : Int), .int sl[k], rfl, congrArg V.int (by omega), ((ht3.same s4).same s5).sq, atI_int (by omega) (by rw [Int.toNat_natCast]; exact gk), ?_⟩
      refine ⟨by show 2 ≤ sizeLine; decide, fun r nr => ?_⟩
      have sH : Same H H5 := (s1.trans s2).trans ((s3.trans s4).trans s5)
      have e6 : [l] ++ sl.take k ++ sl.drop (k + 1) = stp ns sl l := by
        rw [es, List.eraseIdx_eq_take_drop_succ]
        rfl
      rw [e6] at t5
      exact q _ r a5 (.int sl[k]) (sH.trans (same_upd nr)) upd_same (t5.same (same_upd nr))
/-- the sum of the worths of a slate's letters -/
def wsum (ws sl : List Int) : Int := (sl.map fun l => ws.getD l.toNat 0).sum
def spWorth : Sp := fun vs H Q _ => ∃ (a s : Addr) (ws sl : List Int), vs = [.ref a, .ref s] ∧ TupI H a ws ∧ TupI H s sl ∧ sl.length ≤ 1000 ∧ (∀ l ∈ sl, 0 ≤ l ∧ l < (ws.length : Int)) ∧ ∀ H', Same H H' → Q (.int (wsum ws sl)) H'
theorem ok_worth (F : FnP K "worth_of" sWorthOf f fd) (M : Mg mg) : FnOk P w K mg base CX0 1 f fd ["worths", "slate"] spWorth := by
  refine go F scWorthOf (fun vs H Q E h => ?_) (fun cdv A outer s H vs Q E hr h => ?_)
  · obtain ⟨a, s, ws, sl, rfl, _⟩ := h
    rfl
  · obtain ⟨a, t, ws, sl, rfl, ha, ht, hl, hb, q⟩ := h
    refine ⟨_, pss_one (ps_ret (pe_callB (cr_sum rfl) (by rfl) M.n_sum b_sum (pa_cons (pe_lc (own := [("letter", 2)]) (g := gName 2) (tt := tYes) (by rfl) scWorthOf.nd (pi_tup (pv 1))
        (blkOk_by (own := [("letter", 2)]) (N := ["worths", "slate", "letter"]) (sc := defScope sWorthOf) (by decide +kernel)) (fun _ _ _ _ _ => pg_name (i := 2) scWorthOf.nd rfl (Or.inl rfl)) (fun _ _ _ _ _ => pts_nil)
        (fun _ _ _ _ _ => pe_ix (r := rIxT K) ix_tup (pv 0) (pv 2) (fun _ _ => rfl))) pa_nil))), ?_⟩
    refine ⟨_, rfl, t, rfl, ⟨_, ht.sq⟩, fun D nD => lc_tup (K := K) (a := t) (xs := sl.map V.int) (fun i H1 => Same H H1 ∧ H1 D = some (.lst (((sl.take i).map fun l => ws.getD l.toNat 0).map V.int)))
      ⟨same_upd nD, upd_same⟩ (fun i H1 _ ⟨s1, _⟩ => sm_tup s1 ht.sq) (fun i x H1 hx ⟨s1, e1⟩ => ?_) (fun H1 ⟨s1, e1⟩ => ?_)⟩
    · obtain ⟨y, h1, rfl, hm⟩ := get_map hx
      obtain ⟨g0, g1⟩ := hb y hm
      have hi := (List.getElem?_eq_some_iff.mp h1).1
      have gw : ws[y.toNat]? = some (ws.getD y.toNat 0) := by
        have : y.toNat < ws.length := by omega
        rw [List.getD_eq_getElem?_getD, List.getElem?_eq_getElem this]
        rfl
      refine ⟨rfl, _, rfl, _, rfl, a, _, y, _, rfl, rfl, sm_tup s1 ha.sq, atI_int g0 gw, _, e1, lt_line (by rw [len_map, List.length_map, List.length_take]; omega), sm_upd s1 nD, ?_⟩
      rw [upd_same, List.take_add_one, h1, List.map_append, List.map_append]
      rfl
    · refine ⟨D, _, rfl, SqL.of e1, ?_⟩
      have e2 : sl.take (sl.map V.int).length = sl := by rw [len_map]; exact List.take_length
      rw [e2]
      exact q H1 s1
end

end Fw

set_option Elab.async false
set_option linter.all false
set_option maxRecDepth 100000
set_option maxHeartbeats 4000000
/-! FwSpread: all slates that can come, by the program. -/
namespace Fw
open PySem PySem.Spec PyProof.Rows L2
/-! ### the table of slates, a list of slates -/
structure TabI (P : Program) (w : World) (m : Nat) (H0 H : Hp) (d : Addr) (D : List En) : Prop where
  sm : Same H0 H
  dd : DictW P w H d D
  ww : ∀ e ∈ D, TupI H e.2.2 e.2.1
  met : Met m D
  d0 : H0 d = none
structure LstI (m : Nat) (H : Hp) (l : Addr) (L : List (Addr × List Int)) (D : List En) : Prop where
  ll : H l = some (.lst (L.map fun e => V.ref e.1))
  lm : ∀ e ∈ L, TupI H e.1 e.2 ∧ Sl m e.2 ∧ e.2 ∈ D.map (·.1)
section
variable {P : Program} {w : World} {m : Nat} {H0 H H1 : Hp} {d l : Addr} {D : List En} {L : List (Addr × List Int)}
theorem TabI.same (h : TabI P w m H0 H d D) (s : Same H H1) : TabI P w m H0 H1 d D := ⟨h.sm.trans s, h.dd.same s, fun e he => (h.ww e he).same s, h.met, h.d0⟩
theorem LstI.same (h : LstI m H l L D) (s : Same H H1) : LstI m H1 l L D := ⟨s _ _ h.ll, fun e he => ⟨(h.lm e he).1.same s, (h.lm e he).2⟩⟩
/-- all tuples stand elsewhere -/
def Off (H : Hp) (p : Addr) : Prop := ∀ (q : Addr) ns, TupI H q ns → q ≠ p
theorem TabI.offd (h : TabI P w m H0 H d D) : Off H d := fun _ _ t => t.ne h.dd
theorem LstI.offl (h : LstI m H l L D) : Off H l := not_tup h.ll (fun _ _ z => nomatch z)
theorem TabI.nel (h : TabI P w m H0 H d D) (g : LstI m H l L D) : l ≠ d := fun e => by
  obtain ⟨φ, g2⟩ := h.dd.some
  rw [← e, g.ll] at g2
  cases g2
theorem TabI.put (h : TabI P w m H0 H d D) {u : HO} {s wd : List Int} {x : Int} {a t1 : Nat} {t : List Int} (hs : Sl m s) (hn : lookD D s = none) (hu : (t, wd, t1) ∈ D) (ha : TupI H a (wd ++ [x])) (dw : DictW P w (upd H d u) d (putD D s (wd ++ [x]) a)) :
    TabI P w m H0 (upd H d u) d (D ++ [(s, wd ++ [x], a)]) := by
  rw [putD_new hn] at dw
  refine ⟨sm_upd h.sm h.d0, dw, fun e he => ?_, h.met.snoc hs hn hu, h.d0⟩
  rcases List.mem_append.mp he with q | q
  · exact (h.ww e q).upd (h.offd _ _ (h.ww e q))
  · rw [List.mem_singleton.mp q]
    exact ha.upd (h.offd _ _ ha)
theorem TabI.off (h : TabI P w m H0 H d D) {p : Addr} {o : HO} (p0 : H0 p = none) (nd : d ≠ p) (nt : Off H p) : TabI P w m H0 (upd H p o) d D :=
  ⟨sm_upd h.sm p0, h.dd.off nd nt, fun e he => (h.ww e he).upd (nt _ _ (h.ww e he)), h.met, h.d0⟩
theorem LstI.off (h : LstI m H l L D) {p : Addr} {o : HO} {D' : List En} (nl : l ≠ p) (nt : Off H p) (sub : ∀ s ∈ D.map (·.1), s ∈ D'.map (·.1)) : LstI m (upd H p o) l L D' :=
  ⟨by rw [upd_ne nl]; exact h.ll, fun e he => ⟨(h.lm e he).1.upd (nt _ _ (h.lm e he).1), (h.lm e he).2.1, sub _ (h.lm e he).2.2⟩⟩
theorem LstI.add (h : LstI m H l L D) {p : Addr} {s : List Int} (hp : TupI H p s) (hs : Sl m s) (hd : s ∈ D.map (·.1)) : LstI m (upd H l (.lst ((L.map fun e => V.ref e.1) ++ [.ref p]))) l (L ++ [(p, s)]) D := by
  refine ⟨by rw [upd_same, List.map_append]; rfl, fun e he => ?_⟩
  rcases List.mem_append.mp he with q | q
  · exact ⟨(h.lm e q).1.upd (h.offl _ _ (h.lm e q).1), (h.lm e q).2⟩
  · rw [List.mem_singleton.mp q]
    exact ⟨hp.upd (h.offl _ _ hp), hs, hd⟩
theorem keys_sub {e : En} : ∀ s ∈ D.map (·.1), s ∈ (D ++ [e]).map (·.1) := fun s hs => by
  rw [List.map_append]
  exact List.mem_append_left _ hs
/-- one round: the table, the slates met newly, the slates to go on from -/
def Rnd (P : Program) (w : World) (m : Nat) (H0 H : Hp) (d r l : Addr) (R : List (Addr × List Int)) (n0 : Nat) : Prop := ∃ (D : List En) (L : List (Addr × List Int)), TabI P w m H0 H d D ∧ LstI m H l L D ∧ LstI m H r R D ∧ D.length = n0 + L.length
theorem Rnd.add {r : Addr} {R : List (Addr × List Int)} {n0 : Nat} {s wd : List Int} {x : Int} {a t1 p : Nat} {t : List Int} {u : HO} (hT : TabI P w m H0 H d D) (hL : LstI m H l L D) (hR : LstI m H r R D) (en : D.length = n0 + L.length) (l0 : H0 l = none) (rl : r ≠ l)
    (hs : Sl m s) (hn : lookD D s = none) (hu : (t, wd, t1) ∈ D) (ha : TupI H a (wd ++ [x])) (hp : TupI H p s) (dw : DictW P w (upd H d u) d (putD D s (wd ++ [x]) a)) :
    (upd H d u) l = some (.lst (L.map fun e => V.ref e.1)) ∧ Rnd P w m H0 (upd (upd H d u) l (.lst ((L.map fun e => V.ref e.1) ++ [.ref p]))) d r l R n0 := by
  have T1 := hT.put hs hn hu ha dw
  have L1 : LstI m (upd H d u) l L (D ++ [(s, wd ++ [x], a)]) := hL.off (hT.nel hL) hT.offd keys_sub
  have R1 : LstI m (upd H d u) r R (D ++ [(s, wd ++ [x], a)]) := hR.off (hT.nel hR) hT.offd keys_sub
  have hin : s ∈ (D ++ [(s, wd ++ [x], a)]).map (·.1) := by
    rw [List.map_append]
    exact List.mem_append_right _ (List.mem_singleton.mpr rfl)
  refine ⟨L1.ll, _, _, T1.off l0 (hT.nel hL).symm L1.offl, L1.add (hp.upd (hT.offd _ _ hp)) hs hin, R1.off rl L1.offl (fun _ z => z), ?_⟩
  rw [List.length_append, List.length_append, en]
  exact Nat.add_assoc _ _ _
end
/-! ### the test of the rim -/
theorem lay_ints : ∀ ns : List Int, PyData.canLayAll0 (ns.map PyData.int) = true ∧ PyData.depthAll (ns.map PyData.int) = 0
  | [] => ⟨by simp [PyData.canLayAll0], by simp [PyData.depthAll]⟩
  | n :: r => by
    obtain ⟨h1, h2⟩ := lay_ints r
    rw [List.map_cons]
    exact ⟨by simp [PyData.canLayAll0, PyData.canLay0, h1], by simp [PyData.depthAll, PyData.depth, h2]⟩
def datS (L : List (Addr × List Int)) : PyData := .list (L.map fun e => .tuple (e.2.map PyData.int))
theorem lay_slates (L : List (Addr × List Int)) : SeqAt.shaped (datS L) = true := by
  have key : PyData.canLayAll0 (L.map fun e => PyData.tuple (e.2.map PyData.int)) = true ∧ PyData.depthAll (L.map fun e => PyData.tuple (e.2.map PyData.int)) ≤ 1 := by
    induction L with
    | nil => exact ⟨by simp [PyData.canLayAll0], by simp [PyData.depthAll]⟩
    | cons e r ih =>
      obtain ⟨h1, h2⟩ := ih
      obtain ⟨g1, g2⟩ := lay_ints e.2
      rw [List.map_cons]
      refine ⟨by simp [PyData.canLayAll0, PyData.canLay0, h1, g1], ?_⟩
      simp only [PyData.depthAll, PyData.depth, g2]
      omega
  obtain ⟨h1, h2⟩ := key
  unfold SeqAt.shaped datS
  rw [Bool.and_eq_true]
  refine ⟨by simp only [PyData.canLay0, h1], decide_eq_true ?_⟩
  simp only [PyData.depth]
  omega
theorem dp_ints {K : PySem.W.Frag} {H : Hp} : ∀ ns : List Int, DpAll K H (ns.map V.int) (ns.map PyData.int)
  | [] => .nil
  | n :: r => .cons (.int n) (dp_ints r)
theorem dp_slates {K : PySem.W.Frag} {H : Hp} {l : Addr} {L : List (Addr × List Int)} (h : H l = some (.lst (L.map fun e => V.ref e.1))) (ht : ∀ e ∈ L, TupI H e.1 e.2) : Dp K H (.ref l) (datS L) := by
  have all : ∀ {L : List (Addr × List Int)}, (∀ e ∈ L, TupI H e.1 e.2) → DpAll K H (L.map fun e => V.ref e.1) (L.map fun e => PyData.tuple (e.2.map PyData.int)) := by
    intro L ht
    induction L with
    | nil => exact .nil
    | cons e r ih => exact .cons (.tup (ht e List.mem_cons_self).sq (dp_ints _)) (ih fun x hx => ht x (List.mem_cons_of_mem _ hx))
  exact .lst (SqL.of h) (all ht)
theorem ne_nil (L : List (Addr × List Int)) : (!PyData.eqv (datS L) (.list [])) = !L.isEmpty := by
  cases L with
  | nil => simp [datS, PyData.eqv, PyData.eqvAll]
  | cons e r => simp [datS, PyData.eqv, PyData.eqvAll]
def cost (D : List En) (R : List (Addr × List Int)) : Nat := 2 * (1400 - D.length) + (if R.isEmpty then 0 else 1)
theorem cost_less {D D' : List En} {R L : List (Addr × List Int)} (hR : R.isEmpty = false) (e : D'.length = D.length + L.length) (hm : D'.length ≤ 1365) : cost D' L < cost D R := by
  unfold cost
  rw [hR]
  cases L with
  | nil =>
    simp only [List.length_nil] at e
    simp only [List.isEmpty_nil, if_true, Bool.false_eq_true, if_false]
    omega
  | cons a r =>
    simp only [List.length_cons] at e
    simp only [List.isEmpty_cons, Bool.false_eq_true, if_false]
    omega
section
variable {P : Program} {w : World} {K : PySem.W.Frag} {mg : Str → Option Value} {base : Heap} {f : Addr} {fd : FuncData}
def spSpreadTo : Sp := fun vs H Q _ => ∃ (v s : Addr) (ns sl : List Int) (m : Nat), vs = [.ref v, .ref s, .int 2000] ∧ TupI H v ns ∧ Vl m ns ∧ m ≤ 4 ∧ TupI H s sl ∧ Sl m sl ∧ ∀ H' x, Same H H' → Q x H'
theorem ok_spreadTo (F : FnP K "spread_to" sSpreadTo f fd) (M : Mg mg) (C : Fk P w K mg base 1 "stepped" ["values", "slate", "letter"] spStepped) : FnOk P w K mg base CX0 2 f fd ["values", "slate", "most"] spSpreadTo := by
  refine go F scSpreadTo (fun vs H Q E h => ?_) (fun cdv A outer s H vs Q E hr h => ?_)
  · obtain ⟨v, s, ns, sl, m, rfl, _⟩ := h
    rfl
  · obtain ⟨v, t, ns, sl, m, rfl, hv, hvl, m4, ht, hsl, q⟩ := h
    have hu := hu_of hr
    refine ⟨_, pss_cons (ps_par (i := 3) (j := 4) (by rfl) scSpreadTo.nd rfl rfl (by decide) rfl rfl (pa_cons (pe_xdisp hu (pv 1) (pe_tupP pa_nil)) (pa_cons (pe_lst (pa_cons (pv 1) pa_nil)) pa_nil)) (by rfl))
      (pss_cons (ps_while PassesOwn.never (pt_cmpR (op_neD hr.units) (pv 4) (pe_lst pa_nil) (nomark _))
        (pss_cons (ps_set (i := 5) scSpreadTo.nd rfl (.inl rfl) (pe_lst pa_nil))
        (pss_cons (ps_for PassesOwn.never rfl (pi_list (pv 4)) (pg_name (i := 6) scSpreadTo.nd rfl (.inl rfl))
          (pss_one (ps_for PassesOwn.never rfl (pi_range1 (by rfl) M.n_range (pa_cons (pe_callB call_len (by rfl) M.n_len b_len (pa_cons (pv 0) pa_nil)) pa_nil)) (pg_name (i := 7) scSpreadTo.nd rfl (.inl rfl))
            (pss_cons (ps_set (i := 8) scSpreadTo.nd rfl (.inl rfl) (pe_ix ix_tup (pe_c C hr (by rfl) (pa_cons (pv 0) (pa_cons (pv 6) (pa_cons (pv 7) pa_nil)))) pe_int (fun _ _ => rfl)))
            (pss_one (ps_if (pt_cmp (pc_xnot hu (pv 8) (pv 3)))
              (pss_cons (ps_xput hu (pv 3) (pv 8) (pe_op op_catP (pe_xget hu (pv 3) (pv 6) (fun _ _ => rfl)) (pe_tupP (pa_cons (pv 7) pa_nil))) rfl)
              (pss_one (ps_expr (pe_bm PySem.F.plainAttrs_list PySem.F.slot_list_append PySem.F.type_list_append mt_append (pv 5) (pa_cons (pv 8) pa_nil))))) pss_nil))))))
        (pss_cons (ps_if (pt_cmpR op_gt (pe_callB call_xlen (by rfl) M.n_len b_len (pa_cons (pv 3) pa_nil)) (pv 2) (nomark _)) (pss_one ps_never) pss_nil)
        (pss_one (ps_set (i := 4) scSpreadTo.nd rfl (.inl rfl) (pv 5)))))))
      (pss_one (ps_ret (pv 3)))), ?_⟩
    -- found, rim = {slate: ()}, [slate]
    refine fun d o0 nd dw0 => ⟨_, rfl, [], rfl, Nat.zero_le _, fun t0 H2 _ s2 tt0 => ⟨s2 _ _ upd_same, t, t0, sl, [], rfl, rfl, (ht.same (same_upd nd)).same s2, fun u3 dw3 => ?_⟩⟩
    have offd : Off H2 d := fun q ns z => z.ne (dw0.same s2)
    have T0 : TabI P w m H (upd H2 d u3) d [(sl, [], t0)] := ⟨sm_upd ((same_upd nd).trans s2) nd, dw3, fun e he => by
      rw [List.mem_singleton.mp he]
      exact tt0.upd (offd _ _ tt0), Met.one hsl, nd⟩
    generalize upd H2 d u3 = H3 at T0
    refine ⟨_, rfl, Nat.le_trans (by decide : 1 ≤ 1000) (Nat.le_of_lt (small1000 (Nat.le_refl _))), fun r nr => ⟨_, _, rfl, ?_⟩⟩
    have r0 : H r = none := T0.sm.free nr
    have T1 := T0.same (same_upd (o := .lst [.ref t]) nr)
    have R1 : LstI m (upd H3 r (.lst [.ref t])) r [(t, sl)] [(sl, [], t0)] := ⟨upd_same, fun e he => by
      rw [List.mem_singleton.mp he]
      exact ⟨ht.same T1.sm, hsl, List.mem_singleton.mpr rfl⟩⟩
    generalize upd H3 r (.lst [.ref t]) = H4 at T1 R1
    -- while rim != []
    refine ⟨fun k σ H1 => ∃ (D : List En) (R : List (Addr × List Int)) (r : Addr) (x5 x6 x7 x8 : Option V), σ = [some (.ref v), some (.ref t), some (.int 2000), some (.ref d), some (.ref r), x5, x6, x7, x8] ∧ TabI P w m H H1 d D ∧ LstI m H1 r R D ∧ H r = none ∧ R.length ≤ D.length ∧ k = cost D R,
      ⟨_, _, _, r, none, none, none, none, rfl, T1, R1, r0, Nat.le_refl _, rfl⟩, fun k σ H1 ⟨D, R, r, x5, x6, x7, x8, es, T, Rr, r0, lr, ek⟩ => ?_⟩
    subst es
    refine ⟨_, rfl, Nat.zero_le _, fun p np => ?_⟩
    have sp : Same H1 (upd H1 p (.lst [])) := same_upd np
    refine ⟨_, _, dp_slates (sp _ _ Rr.ll) (fun e he => (Rr.lm e he).1.same sp), .lst (SqL.of upd_same) .nil, lay_slates R, (by decide +kernel), _, rfl, ?_⟩
    have T2 := T.same sp
    have R2 := Rr.same sp
    generalize upd H1 p (.lst []) = H2 at T2 R2
    rw [ne_nil]
    cases hR : R.isEmpty with
    | true => exact iteF ⟨_, rfl, q _ _ T2.sm⟩
    | false =>
      refine ⟨fun σ' H' => ∃ k', k' < k ∧ ∃ (D : List En) (R : List (Addr × List Int)) (r : Addr) (x5 x6 x7 x8 : Option V), σ' = [some (.ref v), some (.ref t), some (.int 2000), some (.ref d), some (.ref r), x5, x6, x7, x8] ∧ TabI P w m H H' d D ∧ LstI m H' r R D ∧ H r = none ∧ R.length ≤ D.length ∧ k' = cost D R,
        fun _ _ z => z, Nat.zero_le _, fun l nl => ?_⟩
      have rl : r ≠ l := ne_of_none R2.ll nl
      have l0 : H l = none := T2.sm.free nl
      have sl2 : Same H2 (upd H2 l (.lst [])) := same_upd nl
      have I0 : Rnd P w m H (upd H2 l (.lst [])) d r l R D.length := ⟨D, [], T2.same sl2, ⟨upd_same, fun e he => by cases he⟩, R2.same sl2, rfl⟩
      -- for here in rim
      refine ⟨_, rfl, r, rfl, ⟨_, SqL.of (sl2 _ _ R2.ll)⟩, for_list (K := K) (a := r) (xs := R.map fun e => V.ref e.1) (fun i σ H5 => ∃ (y6 y7 y8 : Option V), σ = [some (.ref v), some (.ref t), some (.int 2000), some (.ref d), some (.ref r), some (.ref l), y6, y7, y8] ∧ Rnd P w m H H5 d r l R D.length)
        ⟨_, _, _, rfl, I0⟩ (fun i σ H5 _ ⟨_, _, _, _, _, _, _, _, c, _⟩ => SqL.of c.ll) (fun i x σ H5 hx ⟨y6, y7, y8, es, I5⟩ => ?_) (fun σ H5 ⟨y6, y7, y8, es, D5, L5, T5, L5l, R5, en⟩ => ?_)⟩
      · subst es
        rw [List.getElem?_map] at hx
        obtain ⟨⟨hAd, hsl5⟩, h1, rfl⟩ := Option.map_eq_some_iff.mp hx
        have hmem := List.mem_of_getElem? h1
        have hv5 : TupI H5 v ns := by
          obtain ⟨_, _, T5, _⟩ := I5
          exact hv.same T5.sm
        -- for letter in range(len(values))
        refine ⟨_, rfl, _, ns.length, rfl, .inr ⟨_, hv5.sq, len_map.symm⟩, (ns.length : Int), rfl, by omega, by rw [hvl.1]; omega, for_range (lo := 0) (n := (ns.length : Int).toNat) (fun j σ H6 => ∃ (y7 y8 : Option V), σ = [some (.ref v), some (.ref t), some (.int 2000), some (.ref d), some (.ref r), some (.ref l), some (.ref hAd), y7, y8] ∧ Rnd P w m H H6 d r l R D.length)
          ⟨_, _, rfl, I5⟩ (fun j σ H6 hj ⟨y7, y8, es, D6, L6, T6, L6l, R6, en⟩ => ?_) (fun σ H6 ⟨y7, y8, es, I6⟩ => ⟨_, _, _, es, I6⟩)⟩
        subst es
        have hjn : j < ns.length := by omega
        have hjm : (0 : Int) + (j : Nat) ∈ lts m := mem_lts.mpr ⟨by omega, by rw [← hvl.1]; omega⟩
        obtain ⟨pv0, gv, _, g1, g5⟩ := hvl.at hjm
        obtain ⟨hh, hhs, hhd⟩ : TupI H6 hAd hsl5 ∧ Sl m hsl5 ∧ hsl5 ∈ D6.map (·.1) := R6.lm _ hmem
        -- more = stepped(values, here, letter)[0]
        refine ⟨_, rfl, _, rfl, _, rfl, v, hAd, ns, hsl5, _, pv0, rfl, hv.same T6.sm, hh, by omega, gv, g1, by omega, by have := hhs.1; omega, fun H7 qq a x s7 hq ha => ?_⟩
        refine ⟨qq, _, 0, .ref a, rfl, rfl, SqT.of hq, atI_nat (j := 0) rfl, ?_⟩
        have T7 := T6.same s7
        have L7 := L6l.same s7
        have R7 := R6.same s7
        have hsm : Sl m (stp ns hsl5 (0 + (j : Nat))) := stp_sl hvl hhs hjm
        -- if more not in found
        refine ⟨_, rfl, _, rfl, d, a, D6, _, rfl, rfl, T7.dd.r, ha, _, rfl, ?_⟩
        cases hlk : lookD D6 (stp ns hsl5 (0 + (j : Nat))) with
        | some z => exact iteF ⟨_, _, rfl, D6, L6, T7, L7, R7, en⟩
        | none =>
          -- found[more] = found[here] + (letter,)
          obtain ⟨e0, he0, ee0⟩ := List.mem_map.mp hhd
          have lk0 : lookD D6 hsl5 = some (e0.2.1, e0.2.2) := by rw [← ee0, lookD_there T7.met.nd he0]
          have wl := T7.met.wd e0 he0
          have ml := T7.met.le m4
          refine ⟨_, rfl, _, rfl, d, hAd, e0.2.2, D6, hsl5, e0.2.1, rfl, rfl, T7.dd.r, hh.same s7, lk0, ?_⟩
          refine ⟨_, rfl, [(0 + ((j : Nat) : Int))], rfl, (by decide : 1 ≤ 100000), fun p8 H8 _ s8 t8 => ?_⟩
          refine ⟨e0.2.2, p8, _, _, rfl, rfl, (T7.ww e0 he0).same s8, t8, by show _ + 1 ≤ _; omega, fun a9 H9 s9 t9 => ?_⟩
          have T9 := (T7.same s8).same s9
          have L9 := (L7.same s8).same s9
          have R9 := (R7.same s8).same s9
          have hm9 : TupI H9 a (stp ns hsl5 (0 + (j : Nat))) := (ha.same s8).same s9
          refine ⟨_, rfl, _, rfl, d, a, a9, D6, stp ns hsl5 (0 + ((j : Nat) : Int)), e0.2.1 ++ [(0 + ((j : Nat) : Int))], rfl, rfl, rfl, T9.dd, hm9, by omega, fun u (dw : DictW P w (upd H9 d u) d (putD D6 (stp ns hsl5 (0 + ((j : Nat) : Int))) (e0.2.1 ++ [(0 + ((j : Nat) : Int))]) a9)) => ?_⟩
          obtain ⟨ll9, fin⟩ := Rnd.add T9 L9 R9 en l0 rl hsm hlk (show (e0.1, e0.2.1, e0.2.2) ∈ D6 from he0) t9 hm9 dw
          -- later.append(more)
          exact ⟨_, rfl, .inl ⟨rfl, _, SqL.of ll9⟩, _, rfl, l, _, _, rfl, rfl, ll9, lt_line (by rw [List.length_map]; omega), _, _, rfl, fin⟩
      · -- len(found) > most
        subst es
        have ml := T5.met.le m4
        refine ⟨_, rfl, d, D5, rfl, T5.dd.r, by omega, _, rfl, _, _, rfl, rfl, _, rfl, ?_⟩
        rw [decide_eq_false (by omega)]
        exact iteF ⟨_, rfl, cost D5 L5, by rw [ek]; exact cost_less hR en ml, D5, L5, l, _, _, _, _, rfl, T5, L5l, l0, by omega, rfl⟩
end
end Fw

set_option Elab.async false
set_option linter.all false
set_option maxRecDepth 100000
set_option maxHeartbeats 4000000
/-! FwLaw1: spread; the law's own writing, its own slates. -/
namespace Fw
open PySem PySem.Spec PyProof.Rows L2
theorem rev_erase {c : List Int} {p : Nat} (h1 : 1 ≤ p) (h2 : p ≤ c.length) : c.reverse.eraseIdx (c.length - p) = (c.eraseIdx (p - 1)).reverse := by
  rw [List.eraseIdx_eq_take_drop_succ, List.eraseIdx_eq_take_drop_succ, List.reverse_append, List.take_reverse, List.drop_reverse]
  have e1 : c.length - (c.length - p) = p - 1 + 1 := by omega
  have e2 : c.length - (c.length - p + 1) = p - 1 := by omega
  rw [e1, e2]
theorem map_erase (c : List Int) (k : Nat) : (c.map V.int).eraseIdx k = (c.eraseIdx k).map V.int := by
  rw [List.eraseIdx_eq_take_drop_succ, List.eraseIdx_eq_take_drop_succ, List.map_append, List.map_take, List.map_drop]
theorem run_take {ns sl w : List Int} {i : Nat} {l : Int} (h : w[i]? = some l) : run ns sl (w.take (i + 1)) = stp ns (run ns sl (w.take i)) l := by
  rw [List.take_add_one, h]
  exact run_snoc
theorem take_lts {m : Nat} {w : List Int} {i : Nat} (h : ∀ l ∈ w, l ∈ lts m) : ∀ l ∈ w.take i, l ∈ lts m := fun l hl => h l (List.mem_of_mem_take hl)
section
variable {P : Program} {w : World} {K : PySem.W.Frag} {mg : Str → Option Value} {base : Heap} {f : Addr} {fd : FuncData}
def spSpread : Sp := fun vs H Q _ => ∃ (v s : Addr) (ns sl : List Int) (m : Nat), vs = [.ref v, .ref s] ∧ TupI H v ns ∧ Vl m ns ∧ m ≤ 4 ∧ TupI H s sl ∧ Sl m sl ∧ ∀ H' x, Same H H' → Q x H'
theorem ok_spread (F : FnP K "spread" sSpread f fd) (M : Mg mg) (C : Fk P w K mg base 2 "spread_to" ["values", "slate", "most"] spSpreadTo) : FnOk P w K mg base CX0 3 f fd ["values", "slate"] spSpread := by
  obtain ⟨tM, eM⟩ := M.v_MOST_SLATES
  refine go F scSpread (fun vs H Q E h => ?_) (fun cdv A outer s H vs Q E hr h => ?_)
  · obtain ⟨v, s, ns, sl, m, rfl, _⟩ := h
    rfl
  · obtain ⟨v, t, ns, sl, m, rfl, hv, hvl, m4, ht, hsl, q⟩ := h
    refine ⟨_, pss_one (ps_ret (pe_c C hr (by rfl) (pa_cons (pv 0) (pa_cons (pv 1) (pa_cons (pe_glob (v := .int 2000) (by rfl) eM ⟨tM, rfl⟩) pa_nil))))), ?_⟩
    exact ⟨_, rfl, _, rfl, v, t, ns, sl, m, rfl, hv, hvl, m4, ht, hsl, q⟩
def spWrite : Sp := fun vs H Q _ => ∃ (v s t : Addr) (ns sl wd : List Int) (m : Nat), vs = [.ref v, .ref s, .ref t] ∧ TupI H v ns ∧ Vl m ns ∧ TupI H s sl ∧ Sl m sl ∧ TupI H t wd ∧ (∀ l ∈ wd, l ∈ lts m) ∧ ∀ H' p, Same H H' → TupI H' p (run ns sl wd) → Q (.ref p) H'
theorem ok_write (F : FnP K "_law_write" sLWrite f fd) (M : Mg mg) : FnOk P w K mg base CX0 1 f fd ["_law_values_here", "_law_slate", "_law_word_here"] spWrite := by
  refine go F scLWrite (fun vs H Q E h => ?_) (fun cdv A outer s H vs Q E hr h => ?_)
  · obtain ⟨v, s, t, ns, sl, wd, m, rfl, _⟩ := h
    rfl
  · obtain ⟨v, t, tw, ns, sl, wd, m, rfl, hv, hvl, ht, hsl, hw, hwl, q⟩ := h
    refine ⟨_, pss_cons (ps_set (i := 3) scLWrite.nd rfl (.inl rfl) (pe_revL (pe_callTy call_list_of (by rfl) M.n_list b_list (pa_cons (pv 1) pa_nil))))
      (pss_cons (ps_for PassesOwn.never rfl (pi_tup (pv 2)) (pg_name (i := 4) scLWrite.nd rfl (.inl rfl))
        (pss_cons (ps_set (i := 5) scLWrite.nd rfl (.inl rfl) (pe_op op_sub (pe_callB call_len (by rfl) M.n_len b_len (pa_cons (pv 3) pa_nil)) (pe_ix ix_tup (pv 0) (pv 4) (fun _ _ => rfl))))
        (pss_cons (ps_if (pt_cmpR op_ge (pv 5) pe_int (nomark _)) (pss_one (ps_expr (pe_bm PySem.F.plainAttrs_list PySem.F.slot_list_pop PySem.F.type_list_pop mt_popAt (pv 3) (pa_cons (pv 5) pa_nil)))) pss_nil)
        (pss_one (ps_expr (pe_bm PySem.F.plainAttrs_list PySem.F.slot_list_append PySem.F.type_list_append mt_append (pv 3) (pa_cons (pv 4) pa_nil)))))))
      (pss_one (ps_ret (pe_callTy call_tupP (by rfl) M.n_tuple b_tuple (pa_cons (pe_revL (pv 3)) pa_nil))))), ?_⟩
    -- here = list(slate)[::-1]
    refine ⟨_, rfl, t, _, rfl, .inr ht.sq, fun l1 n1 => ⟨l1, _, rfl, SqL.of upd_same, fun h nh => ?_⟩⟩
    have s1 : Same H (upd (upd H l1 (.lst (sl.map V.int))) h (.lst (sl.map V.int).reverse)) := (same_upd n1).trans (same_upd nh)
    have h0 : H h = none := (same_upd n1).free nh
    have e0 : (upd (upd H l1 (.lst (sl.map V.int))) h (.lst (sl.map V.int).reverse)) h = some (.lst (sl.reverse.map V.int)) := by rw [upd_same, List.map_reverse]
    generalize (upd (upd H l1 (.lst (sl.map V.int))) h (.lst (sl.map V.int).reverse)) = H1 at s1 e0
    -- for letter in word
    refine ⟨_, rfl, tw, rfl, ⟨_, (hw.same s1).sq⟩, for_tup (K := K) (a := tw) (xs := wd.map V.int) (fun i σ H2 => ∃ (x4 x5 : Option V), σ = [some (.ref v), some (.ref t), some (.ref tw), some (.ref h), x4, x5] ∧ Same H H2 ∧ H2 h = some (.lst ((run ns sl (wd.take i)).reverse.map V.int)))
      ⟨_, _, rfl, s1, e0⟩ (fun i σ H2 _ ⟨_, _, _, s2, _⟩ => sm_tup s2 hw.sq) (fun i x σ H2 hx ⟨x4, x5, es, s2, e2⟩ => ?_) (fun σ H2 ⟨x4, x5, es, s2, e2⟩ => ?_)⟩
    · subst es
      obtain ⟨l, hl, rfl, hm⟩ := get_map hx
      have hlm := hwl l hm
      obtain ⟨p, gp, _, p1, p5⟩ := hvl.at hlm
      have hc := run_sl (w := wd.take i) hvl hsl (take_lts hwl)
      have en : run ns sl (wd.take (i + 1)) = l :: (run ns sl (wd.take i)).eraseIdx (p.toNat - 1) := by
        rw [run_take hl]
        unfold stp
        rw [List.getD_eq_getElem?_getD, gp]
        rfl
      generalize hcc : run ns sl (wd.take i) = c at e2 hc en
      have lc : (c.reverse.map V.int).length = c.length := by rw [len_map, List.length_reverse]
      have lc5 := hc.1
      refine ⟨_, rfl, _, c.length, rfl, .inl ⟨_, SqL.of e2, lc.symm⟩, _, rfl, _, rfl, v, _, l, _, rfl, rfl, sm_tup s2 hv.sq, atI_int (mem_lts.mp hlm).1 gp, _, _, rfl, rfl, ?_⟩
      refine ⟨_, rfl, _, _, rfl, rfl, _, rfl, ite2 (fun e => ?_) (fun e => ?_)⟩
      · have e' : 0 ≤ (c.length : Int) - p := of_decide_eq_true e
        obtain ⟨k, ek⟩ : ∃ k : Nat, p = (k : Int) := ⟨p.toNat, by omega⟩
        subst ek
        have kk : c.length - k < c.length := by omega
        have g1 : c.reverse[c.length - k]? = some (c.reverse[c.length - k]'(by rw [List.length_reverse]; exact kk)) := List.getElem?_eq_getElem _
        refine ⟨_, rfl, .inl ⟨rfl, _, SqL.of e2⟩, _, rfl, h, _, (c.length : Int) - (k : Int), c.length - k, _, rfl, rfl, e2, by omega, by omega, ?_, by rw [List.getElem?_map, g1]; rfl, ?_⟩
        · rw [lc, PySem.seqIndex_of e' (by omega)]
          exact congrArg some (by omega)
        · rw [map_erase, rev_erase (by omega) (by omega)]
          rw [show ((k : Int)).toNat - 1 = k - 1 by omega] at en
          refine ⟨_, rfl, .inl ⟨rfl, _, SqL.of upd_same⟩, _, rfl, h, _, _, rfl, rfl, upd_same, lt_line (by rw [len_map, List.length_reverse, List.length_eraseIdx]; split <;> omega), _, _, rfl, sm_upd (sm_upd s2 h0) h0, ?_⟩
          rw [upd_same, en, List.reverse_cons, List.map_append]
          rfl
      · have e' : ¬ 0 ≤ (c.length : Int) - p := fun z => e (decide_eq_true z)
        rw [List.eraseIdx_of_length_le (by omega)] at en
        refine ⟨_, rfl, .inl ⟨rfl, _, SqL.of e2⟩, _, rfl, h, _, _, rfl, rfl, e2, lt_line (by rw [lc]; omega), _, _, rfl, sm_upd s2 h0, ?_⟩
        rw [upd_same, en, List.reverse_cons, List.map_append]
        rfl
    · subst es
      have ew : wd.take (wd.map V.int).length = wd := by rw [len_map]; exact List.take_length
      rw [ew] at e2
      refine ⟨_, rfl, h, _, rfl, SqL.of e2, fun l2 n2 => ⟨l2, run ns sl wd, rfl, SqL.of (by rw [upd_same, ← List.map_reverse, List.reverse_reverse]), fun p H' np sp tp => q _ p ((s2.trans (same_upd n2)).trans sp) tp⟩⟩
def spLSlates (P : Program) (w : World) : Sp := fun vs H Q _ => ∃ (v s : Addr) (ns sl : List Int) (m : Nat), vs = [.ref v, .ref s] ∧ TupI H v ns ∧ Vl m ns ∧ m ≤ 4 ∧ TupI H s sl ∧ Sl m sl ∧ ∀ H' d D, Same H H' → DictW P w H' d D → D.length ≤ 1365 → Q (.ref d) H'
theorem ok_lslates (F : FnP K "_law_slates" sLSlates f fd) (M : Mg mg) (C : Fk P w K mg base 1 "_law_write" ["_law_values_here", "_law_slate", "_law_word_here"] spWrite) : FnOk P w K mg base CX0 2 f fd ["_law_values_here", "_law_slate"] (spLSlates P w) := by
  refine go F scLSlates (fun vs H Q E h => ?_) (fun cdv A outer s H vs Q E hr h => ?_)
  · obtain ⟨v, s, ns, sl, m, rfl, _⟩ := h
    rfl
  · obtain ⟨v, t, ns, sl, m, rfl, hv, hvl, m4, ht, hsl, q⟩ := h
    have hu := hu_of hr
    refine ⟨_, pss_cons (ps_par (i := 2) (j := 3) (by rfl) scLSlates.nd rfl rfl (by decide) rfl rfl (pa_cons (pe_xdisp hu (pv 1) (pe_tupP pa_nil)) (pa_cons (pe_lst (pa_cons (pv 1) pa_nil)) pa_nil)) (by rfl))
      (pss_cons (ps_while PassesOwn.never (pt_cmpR (op_neD hr.units) (pv 3) (pe_lst pa_nil) (nomark _))
        (pss_cons (ps_set (i := 4) scLSlates.nd rfl (.inl rfl) (pe_lst pa_nil))
        (pss_cons (ps_for PassesOwn.never rfl (pi_list (pv 3)) (pg_name (i := 5) scLSlates.nd rfl (.inl rfl))
          (pss_one (ps_for PassesOwn.never rfl (pi_range1 (by rfl) M.n_range (pa_cons (pe_callB call_len (by rfl) M.n_len b_len (pa_cons (pv 0) pa_nil)) pa_nil)) (pg_name (i := 6) scLSlates.nd rfl (.inl rfl))
            (pss_cons (ps_set (i := 7) scLSlates.nd rfl (.inl rfl) (pe_c C hr (by rfl) (pa_cons (pv 0) (pa_cons (pv 5) (pa_cons (pe_tupP (pa_cons (pv 6) pa_nil)) pa_nil)))))
            (pss_one (ps_if (pt_cmp (pc_xnot hu (pv 7) (pv 2)))
              (pss_cons (ps_xput hu (pv 2) (pv 7) (pe_op op_catP (pe_xget hu (pv 2) (pv 5) (fun _ _ => rfl)) (pe_tupP (pa_cons (pv 6) pa_nil))) rfl)
              (pss_one (ps_expr (pe_bm PySem.F.plainAttrs_list PySem.F.slot_list_append PySem.F.type_list_append mt_append (pv 4) (pa_cons (pv 7) pa_nil))))) pss_nil))))))
        (pss_one (ps_set (i := 3) scLSlates.nd rfl (.inl rfl) (pv 4))))))
      (pss_one (ps_ret (pv 2)))), ?_⟩
    -- found, rim = {slate: ()}, [slate]
    refine fun d o0 nd dw0 => ⟨_, rfl, [], rfl, Nat.zero_le _, fun t0 H2 _ s2 tt0 => ⟨s2 _ _ upd_same, t, t0, sl, [], rfl, rfl, (ht.same (same_upd nd)).same s2, fun u3 dw3 => ?_⟩⟩
    have offd : Off H2 d := fun q ns z => z.ne (dw0.same s2)
    have T0 : TabI P w m H (upd H2 d u3) d [(sl, [], t0)] := ⟨sm_upd ((same_upd nd).trans s2) nd, dw3, fun e he => by
      rw [List.mem_singleton.mp he]
      exact tt0.upd (offd _ _ tt0), Met.one hsl, nd⟩
    generalize upd H2 d u3 = H3 at T0
    refine ⟨_, rfl, Nat.le_trans (by decide : 1 ≤ 1000) (Nat.le_of_lt (small1000 (Nat.le_refl _))), fun r nr => ⟨_, _, rfl, ?_⟩⟩
    have r0 : H r = none := T0.sm.free nr
    have T1 := T0.same (same_upd (o := .lst [.ref t]) nr)
    have R1 : LstI m (upd H3 r (.lst [.ref t])) r [(t, sl)] [(sl, [], t0)] := ⟨upd_same, fun e he => by
      rw [List.mem_singleton.mp he]
      exact ⟨ht.same T1.sm, hsl, List.mem_singleton.mpr rfl⟩⟩
    generalize upd H3 r (.lst [.ref t]) = H4 at T1 R1
    -- while rim != []
    refine ⟨fun k σ H1 => ∃ (D : List En) (R : List (Addr × List Int)) (r : Addr) (x5 x6 x7 x8 : Option V), σ = [some (.ref v), some (.ref t), some (.ref d), some (.ref r), x5, x6, x7, x8] ∧ TabI P w m H H1 d D ∧ LstI m H1 r R D ∧ H r = none ∧ R.length ≤ D.length ∧ k = cost D R,
      ⟨_, _, _, r, none, none, none, none, rfl, T1, R1, r0, Nat.le_refl _, rfl⟩, fun k σ H1 ⟨D, R, r, x5, x6, x7, x8, es, T, Rr, r0, lr, ek⟩ => ?_⟩
    subst es
    refine ⟨_, rfl, Nat.zero_le _, fun p np => ?_⟩
    have sp : Same H1 (upd H1 p (.lst [])) := same_upd np
    refine ⟨_, _, dp_slates (sp _ _ Rr.ll) (fun e he => (Rr.lm e he).1.same sp), .lst (SqL.of upd_same) .nil, lay_slates R, (by decide +kernel), _, rfl, ?_⟩
    have T2 := T.same sp
    have R2 := Rr.same sp
    generalize upd H1 p (.lst []) = H2 at T2 R2
    rw [ne_nil]
    cases hR : R.isEmpty with
    | true => exact iteF ⟨_, rfl, q _ _ _ T2.sm T2.dd (T2.met.le m4)⟩
    | false =>
      refine ⟨fun σ' H' => ∃ k', k' < k ∧ ∃ (D : List En) (R : List (Addr × List Int)) (r : Addr) (x5 x6 x7 x8 : Option V), σ' = [some (.ref v), some (.ref t), some (.ref d), some (.ref r), x5, x6, x7, x8] ∧ TabI P w m H H' d D ∧ LstI m H' r R D ∧ H r = none ∧ R.length ≤ D.length ∧ k' = cost D R,
        fun _ _ z => z, Nat.zero_le _, fun l nl => ?_⟩
      have rl : r ≠ l := ne_of_none R2.ll nl
      have l0 : H l = none := T2.sm.free nl
      have sl2 : Same H2 (upd H2 l (.lst [])) := same_upd nl
      have I0 : Rnd P w m H (upd H2 l (.lst [])) d r l R D.length := ⟨D, [], T2.same sl2, ⟨upd_same, fun e he => by cases he⟩, R2.same sl2, rfl⟩
      -- for here in rim
      refine ⟨_, rfl, r, rfl, ⟨_, SqL.of (sl2 _ _ R2.ll)⟩, for_list (K := K) (a := r) (xs := R.map fun e => V.ref e.1) (fun i σ H5 => ∃ (y6 y7 y8 : Option V), σ = [some (.ref v), some (.ref t), some (.ref d), some (.ref r), some (.ref l), y6, y7, y8] ∧ Rnd P w m H H5 d r l R D.length)
        ⟨_, _, _, rfl, I0⟩ (fun i σ H5 _ ⟨_, _, _, _, _, _, _, _, c, _⟩ => SqL.of c.ll) (fun i x σ H5 hx ⟨y6, y7, y8, es, I5⟩ => ?_) (fun σ H5 ⟨y6, y7, y8, es, D5, L5, T5, L5l, R5, en⟩ => ?_)⟩
      · subst es
        rw [List.getElem?_map] at hx
        obtain ⟨⟨hAd, hsl5⟩, h1, rfl⟩ := Option.map_eq_some_iff.mp hx
        have hmem := List.mem_of_getElem? h1
        have hv5 : TupI H5 v ns := by
          obtain ⟨_, _, T5, _⟩ := I5
          exact hv.same T5.sm
        -- for letter in range(len(values))
        refine ⟨_, rfl, _, ns.length, rfl, .inr ⟨_, hv5.sq, len_map.symm⟩, (ns.length : Int), rfl, by omega, by rw [hvl.1]; omega, for_range (lo := 0) (n := (ns.length : Int).toNat) (fun j σ H6 => ∃ (y7 y8 : Option V), σ = [some (.ref v), some (.ref t), some (.ref d), some (.ref r), some (.ref l), some (.ref hAd), y7, y8] ∧ Rnd P w m H H6 d r l R D.length)
          ⟨_, _, rfl, I5⟩ (fun j σ H6 hj ⟨y7, y8, es, D6, L6, T6, L6l, R6, en⟩ => ?_) (fun σ H6 ⟨y7, y8, es, I6⟩ => ⟨_, _, _, es, I6⟩)⟩
        subst es
        have hjn : j < ns.length := by omega
        have hjm : (0 : Int) + (j : Nat) ∈ lts m := mem_lts.mpr ⟨by omega, by rw [← hvl.1]; omega⟩
        obtain ⟨hh, hhs, hhd⟩ : TupI H6 hAd hsl5 ∧ Sl m hsl5 ∧ hsl5 ∈ D6.map (·.1) := R6.lm _ hmem
        -- more = write(values, here, (letter,))
        refine ⟨_, rfl, _, rfl, _, rfl, [(0 + ((j : Nat) : Int))], rfl, (by decide : 1 ≤ 100000), fun p6 H6' _ s6 w6 => ?_⟩
        refine ⟨v, hAd, p6, ns, hsl5, _, m, rfl, (hv.same T6.sm).same s6, hvl, hh.same s6, hhs, w6, fun x hx => by rw [List.mem_singleton.mp hx]; exact hjm, fun H7 a s67 ha => ?_⟩
        have s7 : Same H6 H7 := s6.trans s67
        have ha : TupI H7 a (stp ns hsl5 (0 + (j : Nat))) := ha
        have T7 := T6.same s7
        have L7 := L6l.same s7
        have R7 := R6.same s7
        have hsm : Sl m (stp ns hsl5 (0 + (j : Nat))) := stp_sl hvl hhs hjm
        -- if more not in found
        refine ⟨_, rfl, _, rfl, d, a, D6, _, rfl, rfl, T7.dd.r, ha, _, rfl, ?_⟩
        cases hlk : lookD D6 (stp ns hsl5 (0 + (j : Nat))) with
        | some z => exact iteF ⟨_, _, rfl, D6, L6, T7, L7, R7, en⟩
        | none =>
          -- found[more] = found[here] + (letter,)
          obtain ⟨e0, he0, ee0⟩ := List.mem_map.mp hhd
          have lk0 : lookD D6 hsl5 = some (e0.2.1, e0.2.2) := by rw [← ee0, lookD_there T7.met.nd he0]
          have wl := T7.met.wd e0 he0
          have ml := T7.met.le m4
          refine ⟨_, rfl, _, rfl, d, hAd, e0.2.2, D6, hsl5, e0.2.1, rfl, rfl, T7.dd.r, hh.same s7, lk0, ?_⟩
          refine ⟨_, rfl, [(0 + ((j : Nat) : Int))], rfl, (by decide : 1 ≤ 100000), fun p8 H8 _ s8 t8 => ?_⟩
          refine ⟨e0.2.2, p8, _, _, rfl, rfl, (T7.ww e0 he0).same s8, t8, by show _ + 1 ≤ _; omega, fun a9 H9 s9 t9 => ?_⟩
          have T9 := (T7.same s8).same s9
          have L9 := (L7.same s8).same s9
          have R9 := (R7.same s8).same s9
          have hm9 : TupI H9 a (stp ns hsl5 (0 + (j : Nat))) := (ha.same s8).same s9
          refine ⟨_, rfl, _, rfl, d, a, a9, D6, stp ns hsl5 (0 + ((j : Nat) : Int)), e0.2.1 ++ [(0 + ((j : Nat) : Int))], rfl, rfl, rfl, T9.dd, hm9, by omega, fun u (dw : DictW P w (upd H9 d u) d (putD D6 (stp ns hsl5 (0 + ((j : Nat) : Int))) (e0.2.1 ++ [(0 + ((j : Nat) : Int))]) a9)) => ?_⟩
          obtain ⟨ll9, fin⟩ := Rnd.add T9 L9 R9 en l0 rl hsm hlk (show (e0.1, e0.2.1, e0.2.2) ∈ D6 from he0) t9 hm9 dw
          -- later.append(more)
          exact ⟨_, rfl, .inl ⟨rfl, _, SqL.of ll9⟩, _, rfl, l, _, _, rfl, rfl, ll9, lt_line (by rw [List.length_map]; omega), _, _, rfl, fin⟩
      · -- rim = later
        subst es
        have ml := T5.met.le m4
        exact ⟨_, rfl, cost D5 L5, by rw [ek]; exact cost_less hR en ml, D5, L5, l, _, _, _, _, rfl, T5, L5l, l0, by omega, rfl⟩
end
end Fw

set_option Elab.async false
set_option linter.all false
set_option maxRecDepth 100000
set_option maxHeartbeats 4000000
/-! FwWords: the slates that so many letters reach, each with its least word, by the program. -/
namespace Fw
open PySem PySem.Spec PyProof.Rows L2
theorem mem_putD {D : List En} {s wd : List Int} {a : Nat} {e : En} (h : e ∈ putD D s wd a) : e ∈ D ∨ e.2 = (wd, a) := by
  unfold putD at h
  split at h
  · obtain ⟨f, hf, r⟩ := List.mem_map.mp h
    split at r
    · exact .inr (by rw [← r])
    · exact .inl (r ▸ hf)
  · rcases List.mem_append.mp h with q | q
    · exact .inl q
    · exact .inr (by rw [List.mem_singleton.mp q])
theorem putD_len {D : List En} {s wd : List Int} {a : Nat} : (putD D s wd a).length ≤ D.length + 1 := by
  unfold putD
  split
  · rw [List.length_map]
    omega
  · rw [List.length_append]
    exact Nat.le_refl _
/-- all is as in the table of the turn -/
structure Wt (P : Program) (w : World) (m k : Nat) (ns sl : List Int) (H0 H : Hp) (d : Addr) (D : List En) : Prop where
  sm : Same H0 H
  dw : DictW P w H d D
  ww : ∀ e ∈ D, TupI H e.2.2 e.2.1
  tb : Tab ns sl (wrds m k) D
  d0 : H0 d = none
/-- the table of the turn is locked, a new one is under way -/
structure Wd (P : Program) (w : World) (m : Nat) (ns sl : List Int) (H0 H : Hp) (d : Addr) (od : Obj) (D : List En) (ks : List Addr) (l : Addr) (C : List (List Int)) (Dl : List En) : Prop where
  sm : Same H0 H
  fz : H d = some (.frz od (DXo P w d D ks))
  kk : KeysI H D ks
  ww : ∀ e ∈ D, TupI H e.2.2 e.2.1
  dl : DictW P w H l Dl
  wl : ∀ e ∈ Dl, TupI H e.2.2 e.2.1
  tb : Tab ns sl C Dl
  l0 : H0 l = none
section
variable {P : Program} {w : World} {m k : Nat} {ns sl : List Int} {H0 H H1 : Hp} {d l : Addr} {od : Obj} {D Dl : List En} {ks : List Addr} {C C' : List (List Int)}
theorem Wt.same (h : Wt P w m k ns sl H0 H d D) (s : Same H H1) : Wt P w m k ns sl H0 H1 d D := ⟨h.sm.trans s, h.dw.same s, fun e he => (h.ww e he).same s, h.tb, h.d0⟩
theorem Wd.same (h : Wd P w m ns sl H0 H d od D ks l C Dl) (s : Same H H1) : Wd P w m ns sl H0 H1 d od D ks l C Dl :=
  ⟨h.sm.trans s, s _ _ h.fz, KeysI.same h.kk s, fun e he => (h.ww e he).same s, h.dl.same s, fun e he => (h.wl e he).same s, h.tb, h.l0⟩
theorem Wd.dr (h : Wd P w m ns sl H0 H d od D ks l C Dl) : DictR P w H d D := ⟨ks, .inr ⟨od, h.fz⟩, h.kk⟩
theorem Wd.re (h : Wd P w m ns sl H0 H d od D ks l C Dl) (t : Tab ns sl C' Dl) : Wd P w m ns sl H0 H d od D ks l C' Dl := ⟨h.sm, h.fz, h.kk, h.ww, h.dl, h.wl, t, h.l0⟩
theorem Wd.put (h : Wd P w m ns sl H0 H d od D ks l C Dl) {u : HO} {s wd : List Int} {a : Addr} (ha : TupI H a wd) (dw : DictW P w (upd H l u) l (putD Dl s wd a)) (t : Tab ns sl C' (putD Dl s wd a)) :
    Wd P w m ns sl H0 (upd H l u) d od D ks l C' (putD Dl s wd a) := by
  have dn : d ≠ l := fun e => by
    obtain ⟨φ, g⟩ := h.dl.some
    rw [← e, h.fz] at g
    cases g
  refine ⟨sm_upd h.sm h.l0, by rw [upd_ne dn]; exact h.fz, Paired.mapP h.kk fun e q z => z.upd (z.ne h.dl), fun e he => (h.ww e he).upd ((h.ww e he).ne h.dl), dw, fun e he => ?_, t, h.l0⟩
  rcases mem_putD he with q | q
  · exact (h.wl e q).upd ((h.wl e q).ne h.dl)
  · rw [q]
    exact ha.upd (ha.ne h.dl)
/-- the turn's table is locked -/
theorem Wt.lock (h : Wt P w m k ns sl H0 H d D) {u : HO} (ln : H l = none) (dl : DictW P w (upd H l u) l []) : ∃ ks, (upd H l u) d = some (DXo P w d D ks) ∧ D.length = ks.length ∧
    ∀ od, Wd P w m ns sl H0 (upd (upd H l u) d (.frz od (DXo P w d D ks))) d od D ks l (cands m (D.take 0)) [] := by
  have s1 : Same H (upd H l u) := same_upd ln
  obtain ⟨ks, hd, kk⟩ := h.dw.same s1
  refine ⟨ks, hd, kk.length, fun od => ?_⟩
  have nt : ∀ (q : Addr) ns, TupI (upd H l u) q ns → q ≠ d := not_tup hd (fun _ _ z => nomatch z)
  have ld : l ≠ d := fun e => by
    rw [← e] at hd
    have := h.dw.some
    obtain ⟨φ, g⟩ := this
    rw [← e, ln] at g
    cases g
  refine ⟨sm_upd (h.sm.trans s1) h.d0, upd_same, Paired.mapP kk fun e q z => z.upd (nt _ _ z), fun e he => ((h.ww e he).same s1).upd (nt _ _ ((h.ww e he).same s1)), dl.off ld nt, fun e he => (by cases he), ?_, h.sm.free ln⟩
  rw [List.take_zero]
  exact Tab.nil
theorem cands_take {i : Nat} {e : En} (h : D[i]? = some e) : cands m (D.take (i + 1)) = cands m (D.take i) ++ (lts m).map fun l => e.2.1 ++ [l] := by
  unfold cands
  rw [List.take_add_one, h, List.flatMap_append]
  congr 1
  exact List.append_nil _
theorem lts_take {j : Nat} (h : j < m) (f : Int → List Int) : ((lts m).take (j + 1)).map f = ((lts m).take j).map f ++ [f (j : Int)] := by
  rw [List.take_add_one, lts_get h, List.map_append]
  rfl
theorem tab_len (T : Tab ns sl C D) (hv : Vl m ns) (hs : Sl m sl) (m4 : m ≤ 4) (hC : ∀ c ∈ C, ∀ l ∈ c, l ∈ lts m) : D.length ≤ 1365 := by
  have := many_le m4 T.nd fun s hs' => by
    obtain ⟨e, he, rfl⟩ := List.mem_map.mp hs'
    obtain ⟨h1, h2, _⟩ := T.each e he
    rw [← h2]
    exact run_sl hv hs (hC _ h1)
  rw [List.length_map] at this
  exact this
theorem tab_at (T : Tab ns sl (wrds m k) D) (hv : Vl m ns) (hs : Sl m sl) {e : En} (he : e ∈ D) : Sl m e.1 ∧ e.2.1.length = k ∧ (∀ l ∈ e.2.1, l ∈ lts m) ∧ ∀ l, run ns sl (e.2.1 ++ [l]) = stp ns e.1 l := by
  obtain ⟨h1, h2, _⟩ := T.each e he
  exact ⟨by rw [← h2]; exact run_sl hv hs (wrds_lts h1), wrds_len h1, wrds_lts h1, fun l => by rw [run_snoc, h2]⟩
end
section
variable {P : Program} {w : World} {K : PySem.W.Frag} {mg : Str → Option Value} {base : Heap} {f : Addr} {fd : FuncData}
def spWords (P : Program) (w : World) : Sp := fun vs H Q _ => ∃ (v s : Addr) (ns sl : List Int) (n m : Nat), vs = [.ref v, .ref s, .int (n : Nat)] ∧ TupI H v ns ∧ Vl m ns ∧ m ≤ 4 ∧ TupI H s sl ∧ Sl m sl ∧ n ≤ 30 ∧
  ∀ H' d D, Wt P w m n ns sl H H' d D → D.length ≤ 1365 → Q (.ref d) H'
theorem ok_words (F : FnP K "words_of_length" sWordsOf f fd) (M : Mg mg) (CS : Fk P w K mg base 3 "spread" ["values", "slate"] spSpread) (C : Fk P w K mg base 1 "stepped" ["values", "slate", "letter"] spStepped) : FnOk P w K mg base CX0 4 f fd ["values", "slate", "length"] (spWords P w) := by
  refine go F scWordsOf (fun vs H Q E h => ?_) (fun cdv A outer s H vs Q E hr h => ?_)
  · obtain ⟨v, s, ns, sl, n, m, rfl, _⟩ := h
    rfl
  · obtain ⟨v, t, ns, sl, n, m, rfl, hv, hvl, m4, ht, hsl, n30, q⟩ := h
    have hu := hu_of hr
    refine ⟨_, pss_cons (ps_expr (pe_c CS hr (by rfl) (pa_cons (pv 0) (pa_cons (pv 1) pa_nil))))
      (pss_cons (ps_set (i := 3) scWordsOf.nd rfl (.inl rfl) (pe_xdisp hu (pv 1) (pe_tupP pa_nil)))
      (pss_cons (ps_for PassesOwn.never rfl (pi_range1 (by rfl) M.n_range (pa_cons (pv 2) pa_nil)) (pg_name (i := 4) scWordsOf.nd rfl (.inl rfl))
        (pss_cons (ps_set (i := 5) scWordsOf.nd rfl (.inl rfl) pe_xnew)
        (pss_cons (ps_for PassesOwn.never rfl (pi_keysX (pv 3)) (pg_name (i := 6) scWordsOf.nd rfl (.inl rfl))
          (pss_one (ps_for PassesOwn.never rfl (pi_range1 (by rfl) M.n_range (pa_cons (pe_callB call_len (by rfl) M.n_len b_len (pa_cons (pv 0) pa_nil)) pa_nil)) (pg_name (i := 7) scWordsOf.nd rfl (.inl rfl))
            (pss_cons (ps_par (i := 8) (j := 9) (by rfl) scWordsOf.nd rfl rfl (by decide) rfl rfl (pa_cons (pe_ix ix_tup (pe_c C (hr.mono (by decide)) (by rfl) (pa_cons (pv 0) (pa_cons (pv 6) (pa_cons (pv 7) pa_nil)))) pe_int (fun _ _ => rfl)) (pa_cons (pe_op op_catP (pe_xget hu (pv 3) (pv 6) (fun _ _ => rfl)) (pe_tupP (pa_cons (pv 7) pa_nil))) pa_nil)) (by rfl))
            (pss_one (ps_if (PW.pt (pw_or (pt_cmp (pc_xnot hu (pv 8) (pv 5))) (pw_or1 (pt_cmpR (op_ltT hr.units0) (pv 9) (pe_xget hu (pv 5) (pv 8) (fun _ _ => rfl)) (nomark _)))))
              (pss_one (ps_xput hu (pv 5) (pv 8) (pv 9) rfl)) pss_nil))))))
        (pss_one (ps_set (i := 3) scWordsOf.nd rfl (.inl rfl) (pv 5))))))
      (pss_one (ps_ret (pv 3))))), ?_⟩
    refine ⟨_, rfl, _, rfl, v, t, ns, sl, m, rfl, hv, hvl, m4, ht, hsl, fun Hs x0 ss => ?_⟩
    have hts := ht.same ss
    -- found = {slate: ()}
    refine fun d o0 nd dw0 => ⟨_, rfl, [], rfl, Nat.zero_le _, fun t0 H2 _ s2 tt0 => ⟨s2 _ _ upd_same, t, t0, sl, [], rfl, rfl, (hts.same (same_upd nd)).same s2, fun u3 dw3 => ?_⟩⟩
    have offd : ∀ (q : Addr) ns, TupI H2 q ns → q ≠ d := fun q ns z => z.ne (dw0.same s2)
    have d0 : H d = none := ss.free nd
    have T0 : Wt P w m 0 ns sl H (upd H2 d u3) d [(sl, [], t0)] := ⟨sm_upd ((ss.trans (same_upd nd)).trans s2) d0, dw3, fun e he => by
      rw [List.mem_singleton.mp he]
      exact tt0.upd (offd _ _ tt0), Tab.start, d0⟩
    generalize upd H2 d u3 = H3 at T0
    -- for turn in range(length)
    refine ⟨_, rfl, (n : Int), rfl, by omega, by omega, for_range (lo := 0) (n := ((n : Nat) : Int).toNat) (fun k σ H4 => ∃ (d : Addr) (D : List En) (x4 x5 x6 x7 x8 x9 : Option V), σ = [some (.ref v), some (.ref t), some (.int (n : Nat)), some (.ref d), x4, x5, x6, x7, x8, x9] ∧ Wt P w m k ns sl H H4 d D)
      ⟨d, _, _, _, _, _, _, _, rfl, T0⟩ (fun k σ H4 hk ⟨d, D, x4, x5, x6, x7, x8, x9, es, T⟩ => ?_) (fun σ H4 ⟨d, D, x4, x5, x6, x7, x8, x9, es, T⟩ => ?_)⟩
    · subst es
      -- later = {}
      refine fun l u nl dl0 => ?_
      obtain ⟨ks, hd, hl, lock⟩ := T.lock nl dl0
      have tl : D.length ≤ 1365 := tab_len T.tb hvl hsl m4 fun c hc => wrds_lts hc
      -- for here in found
      refine ⟨_, rfl, d, D, ks, rfl, hd, hl, fun od => for_it walk_keysX (fun i σ H5 => ∃ (Dl : List En) (y6 y7 y8 y9 : Option V), σ = [some (.ref v), some (.ref t), some (.int (n : Nat)), some (.ref d), some (.int (0 + (k : Nat))), some (.ref l), y6, y7, y8, y9] ∧ Wd P w m ns sl H H5 d od D ks l (cands m (D.take i)) Dl)
        ⟨[], _, _, _, _, rfl, lock od⟩ (fun i σ H5 _ ⟨_, _, _, _, _, _, W⟩ => W.fz) (fun i x σ H5 H5' hi ⟨Dl, y6, y7, y8, y9, es, W⟩ ⟨eH, kq, hkq, ex⟩ => ?_) (fun σ H5 ⟨Dl, y6, y7, y8, y9, es, W⟩ => ?_)⟩
      · subst es eH ex
        have hiD : i < D.length := by omega
        obtain ⟨e, he⟩ : ∃ e, D[i]? = some e := ⟨D[i], List.getElem?_eq_getElem hiD⟩
        have hem : e ∈ D := List.mem_of_getElem? he
        have kqe : ∀ {Hx : Hp}, KeysI Hx D ks → TupI Hx kq e.1 := fun {Hx} kk => by
          obtain ⟨q', h1, h2⟩ := paired_get kk he
          rw [hkq] at h1
          rw [Option.some.inj h1]
          exact h2
        obtain ⟨es1, elen, elt, erun⟩ := tab_at T.tb hvl hsl hem
        have lk : lookD D e.1 = some (e.2.1, e.2.2) := lookD_there T.tb.nd hem
        -- for letter in range(len(values))
        refine ⟨_, rfl, _, ns.length, rfl, .inr ⟨_, (hv.same W.sm).sq, len_map.symm⟩, (ns.length : Int), rfl, by omega, by rw [hvl.1]; omega, for_range (lo := 0) (n := (ns.length : Int).toNat) (fun j σ H6 => ∃ (Dl : List En) (y7 y8 y9 : Option V), σ = [some (.ref v), some (.ref t), some (.int (n : Nat)), some (.ref d), some (.int (0 + (k : Nat))), some (.ref l), some (.ref kq), y7, y8, y9] ∧ Wd P w m ns sl H H6 d od D ks l (cands m (D.take i) ++ ((lts m).take j).map fun x => e.2.1 ++ [x]) Dl)
          ⟨Dl, _, _, _, rfl, W.re (by rw [List.take_zero, List.map_nil, List.append_nil]; exact W.tb)⟩ (fun j σ H6 hj ⟨Dl, y7, y8, y9, es, W⟩ => ?_) (fun σ H6 ⟨Dl, y7, y8, y9, es, W⟩ => ⟨Dl, _, _, _, _, es, W.re ?_⟩)⟩
        · subst es
          have hjm' : j < m := by rw [← hvl.1]; omega
          have hjm : (0 : Int) + (j : Nat) ∈ lts m := mem_lts.mpr ⟨by omega, by omega⟩
          obtain ⟨pv0, gv, _, g1, g5⟩ := hvl.at hjm
          have hh := kqe W.kk
          have nx : cands m (D.take i) ++ ((lts m).take (j + 1)).map (fun x => e.2.1 ++ [x]) = (cands m (D.take i) ++ ((lts m).take j).map fun x => e.2.1 ++ [x]) ++ [e.2.1 ++ [(0 : Int) + (j : Nat)]] := by
            rw [lts_take hjm', List.append_assoc, Int.zero_add]
          have er : run ns sl (e.2.1 ++ [(0 : Int) + (j : Nat)]) = stp ns e.1 (0 + (j : Nat)) := erun _
          -- more, word = stepped(values, here, letter)[0], found[here] + (letter,)
          refine ⟨_, rfl, _, rfl, _, rfl, v, kq, ns, e.1, _, pv0, rfl, hv.same W.sm, hh, by omega, gv, g1, by omega, by have := es1.1; omega, fun H7 qq a x s7 hq ha => ?_⟩
          refine ⟨qq, _, 0, .ref a, rfl, rfl, SqT.of hq, atI_nat (j := 0) rfl, ?_⟩
          have W7 := W.same s7
          refine ⟨_, rfl, _, rfl, d, kq, e.2.2, D, e.1, e.2.1, rfl, rfl, W7.dr, hh.same s7, lk, ?_⟩
          refine ⟨_, rfl, [(0 + ((j : Nat) : Int))], rfl, (by decide : 1 ≤ 100000), fun p8 H8 _ s8 t8 => ?_⟩
          refine ⟨e.2.2, p8, _, _, rfl, rfl, (W7.ww e hem).same s8, t8, by rw [elen]; show _ + 1 ≤ _; omega, fun a9 H9 s9 t9 => ?_⟩
          have W9 := (W7.same s8).same s9
          have ha9 : TupI H9 a (stp ns e.1 (0 + (j : Nat))) := (ha.same s8).same s9
          generalize hst : stp ns e.1 (0 + ((j : Nat) : Int)) = more at ha9 er
          generalize e.2.1 ++ [(0 : Int) + ((j : Nat) : Int)] = word at t9 er nx
          have ln : Dl.length ≤ 1365 := tab_len W.tb hvl hsl m4 fun c hc => by
            rcases List.mem_append.mp hc with z | z
            · obtain ⟨e', he', z2⟩ := List.mem_flatMap.mp z
              obtain ⟨x', hx', rfl⟩ := List.mem_map.mp z2
              intro y hy
              rcases List.mem_append.mp hy with z3 | z3
              · exact (tab_at T.tb hvl hsl (List.mem_of_mem_take he')).2.2.1 y z3
              · rw [List.mem_singleton.mp z3]
                exact hx'
            · obtain ⟨x', hx', rfl⟩ := List.mem_map.mp z
              intro y hy
              rcases List.mem_append.mp hy with z3 | z3
              · exact elt y z3
              · rw [List.mem_singleton.mp z3]
                exact List.mem_of_mem_take hx'
          -- if more not in later or word < later[more]
          refine ⟨_, _, rfl, _, rfl, _, rfl, l, a, Dl, more, rfl, rfl, W9.dl.r, ha9, _, rfl, ?_⟩
          cases hlk : lookD Dl more with
          | none =>
            refine iteT (iteT ⟨_, rfl, _, rfl, _, rfl, l, a, a9, Dl, more, word, rfl, rfl, rfl, W9.dl, ha9, by omega, fun u9 (dw : DictW P w (upd H9 l u9) l (putD Dl more word a9)) => ⟨putD Dl more word a9, _, _, _, rfl, ?_⟩⟩)
            refine W9.put t9 dw ?_
            rw [nx, ← er, putD_new (by rw [er]; exact hlk)]
            exact W9.tb.new (by rw [er]; exact hlk)
          | some z =>
            refine iteF ⟨_, rfl, _, rfl, _, rfl, l, a, z.2, Dl, more, z.1, rfl, rfl, W9.dl.r, ha9, hlk, a9, z.2, word, z.1, rfl, rfl, t9.sq, (W9.wl _ (lookD_mem hlk)).sq, _, rfl, ?_⟩
            cases hlt : HT.lexLt word z.1 with
            | true =>
              refine iteT ⟨_, rfl, _, rfl, _, rfl, l, a, a9, Dl, more, word, rfl, rfl, rfl, W9.dl, ha9, by omega, fun u9 (dw : DictW P w (upd H9 l u9) l (putD Dl more word a9)) => ⟨putD Dl more word a9, _, _, _, rfl, ?_⟩⟩
              refine W9.put t9 dw ?_
              rw [nx, ← er]
              exact W9.tb.less (by rw [er]; exact hlk) hlt
            | false =>
              refine iteF ⟨Dl, _, _, _, rfl, W9.re ?_⟩
              rw [nx]
              exact W9.tb.stay (by rw [er]; exact hlk) hlt
        · rw [cands_take he]
          have e2 : (lts m).take (ns.length : Int).toNat = lts m := by
            rw [List.take_of_length_le]
            rw [lts_len, ← hvl.1]
            omega
          have := W.tb
          rw [e2] at this
          exact this
      · -- found = later
        subst es
        have e2 : D.take ks.length = D := by rw [← hl]; exact List.take_length
        have tb := W.tb
        rw [e2] at tb
        exact ⟨_, rfl, l, Dl, _, _, _, _, _, _, rfl, W.sm, W.dl, W.wl, T.tb.turn tb, W.l0⟩
    · subst es
      rw [show ((n : Nat) : Int).toNat = n by omega] at T
      exact ⟨_, rfl, q H4 d D T (tab_len T.tb hvl hsl m4 fun c hc => wrds_lts hc)⟩
end
end Fw

set_option Elab.async false
set_option linter.all false
set_option autoImplicit false
set_option maxRecDepth 100000
set_option maxHeartbeats 4000000
/-! FwRich: richest, copies. -/
namespace Fw
open PySem PySem.Spec PyProof.Rows L2
/-- a locked table -/
structure Lk (P : Program) (w : World) (H0 H : Hp) (d : Addr) (od : Obj) (D : List En) (ks : List Addr) : Prop where
  sm : Same H0 H
  fz : H d = some (.frz od (DXo P w d D ks))
  kk : KeysI H D ks
  ww : ∀ e ∈ D, TupI H e.2.2 e.2.1
section
variable {P : Program} {w : World} {m k : Nat} {ns sl : List Int} {H0 H H1 : Hp} {d L : Addr} {od : Obj} {D : List En} {ks : List Addr} {xs ys : List V}
theorem Lk.same (h : Lk P w H0 H d od D ks) (s : Same H H1) : Lk P w H0 H1 d od D ks := ⟨h.sm.trans s, s _ _ h.fz, KeysI.same h.kk s, fun e he => (h.ww e he).same s⟩
theorem Lk.dr (h : Lk P w H0 H d od D ks) : DictR P w H d D := ⟨ks, .inr ⟨od, h.fz⟩, h.kk⟩
theorem lst_tup (hL : H L = some (.lst xs)) : ∀ (q : Addr) ns, TupI H q ns → q ≠ L := not_tup hL (fun _ _ z => nomatch z)
theorem Lk.lst (h : Lk P w H0 H d od D ks) (hL : H L = some (.lst xs)) (l0 : H0 L = none) : Lk P w H0 (upd H L (.lst ys)) d od D ks := by
  have dn : d ≠ L := fun e => by
    have g := h.fz
    rw [e, hL] at g
    cases g
  exact ⟨sm_upd h.sm l0, by rw [upd_ne dn]; exact h.fz, Paired.mapP h.kk fun e q z => z.upd (lst_tup hL _ _ z), fun e he => (h.ww e he).upd (lst_tup hL _ _ (h.ww e he))⟩
theorem Wt.lk (h : Wt P w m k ns sl H0 H d D) : ∃ ks, H d = some (DXo P w d D ks) ∧ D.length = ks.length ∧ ∀ od, Lk P w H0 (upd H d (.frz od (DXo P w d D ks))) d od D ks := by
  obtain ⟨ks, hd, kk⟩ := h.dw
  have nt : ∀ (q : Addr) ns, TupI H q ns → q ≠ d := not_tup hd (fun _ _ z => nomatch z)
  exact ⟨ks, hd, kk.length, fun od => ⟨sm_upd h.sm h.d0, upd_same, Paired.mapP kk fun e q z => z.upd (nt _ _ z), fun e he => (h.ww e he).upd (nt _ _ (h.ww e he))⟩⟩
theorem Lk.at (h : Lk P w H0 H d od D ks) {i : Nat} {q : Addr} (hq : ks[i]? = some q) (hl : D.length = ks.length) : ∃ e, D[i]? = some e ∧ e ∈ D ∧ TupI H q e.1 := by
  have hi := (List.getElem?_eq_some_iff.mp hq).1
  have he : D[i]? = some (D[i]'(by omega)) := List.getElem?_eq_getElem _
  obtain ⟨q', h1, h2⟩ := paired_get h.kk he
  rw [hq] at h1
  rw [Option.some.inj h1]
  exact ⟨_, he, List.mem_of_getElem? he, h2⟩
end
/-- a pair (number, word) -/
def PairH (H : Hp) (v : V) (p : Int × List Int) : Prop := ∃ a b : Addr, v = .ref a ∧ H a = some (.tup [.int p.1, .ref b]) ∧ TupI H b p.2
theorem PairH.same {H H1 : Hp} {v : V} {p : Int × List Int} (h : PairH H v p) (s : Same H H1) : PairH H1 v p := let ⟨a, b, e, x, y⟩ := h; ⟨a, b, e, s _ _ x, y.same s⟩
theorem PairH.lst {H : Hp} {v : V} {p : Int × List Int} {L : Addr} {xs : List V} {o : HO} (h : PairH H v p) (hL : H L = some (.lst xs)) : PairH (upd H L o) v p := by
  obtain ⟨a, b, e, x, y⟩ := h
  have an : a ≠ L := fun e => by
    rw [e, hL] at x
    cases x
  exact ⟨a, b, e, by rw [upd_ne an]; exact x, y.upd (lst_tup hL _ _ y)⟩
theorem PairH.at {K : PySem.W.Frag} {H : Hp} {v : V} {p : Int × List Int} (h : PairH H v p) : PairAt K H v p := let ⟨a, b, e, x, y⟩ := h; ⟨a, b, e, SqT.of x, y.sq⟩
theorem pe_xgetE {X : Cx} {P : Program} {w : World} {o i : Expr} {pos : Pos} {td ty : TE} (eP : X.prog = P) (eW : X.w = w) (hu : X.A.units + 1 < cLine) (ho : PE X o td) (hi : PE X i ty) (hs : NoSl i) : PE X (.Subscript o i pos) (tXGet P w td ty) := by
  subst eP eW
  exact pe_xget hu ho hi hs
def rTC (K : PySem.W.Frag) : V → List V → Hp → VK → Prop := fun x xs H Q => ∃ (p : Addr) (ns : List Int) (k : Int), x = .ref p ∧ xs = [.int k] ∧ SqT K H p (ns.map V.int) ∧ Q (.int (ns.count k : Nat)) H
theorem mt_tc {X : Cx} : MtR X "tuple.count" (rTC X.K) := mt_tcount
section
variable {P : Program} {w : World} {K : PySem.W.Frag} {mg : Str → Option Value} {base : Heap} {f : Addr} {fd : FuncData}
/-- the richest slate of a table, the least word to it -/
def RichAt (ws : List Int) (D : List En) (e0 : En) : Prop := e0 ∈ D ∧ ∀ e ∈ D, wsum ws e.1 ≤ wsum ws e0.1 ∧ (wsum ws e.1 = wsum ws e0.1 → HT.lexLt e.2.1 e0.2.1 = false)
def spRichest : Sp := fun vs H Q _ => ∃ (v a s : Addr) (ns ws sl : List Int) (n m : Nat), vs = [.ref v, .ref a, .ref s, .int (n : Nat)] ∧ TupI H v ns ∧ Vl m ns ∧ 1 ≤ m ∧ m ≤ 4 ∧ TupI H a ws ∧ ws.length = m ∧ (∀ x ∈ ws, -99 ≤ x ∧ x ≤ 99) ∧ TupI H s sl ∧ Sl m sl ∧ n ≤ 30 ∧
  ∀ H' p b D e0, Same H H' → Tab ns sl (wrds m n) D → RichAt ws D e0 → TupI H' b e0.2.1 → H' p = some (.tup [.int (wsum ws e0.1), .ref b]) → Q (.ref p) H'
theorem ok_richest (F : FnP K "richest" sRichest f fd) (M : Mg mg) (CV : Fk P w K mg base 3 "need_values" ["value"] spNeedValues) (CO : Fk P w K mg base 3 "need_worths" ["values", "worths"] spNeedWorths) (CS : Fk P w K mg base 4 "need_slate" ["values", "slate"] spNeedSlate) (CN : Fk P w K mg base 3 "need_number" ["value", "low", "high"] spNum)
    (CW : Fk P w K mg base 4 "words_of_length" ["values", "slate", "length"] (spWords P w)) (CG : Fk P w K mg base 1 "worth_of" ["worths", "slate"] spWorth) : FnOk P w K mg base CX0 5 f fd ["values", "worths", "slate", "length"] spRichest := by
  refine go F scRichest (fun vs H Q E h => ?_) (fun cdv A outer s H vs Q E hr h => ?_)
  · obtain ⟨v, a, s, ns, ws, sl, n, m, rfl, _⟩ := h
    rfl
  · obtain ⟨v, a, t, ns, ws, sl, n, m, rfl, hv, hvl, m1, m4, ha, hwl, hwb, ht, hsl, n30, q⟩ := h
    have hu := hu_of hr
    have hu2 : A.units + 3 + 2 < cLine := by have := hr.un; have e : (A.deeper (envOfC "richest" (defScope sRichest) s.heap.objs.size f cdv)).units = A.units + 3 := rfl; omega
    refine ⟨_, pss_cons (ps_expr (pe_c CV (hr.mono (by decide)) (by rfl) (pa_cons (pv 0) pa_nil)))
      (pss_cons (ps_expr (pe_c CO (hr.mono (by decide)) (by rfl) (pa_cons (pv 0) (pa_cons (pv 1) pa_nil))))
      (pss_cons (ps_expr (pe_c CS hr (by rfl) (pa_cons (pv 0) (pa_cons (pv 2) pa_nil))))
      (pss_cons (ps_expr (pe_c CN (hr.mono (by decide)) (by rfl) (pa_cons (pv 3) (pa_cons pe_int (pa_cons pe_int pa_nil)))))
      (pss_cons (ps_set (i := 4) scRichest.nd rfl (.inr rfl) (pe_c CW hr (by rfl) (pa_cons (pv 0) (pa_cons (pv 2) (pa_cons (pv 3) pa_nil)))))
      (pss_cons (ps_asg (pe_callB (cr_minP rfl hu2) (by rfl) M.n_min b_min (pa_cons (pe_lc (own := [("here", 7)]) (g := gName 7) (tt := tYes) (by rfl) scRichest.nd (pi_keysX (pv 4))
        (blkOk_by (own := [("here", 7)]) (N := ["values", "worths", "slate", "length", "found", "best", "word", "here"]) (sc := defScope sRichest) (by decide +kernel)) (fun _ _ _ _ _ => pg_name (i := 7) scRichest.nd rfl (Or.inl rfl)) (fun _ _ _ _ _ => pts_nil)
        (fun _ _ _ _ _ => pe_tup (pa_cons (pe_un un_neg (pe_c CG (hr.mono (by decide)) (by rfl) (pa_cons (pv 1) (pa_cons (pv 7) pa_nil)))) (pa_cons (pe_xgetE (P := P) (w := w) rfl rfl hu (pv 4) (pv 7) (fun _ _ => rfl)) pa_nil)))) pa_nil))
        (pg_tup rfl (pgs_cons (pg_name (i := 5) scRichest.nd rfl (.inl rfl)) (pgs_cons (pg_name (i := 6) scRichest.nd rfl (.inl rfl)) pgs_nil))))
      (pss_one (ps_ret (pe_tup (pa_cons (pe_un un_neg (pv 5)) (pa_cons (pv 6) pa_nil)))))))))), ?_⟩
    refine ⟨_, rfl, v, ns, rfl, hv, by rw [hvl.1]; exact m1, by rw [hvl.1]; omega, fun x hx => by have := hvl.2 x hx; omega, fun H1 s1 => ?_⟩
    refine ⟨_, rfl, _, rfl, v, a, ns, ws, rfl, hv.same s1, ha.same s1, by rw [hwl, hvl.1], by rw [hvl.1]; omega, hwb, fun H2 s2 => ?_⟩
    have s02 := s1.trans s2
    refine ⟨_, rfl, _, rfl, v, t, ns, sl, rfl, hv.same s02, ht.same s02, by have := hsl.1; omega, fun l hl => by have := mem_lts.mp (hsl.2 l hl); rw [hvl.1]; exact this, fun H3 s3 => ?_⟩
    have s03 := s02.trans s3
    refine ⟨_, rfl, (n : Int), 0, 30, rfl, by omega, by omega, ?_⟩
    refine ⟨_, rfl, _, rfl, _, rfl, v, t, ns, sl, n, m, rfl, hv.same s03, hvl, m4, ht.same s03, hsl, n30, fun H4 d D T tl => ?_⟩
    obtain ⟨ks, hd, hl, lock⟩ := T.lk
    refine ⟨_, rfl, d, D, ks, rfl, hd, hl, fun od => ?_⟩
    refine fun L nL => lc_it walk_keysX (fun i H5 => Lk P w H3 H5 d od D ks ∧ ∃ vs, H5 L = some (.lst vs) ∧ Paired (PairH H5) vs ((D.take i).map fun e => (-wsum ws e.1, e.2.1)))
      ⟨(lock od).same (same_upd nL), [], upd_same, by rw [List.take_zero]; exact .nil⟩ (fun i H5 _ ⟨l5, _⟩ => l5.fz) (fun i x H5 H5' hi ⟨l5, vs, e5, p5⟩ ⟨eH, kq, hkq, ex⟩ => ?_) (fun H5 ⟨l5, vs, e5, p5⟩ => ?_)
    · subst eH ex
      have L0 : H3 L = none := (lock od).sm.free nL
      obtain ⟨e, he, hem, tq⟩ := l5.at hkq hl
      obtain ⟨es1, _, _, _⟩ := tab_at T.tb hvl hsl hem
      have lenv : vs.length = i := by
        have := p5.length
        rw [List.length_map, List.length_take] at this
        omega
      refine ⟨rfl, _, rfl, _, rfl, a, kq, ws, e.1, rfl, (ha.same s03).same l5.sm, tq, by have := es1.1; omega, fun l hl => by rw [hwl]; exact mem_lts.mp (es1.2 l hl), fun H6 s6 => ?_⟩
      have l6 := l5.same s6
      refine ⟨_, rfl, _, rfl, _, rfl, d, kq, e.2.2, D, e.1, e.2.1, rfl, rfl, l6.dr, tq.same s6, lookD_there T.tb.nd hem, (by decide : 2 ≤ sizeLine), fun p np => ?_⟩
      have s7 : Same H6 (upd H6 p (.tup [.int (-wsum ws e.1), .ref e.2.2])) := same_upd np
      have e7 : (upd H6 p (.tup [.int (-wsum ws e.1), .ref e.2.2])) p = some (.tup [.int (-wsum ws e.1), .ref e.2.2]) := upd_same
      have l7 := l6.same s7
      have hL7 := s7 _ _ (s6 _ _ e5)
      have p7 : Paired (PairH (upd H6 p (.tup [.int (-wsum ws e.1), .ref e.2.2]))) vs ((D.take i).map fun e => (-wsum ws e.1, e.2.1)) := Paired.mapP p5 fun _ _ z => (z.same s6).same s7
      refine ⟨vs, hL7, lt_line (by omega), l7.lst hL7 L0, _, upd_same, ?_⟩
      rw [List.take_add_one, he, List.map_append]
      exact Paired.snoc (Paired.mapP p7 fun _ _ z => z.lst hL7) (PairH.lst ⟨p, e.2.2, rfl, e7, l7.ww e hem⟩ hL7)
    · rw [show D.take ks.length = D by rw [← hl]; exact List.take_length] at p5
      have np : 0 < D.length := tab_ne T.tb m1
      refine ⟨L, vs, _, rfl, SqL.of e5, by rw [p5.length, List.length_map]; exact np, Paired.mapP p5 fun _ _ z => z.at, fun k v2 w2 hv2 hw2 hmin => ?_⟩
      rw [List.getElem?_map] at hw2
      obtain ⟨e0, he0, rfl⟩ := Option.map_eq_some_iff.mp hw2
      obtain ⟨w3, hw3, p3⟩ := paired_get p5 hv2
      rw [List.getElem?_map, he0] at hw3
      cases hw3
      obtain ⟨pa, pb, rfl, ep, tb⟩ := p3
      have hm0 := List.mem_of_getElem? he0
      refine ⟨pa, _, rfl, SqT.of ep, rfl, _, _, rfl, _, _, rfl, rfl, ?_⟩
      refine ⟨_, rfl, _, rfl, _, rfl, (by decide : 2 ≤ sizeLine), fun r nr => ?_⟩
      refine q _ r pb D e0 ((s03.trans l5.sm).trans (same_upd nr)) T.tb ⟨hm0, fun e he => ?_⟩ (tb.same (same_upd nr)) (by rw [upd_same]; show some (HO.tup [V.int (- -wsum ws e0.1), V.ref pb]) = _; rw [Int.neg_neg])
      have g := hmin _ (List.mem_map.mpr ⟨e, he, rfl⟩)
      rw [HT.lexLt_cons] at g
      by_cases z : -wsum ws e.1 = -wsum ws e0.1
      · rw [if_pos z] at g
        exact ⟨by omega, fun _ => g⟩
      · rw [if_neg z] at g
        have g1 := of_decide_eq_false g
        exact ⟨by omega, fun y => absurd (by rw [y]) z⟩
def spCopies : Sp := fun vs H Q _ => ∃ (v s : Addr) (ns sl : List Int) (l : Int) (n m : Nat), vs = [.ref v, .ref s, .int l, .int (n : Nat)] ∧ TupI H v ns ∧ Vl m ns ∧ 1 ≤ m ∧ m ≤ 4 ∧ TupI H s sl ∧ Sl m sl ∧ l ∈ lts m ∧ n ≤ 30 ∧
  ∀ H' p D (a b : Int), Same H H' → Tab ns sl (wrds m n) D → a ∈ (D.map fun e => ((e.1.count l : Nat) : Int)) → (∀ x ∈ (D.map fun e => ((e.1.count l : Nat) : Int)), a ≤ x) → b ∈ (D.map fun e => ((e.1.count l : Nat) : Int)) → (∀ x ∈ (D.map fun e => ((e.1.count l : Nat) : Int)), x ≤ b) → H' p = some (.tup [.int a, .int b]) → Q (.ref p) H'
theorem ok_copies (F : FnP K "copies" sCopies f fd) (M : Mg mg) (CV : Fk P w K mg base 3 "need_values" ["value"] spNeedValues) (CS : Fk P w K mg base 4 "need_slate" ["values", "slate"] spNeedSlate) (CL : Fk P w K mg base 3 "need_letter" ["values", "letter"] spNeedLetter) (CN : Fk P w K mg base 3 "need_number" ["value", "low", "high"] spNum)
    (CW : Fk P w K mg base 4 "words_of_length" ["values", "slate", "length"] (spWords P w)) : FnOk P w K mg base CX0 5 f fd ["values", "slate", "letter", "length"] spCopies := by
  refine go F scCopies (fun vs H Q E h => ?_) (fun cdv A outer s H vs Q E hr h => ?_)
  · obtain ⟨v, s, ns, sl, l, n, m, rfl, _⟩ := h
    rfl
  · obtain ⟨v, t, ns, sl, l, n, m, rfl, hv, hvl, m1, m4, ht, hsl, hlm, n30, q⟩ := h
    have hu := hu_of hr
    obtain ⟨l0, l1⟩ := mem_lts.mp hlm
    refine ⟨_, pss_cons (ps_expr (pe_c CV (hr.mono (by decide)) (by rfl) (pa_cons (pv 0) pa_nil)))
      (pss_cons (ps_expr (pe_c CS hr (by rfl) (pa_cons (pv 0) (pa_cons (pv 1) pa_nil))))
      (pss_cons (ps_expr (pe_c CL (hr.mono (by decide)) (by rfl) (pa_cons (pv 0) (pa_cons (pv 2) pa_nil))))
      (pss_cons (ps_expr (pe_c CN (hr.mono (by decide)) (by rfl) (pa_cons (pv 3) (pa_cons pe_int (pa_cons pe_int pa_nil)))))
      (pss_cons (ps_setLc (i := 4) (own := [("here", 5)]) (g := gName 5) (tt := tYes) (by rfl) scCopies.nd rfl rfl rfl (pi_keysX (pe_c CW hr (by rfl) (pa_cons (pv 0) (pa_cons (pv 1) (pa_cons (pv 3) pa_nil)))))
        (blkOk_by (own := [("here", 5)]) (N := ["values", "slate", "letter", "length", "some", "here"]) (sc := defScope sCopies) (by decide +kernel)) (fun _ _ _ _ _ => pg_name (i := 5) scCopies.nd rfl (Or.inl rfl)) (fun _ _ _ _ _ => pts_nil)
        (fun _ _ _ _ _ => pe_bmT (r := rTC K) PySem.F.slot_tuple_count PySem.F.type_tuple_count mt_tc (pv 5) (pa_cons (pv 2) pa_nil)))
      (pss_one (ps_ret (pe_tup (pa_cons (pe_callB (cr_min rfl) (by rfl) M.n_min b_min (pa_cons (pv 4) pa_nil)) (pa_cons (pe_callB (cr_max rfl) (by rfl) M.n_max b_max (pa_cons (pv 4) pa_nil)) pa_nil))))))))), ?_⟩
    refine ⟨_, rfl, v, ns, rfl, hv, by rw [hvl.1]; exact m1, by rw [hvl.1]; omega, fun x hx => by have := hvl.2 x hx; omega, fun H1 s1 => ?_⟩
    refine ⟨_, rfl, _, rfl, v, t, ns, sl, rfl, hv.same s1, ht.same s1, by have := hsl.1; omega, fun l hl => by have := mem_lts.mp (hsl.2 l hl); rw [hvl.1]; exact this, fun H2 s2 => ?_⟩
    have s02 := s1.trans s2
    refine ⟨_, rfl, _, rfl, v, ns, l, rfl, hv.same s02, l0, by rw [hvl.1]; exact l1, ?_⟩
    refine ⟨_, rfl, (n : Int), 0, 30, rfl, by omega, by omega, ?_⟩
    refine ⟨_, rfl, _, rfl, _, rfl, v, t, ns, sl, n, m, rfl, hv.same s02, hvl, m4, ht.same s02, hsl, n30, fun H4 d D T tl => ?_⟩
    obtain ⟨ks, hd, hl, lock⟩ := T.lk
    refine ⟨d, D, ks, rfl, hd, hl, fun od => ?_⟩
    refine fun L nL => lc_it walk_keysX (fun i H5 => Lk P w H2 H5 d od D ks ∧ H5 L = some (.lst (((D.take i).map fun e => ((e.1.count l : Nat) : Int)).map V.int)))
      ⟨(lock od).same (same_upd nL), by rw [List.take_zero]; exact upd_same⟩ (fun i H5 _ ⟨l5, _⟩ => l5.fz) (fun i x H5 H5' hi ⟨l5, e5⟩ ⟨eH, kq, hkq, ex⟩ => ?_) (fun H5 ⟨l5, e5⟩ => ?_)
    · subst eH ex
      have L0 : H2 L = none := (lock od).sm.free nL
      obtain ⟨e, he, hem, tq⟩ := l5.at hkq hl
      refine ⟨rfl, _, rfl, ⟨_, _, rfl, tq⟩, _, rfl, kq, e.1, l, rfl, rfl, tq.sq, _, e5, lt_line (by rw [List.length_map, List.length_map, List.length_take]; omega), l5.lst e5 L0, ?_⟩
      rw [upd_same, List.take_add_one, he, List.map_append, List.map_append]
      rfl
    · rw [show D.take ks.length = D by rw [← hl]; exact List.take_length] at e5
      have np : 0 < D.length := tab_ne T.tb m1
      refine ⟨_, rfl, L, _, rfl, SqL.of e5, by rw [List.length_map]; exact np, fun a ha la => ?_⟩
      refine ⟨_, rfl, L, _, rfl, SqL.of e5, by rw [List.length_map]; exact np, fun b hb lb => ?_⟩
      exact ⟨(by decide : 2 ≤ sizeLine), fun r nr => q _ r D a b ((s02.trans l5.sm).trans (same_upd nr)) T.tb ha la hb lb upd_same⟩
end
end Fw

set_option Elab.async false
set_option linter.all false
set_option autoImplicit false
set_option maxRecDepth 100000
set_option maxHeartbeats 4000000
/-! FwTaken: what the law takes from its script. -/
namespace Fw
open PySem PySem.Spec PyProof.Rows L2
/-! ### the row: script, place, number, rest -/
def SmA (a : Addr) (H H' : Hp) : Prop := ∀ b o, b ≠ a → H b = some o → H' b = some o
def rowV (sc : Addr) (i r q : Int) : List V := [.ref sc, .int i, .int r, .int q]
def Rw (K : PySem.W.Frag) (H : Hp) (a sc : Addr) (cs : List Int) : Prop := ∃ i r q : Int, H a = some (.lst (rowV sc i r q)) ∧ 0 ≤ i ∧ 0 ≤ r ∧ r < 2147483647 ∧ SqL K H sc (cs.map V.int)
section
variable {K : PySem.W.Frag} {H H1 H2 : Hp} {a sc p : Addr} {cs : List Int} {i r q : Int} {o : HO}
theorem SmA.refl : SmA a H H := fun _ _ _ e => e
theorem SmA.trans (h : SmA a H H1) (g : SmA a H1 H2) : SmA a H H2 := fun b o n e => g b o n (h b o n e)
theorem SmA.same (h : SmA a H H1) (g : Same H1 H2) : SmA a H H2 := fun b o n e => g b o (h b o n e)
theorem Same.sma (h : Same H H1) : SmA a H H1 := fun b o _ e => h b o e
theorem SmA.upd (h : SmA a H H1) : SmA a H (L2.upd H1 a o) := fun b o n e => by
  rw [upd_ne n]
  exact h b o n e
theorem sql_same {xs : List V} (h : SqL K H sc xs) (s : Same H H1) : SqL K H1 sc xs := by
  rcases h with (h | ⟨o, h⟩) | h
  · exact .inl (.inl (s _ _ h))
  · exact .inl (.inr ⟨o, s _ _ h⟩)
  · exact .inr h
theorem sql_row (h : SqL K H sc (cs.map V.int)) (ha : H a = some (.lst (rowV p i r q))) : SqL K (upd H a o) sc (cs.map V.int) := by
  rcases h with (h | ⟨o, h⟩) | h
  · refine .inl (.inl ?_)
    rw [upd_ne fun e => ?_]
    · exact h
    · rw [e, ha] at h
      injection h with h
      injection h with h
      cases cs with
      | nil => cases h
      | cons c r => cases h
  · refine .inl (.inr ⟨o, ?_⟩)
    rw [upd_ne fun e => ?_]
    · exact h
    · rw [e, ha] at h
      cases h
  · exact .inr h
theorem Rw.same (h : Rw K H a sc cs) (s : Same H H1) : Rw K H1 a sc cs := let ⟨i, r, q, h1, h2, h3, h4, h5⟩ := h; ⟨i, r, q, s _ _ h1, h2, h3, h4, sql_same h5 s⟩
theorem TupI.sma {b : Addr} {ns : List Int} (h : TupI H b ns) (ne : b ≠ a) (s : SmA a H H1) : TupI H1 b ns := let ⟨o, e, d⟩ := h; ⟨o, s _ _ ne e, d⟩
theorem Rw.ne (h : Rw K H a sc cs) : ∀ (q : Addr) ns, TupI H q ns → q ≠ a := let ⟨_, _, _, h1, _⟩ := h; lst_tup h1
theorem TupI.rw {b : Addr} {ns : List Int} (h : TupI H b ns) (R : Rw K H a sc cs) (s : SmA a H H1) : TupI H1 b ns := h.sma (R.ne _ _ h) s
end
section
variable {P : Program} {w : World} {K : PySem.W.Frag} {mg : Str → Option Value} {base : Heap} {f : Addr} {fd : FuncData}
def spTaken (K : PySem.W.Frag) : Sp := fun vs H Q _ => ∃ (a sc : Addr) (cs : List Int) (m : Int), vs = [.ref a, .int m] ∧ 0 < m ∧ m < 1000000 ∧ Rw K H a sc cs ∧ ∀ H' x, SmA a H H' → Rw K H' a sc cs → 0 ≤ x → x < m → Q (.int x) H'
theorem ok_taken (F : FnP K "_law_taken" sTaken f fd) (M : Mg mg) : FnOk P w K mg base CX0 1 f fd ["_law_row", "_law_many"] (spTaken K) := by
  refine go F scTaken (fun vs H Q E h => ?_) (fun cdv A outer s H vs Q E hr h => ?_)
  · obtain ⟨a, sc, cs, m, rfl, _⟩ := h
    rfl
  · obtain ⟨a, sc, cs, m, rfl, m0, m1, ⟨i, r, q, ha, i0, r0, r1, hs⟩, fin⟩ := h
    refine ⟨_, pss_cons (ps_if (pt_cmpR op_gt (pe_ix ix_list (pv 0) pe_int (fun _ _ => rfl)) pe_int (nomark _))
        (pss_cons (ps_set (i := 2) scTaken.nd rfl (.inl rfl) (pe_op op_mod (pe_callTy call_int1 (by rfl) M.n_int b_int (pa_cons (pe_ix ix_list (pv 0) pe_int (fun _ _ => rfl)) pa_nil)) (pv 1)))
        (pss_cons (ps_asg (pe_op op_fdiv (pe_ix ix_list (pv 0) pe_int (fun _ _ => rfl)) (pv 1)) (pg_sub (pv 0) pe_int set_list))
        (pss_one (ps_ret (pv 2))))) pss_nil)
      (pss_cons (ps_asg (pe_op op_add (pe_ix ix_list (pv 0) pe_int (fun _ _ => rfl)) pe_int) (pg_sub (pv 0) pe_int set_list))
      (pss_cons (ps_if (pt_cmpR op_gt (pe_ix ix_list (pv 0) pe_int (fun _ _ => rfl)) (pe_callB call_len (by rfl) M.n_len b_len (pa_cons (pe_ix ix_list (pv 0) pe_int (fun _ _ => rfl)) pa_nil)) (nomark _))
        (pss_cons (ps_asg (pe_op op_mod (pe_callTy call_int1 (by rfl) M.n_int b_int (pa_cons (pe_op op_add (pe_op op_mul (pe_ix ix_list (pv 0) pe_int (fun _ _ => rfl)) pe_int) pe_int) pa_nil)) pe_int) (pg_sub (pv 0) pe_int set_list))
        (pss_one (ps_ret (pe_op op_mod (pe_callTy call_int1 (by rfl) M.n_int b_int (pa_cons (pe_op op_fdiv (pe_ix ix_list (pv 0) pe_int (fun _ _ => rfl)) pe_int) pa_nil)) (pv 1))))) pss_nil)
      (pss_cons (ps_set (i := 3) scTaken.nd rfl (.inl rfl) (pe_ix ix_list (pe_ix ix_list (pv 0) pe_int (fun _ _ => rfl)) (pe_op op_sub (pe_ix ix_list (pv 0) pe_int (fun _ _ => rfl)) pe_int) (fun _ _ => rfl)))
      (pss_cons (ps_asg (pe_op op_mod (pe_callTy call_int1 (by rfl) M.n_int b_int (pa_cons (pe_op op_add (pe_op op_add (pe_op op_mul (pe_ix ix_list (pv 0) pe_int (fun _ _ => rfl)) pe_int) (pv 3)) pe_int) pa_nil)) pe_int) (pg_sub (pv 0) pe_int set_list))
      (pss_cons (ps_if (pt_cmpR op_ge (pv 3) (pe_op op_pow pe_int pe_int) (nomark _)) (pss_one (ps_asg (pe_op op_fdiv (pv 3) (pv 1)) (pg_sub (pv 0) pe_int set_list))) pss_nil)
      (pss_one (ps_ret (pe_op op_mod (pe_callTy call_int1 (by rfl) M.n_int b_int (pa_cons (pv 3) pa_nil)) (pv 1))))))))), ?_⟩
    refine ⟨_, rfl, a, _, 3, .int q, rfl, rfl, SqL.of ha, atI_nat (j := 3) rfl, _, _, rfl, rfl, _, rfl, ite2 (fun e => ?_) (fun e => ?_)⟩
    · refine ⟨_, rfl, a, _, 3, .int q, rfl, rfl, SqL.of ha, atI_nat (j := 3) rfl, .inl ⟨_, rfl, _, rfl, _, _, rfl, rfl, m0, ?_⟩⟩
      refine ⟨_, rfl, a, _, 3, .int q, rfl, rfl, SqL.of ha, atI_nat (j := 3) rfl, _, rfl, _, _, rfl, rfl, ⟨m0, by omega⟩, ?_⟩
      refine ⟨_, rfl, a, _, 3, 3, rfl, rfl, ha, rfl, ?_⟩
      exact ⟨_, rfl, fin _ _ SmA.refl.upd ⟨i, r, q / m, upd_same, i0, r0, r1, sql_row hs ha⟩ (Int.emod_nonneg _ (by omega)) (Int.emod_lt_of_pos _ m0)⟩
    · -- row[1] = row[1] + 1
      refine ⟨_, rfl, a, _, 1, .int i, rfl, rfl, SqL.of ha, atI_nat (j := 1) rfl, _, _, rfl, rfl, _, rfl, a, _, 1, 1, rfl, rfl, ha, rfl, ?_⟩
      have h1 : (upd H a (.lst ((rowV sc i r q).set 1 (.int (i + 1))))) a = some (.lst (rowV sc (i + 1) r q)) := upd_same
      have q1 : SqL K (upd H a (.lst ((rowV sc i r q).set 1 (.int (i + 1))))) sc (cs.map V.int) := sql_row hs ha
      have m1' : SmA a H (upd H a (.lst ((rowV sc i r q).set 1 (.int (i + 1))))) := SmA.refl.upd
      generalize upd H a (.lst ((rowV sc i r q).set 1 (.int (i + 1)))) = H1 at h1 q1 m1'
      -- if row[1] > len(row[0])
      refine ⟨_, rfl, a, _, 1, .int (i + 1), rfl, rfl, SqL.of h1, atI_nat (j := 1) rfl, _, rfl, a, _, 0, .ref sc, rfl, rfl, SqL.of h1, atI_nat (j := 0) rfl, _, cs.length, rfl, .inl ⟨_, q1, len_map.symm⟩, _, _, rfl, rfl, _, rfl, ite2 (fun e => ?_) (fun e => ?_)⟩
      · refine ⟨_, rfl, a, _, 2, .int r, rfl, rfl, SqL.of h1, atI_nat (j := 2) rfl, _, _, rfl, rfl, .inl ⟨by omega, by omega⟩, _, _, rfl, rfl, .inl ⟨_, rfl, _, _, rfl, rfl, (by decide : (0 : Int) < 2147483647), _, rfl, a, _, 2, 2, rfl, rfl, h1, rfl, ?_⟩⟩
        have g0 : 0 ≤ (r * 48271 + 11) % 2147483647 := Int.emod_nonneg _ (by decide)
        have g1 : (r * 48271 + 11) % 2147483647 < 2147483647 := Int.emod_lt_of_pos _ (by decide)
        have h2 : (upd H1 a (.lst ((rowV sc (i + 1) r q).set 2 (.int ((r * 48271 + 11) % 2147483647))))) a = some (.lst (rowV sc (i + 1) ((r * 48271 + 11) % 2147483647) q)) := upd_same
        have q2 : SqL K (upd H1 a (.lst ((rowV sc (i + 1) r q).set 2 (.int ((r * 48271 + 11) % 2147483647))))) sc (cs.map V.int) := sql_row q1 h1
        have m2 : SmA a H (upd H1 a (.lst ((rowV sc (i + 1) r q).set 2 (.int ((r * 48271 + 11) % 2147483647))))) := m1'.upd
        generalize upd H1 a (.lst ((rowV sc (i + 1) r q).set 2 (.int ((r * 48271 + 11) % 2147483647)))) = H2 at h2 q2 m2
        generalize (r * 48271 + 11) % 2147483647 = r' at g0 g1 h2
        refine ⟨_, rfl, a, _, 2, .int r', rfl, rfl, SqL.of h2, atI_nat (j := 2) rfl, _, _, rfl, rfl, ⟨by omega, by omega⟩, .inl ⟨_, rfl, _, rfl, _, _, rfl, rfl, m0, ?_⟩⟩
        exact fin _ _ m2 ⟨i + 1, r', q, h2, by omega, g0, g1, q2⟩ (Int.emod_nonneg _ (by omega)) (Int.emod_lt_of_pos _ m0)
      · have e' : ¬ (cs.length : Int) < i + 1 := fun z => e (decide_eq_true z)
        obtain ⟨k, ek⟩ : ∃ k : Nat, i = (k : Int) := ⟨i.toNat, by omega⟩
        have hk : k < cs.length := by omega
        have gk : (cs.map V.int)[k]? = some (.int cs[k]) := by rw [List.getElem?_map, List.getElem?_eq_getElem hk]; rfl
        generalize cs[k] = c at gk
        -- cell = row[0][row[1] - 1]
        refine ⟨_, rfl, a, _, 0, .ref sc, rfl, rfl, SqL.of h1, atI_nat (j := 0) rfl, _, rfl, a, _, 1, .int (i + 1), rfl, rfl, SqL.of h1, atI_nat (j := 1) rfl, _, _, rfl, rfl, sc, _, (k : Int), .int c, rfl, congrArg V.int (by omega), q1, atI_nat gk, ?_⟩
        -- row[2] = int(row[2] * 48271 + cell + 11) % 2147483647
        refine ⟨_, rfl, a, _, 2, .int r, rfl, rfl, SqL.of h1, atI_nat (j := 2) rfl, _, _, rfl, rfl, .inl ⟨by omega, by omega⟩, _, rfl, _, _, rfl, rfl, _, _, rfl, rfl, .inl ⟨_, rfl, _, _, rfl, rfl, (by decide : (0 : Int) < 2147483647), _, rfl, a, _, 2, 2, rfl, rfl, h1, rfl, ?_⟩⟩
        have g0 : 0 ≤ (r * 48271 + c + 11) % 2147483647 := Int.emod_nonneg _ (by decide)
        have g1 : (r * 48271 + c + 11) % 2147483647 < 2147483647 := Int.emod_lt_of_pos _ (by decide)
        have h2 : (upd H1 a (.lst ((rowV sc (i + 1) r q).set 2 (.int ((r * 48271 + c + 11) % 2147483647))))) a = some (.lst (rowV sc (i + 1) ((r * 48271 + c + 11) % 2147483647) q)) := upd_same
        have q2 : SqL K (upd H1 a (.lst ((rowV sc (i + 1) r q).set 2 (.int ((r * 48271 + c + 11) % 2147483647))))) sc (cs.map V.int) := sql_row q1 h1
        have m2 : SmA a H (upd H1 a (.lst ((rowV sc (i + 1) r q).set 2 (.int ((r * 48271 + c + 11) % 2147483647))))) := m1'.upd
        generalize upd H1 a (.lst ((rowV sc (i + 1) r q).set 2 (.int ((r * 48271 + c + 11) % 2147483647)))) = H2 at h2 q2 m2
        generalize (r * 48271 + c + 11) % 2147483647 = r' at g0 g1 h2
        -- if cell >= 10 ** 18
        refine ⟨_, rfl, _, _, rfl, rfl, ⟨by omega, by omega, by decide⟩, _, _, rfl, rfl, _, rfl, ite2 (fun e => ?_) (fun e => ?_)⟩
        · refine ⟨_, rfl, _, rfl, _, _, rfl, rfl, ⟨m0, by omega⟩, _, rfl, a, _, 3, 3, rfl, rfl, h2, rfl, ?_⟩
          refine ⟨_, rfl, .inl ⟨_, rfl, _, rfl, _, _, rfl, rfl, m0, ?_⟩⟩
          exact fin _ _ m2.upd ⟨i + 1, r', c / m, upd_same, by omega, g0, g1, sql_row q2 h2⟩ (Int.emod_nonneg _ (by omega)) (Int.emod_lt_of_pos _ m0)
        · refine ⟨_, rfl, .inl ⟨_, rfl, _, rfl, _, _, rfl, rfl, m0, ?_⟩⟩
          exact fin _ _ m2 ⟨i + 1, r', q, h2, by omega, g0, g1, q2⟩ (Int.emod_nonneg _ (by omega)) (Int.emod_lt_of_pos _ m0)
end
end Fw

set_option Elab.async false
set_option linter.all false
set_option autoImplicit false
set_option maxRecDepth 100000
set_option maxHeartbeats 4000000
/-! FwDraw: the values, a word of letters, from the script. -/
namespace Fw
open PySem PySem.Spec PyProof.Rows L2
section
variable {K : PySem.W.Frag} {H H0 H1 H2 : Hp} {a sc p D : Addr} {cs : List Int} {o : HO} {xs : List V}
theorem sql_off (h0 : SqL K H0 sc xs) (n : H0 D = none) (h1 : SqL K H1 sc xs) : SqL K (upd H1 D o) sc xs := by
  rcases h0 with h0 | h0
  · have ne : sc ≠ D := fun e => by
      rcases h0 with h0 | ⟨_, h0⟩ <;> rw [e, n] at h0 <;> cases h0
    rcases h1 with h1 | h1
    · refine .inl ?_
      unfold Rd
      rw [upd_ne ne]
      exact h1
    · exact .inr h1
  · exact .inr h0
theorem Rw.off (h0 : Rw K H0 a sc cs) (n : H0 D = none) (h1 : Rw K H1 a sc cs) : Rw K (upd H1 D o) a sc cs := by
  obtain ⟨_, _, _, g1, _, _, _, g5⟩ := h0
  obtain ⟨i, r, q, h1, h2, h3, h4, h5⟩ := h1
  have ne : a ≠ D := ne_of_none g1 n
  exact ⟨i, r, q, by rw [upd_ne ne]; exact h1, h2, h3, h4, sql_off g5 n h5⟩
theorem SmA.off (h : SmA a H H1) (n : H D = none) : SmA a H (L2.upd H1 D o) := fun b x nb e => by
  rw [upd_ne (ne_of_none e n)]
  exact h b x nb e
/-- a list of numbers under way at D, the row beside it -/
def Dr (K : PySem.W.Frag) (a sc : Addr) (cs : List Int) (D : Addr) (H0 : Hp) (T : List Int → Prop) (n : Nat) (H : Hp) : Prop :=
  SmA a H0 H ∧ Rw K H a sc cs ∧ ∃ ns : List Int, ns.length = n ∧ T ns ∧ H D = some (.lst (ns.map V.int))
theorem Dr.start {T : List Int → Prop} (h : Rw K H0 a sc cs) (n : H0 D = none) (t : T []) : Dr K a sc cs D H0 T 0 (upd H0 D (.lst [])) := ⟨SmA.refl.off n, h.off n h, [], rfl, t, upd_same⟩
theorem Dr.step {T : List Int → Prop} {n : Nat} {x : Int} (h0 : Rw K H0 a sc cs) (nD : H0 D = none) (h : Dr K a sc cs D H0 T n H) (s : SmA a H H1) (r : Rw K H1 a sc cs) (hn : n ≤ 1000) (t : ∀ ns : List Int, ns.length = n → T ns → T (ns ++ [x])) :
    ∃ acc, H1 D = some (.lst acc) ∧ acc.length < sizeLine ∧ Dr K a sc cs D H0 T (n + 1) (upd H1 D (.lst (acc ++ [.int x]))) := by
  obtain ⟨sm, r0, ns, ln, tn, e⟩ := h
  have ne : D ≠ a := fun z => by
    obtain ⟨_, _, _, g1, _⟩ := h0
    rw [← z, nD] at g1
    cases g1
  refine ⟨_, s _ _ ne e, lt_line (by rw [len_map]; omega), (sm.trans s).off nD, h0.off nD r, ns ++ [x], by rw [List.length_append, ln]; rfl, t ns ln tn, ?_⟩
  rw [upd_same, List.map_append]
  rfl
end
section
variable {P : Program} {w : World} {K : PySem.W.Frag} {mg : Str → Option Value} {base : Heap} {f : Addr} {fd : FuncData}
def spLValues (K : PySem.W.Frag) : Sp := fun vs H Q _ => ∃ (a sc : Addr) (cs : List Int), vs = [.ref a, .int 4, .int 5] ∧ Rw K H a sc cs ∧ ∀ H' p m ns, SmA a H H' → Rw K H' a sc cs → TupI H' p ns → Vl m ns → 1 ≤ m → m ≤ 4 → Q (.ref p) H'
theorem ok_lvalues (F : FnP K "_law_values" sLValues f fd) (M : Mg mg) (C : Fk P w K mg base 1 "_law_taken" ["_law_row", "_law_many"] (spTaken K)) : FnOk P w K mg base CX0 2 f fd ["_law_row", "_law_most", "_law_top"] (spLValues K) := by
  refine go F scLValues (fun vs H Q E h => ?_) (fun cdv A outer s H vs Q E hr h => ?_)
  · obtain ⟨a, sc, cs, rfl, _⟩ := h
    rfl
  · obtain ⟨a, sc, cs, rfl, R, fin⟩ := h
    refine ⟨_, pss_cons (ps_set (i := 3) scLValues.nd rfl (.inr rfl) (pe_op op_add pe_int (pe_c C hr (by rfl) (pa_cons (pv 0) (pa_cons (pv 2) pa_nil)))))
      (pss_one (ps_ret (pe_callTy call_tupP (by rfl) M.n_tuple b_tuple (pa_cons (pe_lc (own := [("_law_letter", 4)]) (g := gName 4) (tt := tYes) (by rfl) scLValues.nd (pi_range1 (by rfl) M.n_range (pa_cons (pe_op op_add pe_int (pe_c C hr (by rfl) (pa_cons (pv 0) (pa_cons (pv 1) pa_nil)))) pa_nil))
        (blkOk_by (own := [("_law_letter", 4)]) (N := ["_law_row", "_law_most", "_law_top", "_law_high", "_law_letter"]) (sc := defScope sLValues) (by decide +kernel)) (fun _ _ _ _ _ => pg_name (i := 4) scLValues.nd rfl (Or.inl rfl)) (fun _ _ _ _ _ => pts_nil)
        (fun _ _ _ _ _ => pe_op op_add pe_int (pe_c C hr (by rfl) (pa_cons (pv 0) (pa_cons (pv 3) pa_nil))))) pa_nil)))), ?_⟩
    refine ⟨_, rfl, _, rfl, a, sc, cs, 5, rfl, by decide, by decide, R, fun H1 x s1 R1 x0 x1 => ⟨_, _, rfl, rfl, ?_⟩⟩
    refine ⟨_, rfl, _, rfl, a, sc, cs, 4, rfl, by decide, by decide, R1, fun H2 y s2 R2 y0 y1 => ⟨_, _, rfl, rfl, (1 + y), rfl, by omega, by omega, fun D nD => ?_⟩⟩
    obtain ⟨k, ek⟩ : ∃ k : Nat, 1 + y = (k : Int) := ⟨(1 + y).toNat, by omega⟩
    rw [ek]
    refine lc_range (lo := 0) (n := ((k : Nat) : Int).toNat) (Dr K a sc cs D H2 (fun ns => ∀ v ∈ ns, 1 ≤ v ∧ v ≤ 5)) (Dr.start R2 nD (fun _ z => by cases z)) (fun i H3 hi d => ?_) (fun H3 d => ?_)
    · refine ⟨rfl, _, rfl, _, rfl, a, sc, cs, 1 + x, rfl, by omega, by omega, d.2.1, fun H4 z s4 R4 z0 z1 => ⟨_, _, rfl, rfl, ?_⟩⟩
      refine d.step R2 nD s4 R4 (by omega) fun ns _ h v hv => ?_
      rcases List.mem_append.mp hv with q | q
      · exact h v q
      · rw [List.mem_singleton.mp q]
        omega
    · obtain ⟨sm, R3, ns, ln, tn, e⟩ := d
      exact ⟨D, ns, rfl, SqL.of e, fun p H4 _ s4 t4 => fin H4 p k ns (((s1.trans s2).trans sm).same s4) (R3.same s4) t4 ⟨by omega, tn⟩ (by omega) (by omega)⟩
def spLWord (K : PySem.W.Frag) : Sp := fun vs H Q _ => ∃ (a sc : Addr) (cs : List Int) (m : Nat), vs = [.ref a, .int (m : Nat), .int 5] ∧ 1 ≤ m ∧ m ≤ 4 ∧ Rw K H a sc cs ∧ ∀ H' p sl, SmA a H H' → Rw K H' a sc cs → TupI H' p sl → Sl m sl → Q (.ref p) H'
theorem ok_lword (F : FnP K "_law_word" sLWord f fd) (M : Mg mg) (C : Fk P w K mg base 1 "_law_taken" ["_law_row", "_law_many"] (spTaken K)) : FnOk P w K mg base CX0 2 f fd ["_law_row", "_law_many", "_law_most"] (spLWord K) := by
  refine go F scLWord (fun vs H Q E h => ?_) (fun cdv A outer s H vs Q E hr h => ?_)
  · obtain ⟨a, sc, cs, m, rfl, _⟩ := h
    rfl
  · obtain ⟨a, sc, cs, m, rfl, m1, m4, R, fin⟩ := h
    refine ⟨_, pss_one (ps_ret (pe_callTy call_tupP (by rfl) M.n_tuple b_tuple (pa_cons (pe_lc (own := [("_law_index", 3)]) (g := gName 3) (tt := tYes) (by rfl) scLWord.nd (pi_range1 (by rfl) M.n_range (pa_cons (pe_c C hr (by rfl) (pa_cons (pv 0) (pa_cons (pe_op op_add (pv 2) pe_int) pa_nil))) pa_nil))
        (blkOk_by (own := [("_law_index", 3)]) (N := ["_law_row", "_law_many", "_law_most", "_law_index"]) (sc := defScope sLWord) (by decide +kernel)) (fun _ _ _ _ _ => pg_name (i := 3) scLWord.nd rfl (Or.inl rfl)) (fun _ _ _ _ _ => pts_nil)
        (fun _ _ _ _ _ => pe_c C hr (by rfl) (pa_cons (pv 0) (pa_cons (pv 1) pa_nil)))) pa_nil))), ?_⟩
    refine ⟨_, rfl, _, rfl, _, _, rfl, rfl, a, sc, cs, 6, rfl, by decide, by decide, R, fun H2 y s2 R2 y0 y1 => ⟨y, rfl, by omega, by omega, fun D nD => ?_⟩⟩
    obtain ⟨k, ek⟩ : ∃ k : Nat, y = (k : Int) := ⟨y.toNat, by omega⟩
    rw [ek]
    refine lc_range (lo := 0) (n := ((k : Nat) : Int).toNat) (Dr K a sc cs D H2 (fun ns => ∀ v ∈ ns, v ∈ lts m)) (Dr.start R2 nD (fun _ z => by cases z)) (fun i H3 hi d => ?_) (fun H3 d => ?_)
    · refine ⟨rfl, _, rfl, _, rfl, a, sc, cs, (m : Int), rfl, by omega, by omega, d.2.1, fun H4 z s4 R4 z0 z1 => ?_⟩
      refine d.step R2 nD s4 R4 (by omega) fun ns _ h v hv => ?_
      rcases List.mem_append.mp hv with q | q
      · exact h v q
      · rw [List.mem_singleton.mp q]
        exact mem_lts.mpr ⟨z0, z1⟩
    · obtain ⟨sm, R3, ns, ln, tn, e⟩ := d
      exact ⟨D, ns, rfl, SqL.of e, fun p H4 _ s4 t4 => fin H4 p ns ((s2.trans sm).same s4) (R3.same s4) t4 ⟨by omega, tn⟩⟩
end
end Fw

set_option Elab.async false
set_option linter.all false
set_option autoImplicit false
set_option maxRecDepth 100000
set_option maxHeartbeats 4000000
/-! FwLWords: all words of a length, by the law. -/
namespace Fw
open PySem PySem.Spec PyProof.Rows L2
/-- a list of words -/
def LW (H : Hp) (l : Addr) (ws : List (List Int)) : Prop := ∃ as : List Addr, H l = some (.lst (as.map V.ref)) ∧ Paired (fun q wd => TupI H q wd) as ws
section
variable {H H1 : Hp} {l p : Addr} {ws : List (List Int)} {wd : List Int} {m : Nat}
theorem LW.same (h : LW H l ws) (s : Same H H1) : LW H1 l ws := let ⟨as, e, pr⟩ := h; ⟨as, s _ _ e, Paired.mapP pr fun _ _ t => t.same s⟩
theorem LW.nil : LW (upd H l (.lst [])) l [] := ⟨[], upd_same, .nil⟩
theorem wrds_mono {k n : Nat} (hm : 1 ≤ m) (h : k ≤ n) : (wrds m k).length ≤ (wrds m n).length := by
  rw [wrds_card, wrds_card]
  exact Nat.pow_le_pow_right hm h
theorem LW.cat {D : Addr} {us : List (List Int)} (h : LW H l ws) (g : LW H D us) : ∃ as bs : List Addr, H l = some (.lst (as.map V.ref)) ∧ H D = some (.lst (bs.map V.ref)) ∧ as.length = ws.length ∧ bs.length = us.length ∧
    ∀ p, H p = none → LW (upd H p (.lst (as.map V.ref ++ bs.map V.ref))) p (ws ++ us) := by
  obtain ⟨as, e1, p1⟩ := h
  obtain ⟨bs, e2, p2⟩ := g
  refine ⟨as, bs, e1, e2, p1.length, p2.length, fun p np => ⟨as ++ bs, by rw [upd_same, List.map_append], ?_⟩⟩
  have q1 := Paired.mapP p1 fun _ _ t => TupI.same t (same_upd (o := .lst (as.map V.ref ++ bs.map V.ref)) np)
  have q2 := Paired.mapP p2 fun _ _ t => TupI.same t (same_upd (o := .lst (as.map V.ref ++ bs.map V.ref)) np)
  exact app q1 q2
where
  app {F : Addr → List Int → Prop} : ∀ {as bs : List Addr} {ws us : List (List Int)}, Paired F as ws → Paired F bs us → Paired F (as ++ bs) (ws ++ us)
    | _, _, _, _, .nil, g => g
    | _, _, _, _, .cons h t, g => .cons h (app t g)
theorem LW.snoc (h : LW H l ws) (t : TupI H p wd) : ∃ as : List Addr, H l = some (.lst (as.map V.ref)) ∧ as.length = ws.length ∧ LW (upd H l (.lst (as.map V.ref ++ [.ref p]))) l (ws ++ [wd]) := by
  obtain ⟨as, e, pr⟩ := h
  refine ⟨as, e, pr.length, as ++ [p], by rw [upd_same, List.map_append]; rfl, ?_⟩
  exact Paired.snoc (Paired.mapP pr fun _ _ z => z.upd (lst_tup e _ _ z)) (t.upd (lst_tup e _ _ t))
def tails (m : Nat) (ws : List (List Int)) : List (List Int) := ws.flatMap fun w => (lts m).map fun l => w ++ [l]
theorem tails_len : (tails m ws).length = ws.length * m := flat_len _ m (fun w => by rw [List.length_map, lts_len]) ws
theorem tails_take {i : Nat} (h : ws[i]? = some wd) : tails m (ws.take (i + 1)) = tails m (ws.take i) ++ (lts m).map fun l => wd ++ [l] := by
  unfold tails
  rw [List.take_add_one, h, List.flatMap_append]
  congr 1
  exact List.append_nil _
end
section
variable {P : Program} {w : World} {K : PySem.W.Frag} {mg : Str → Option Value} {base : Heap} {f : Addr} {fd : FuncData}
def spLWords : Sp := fun vs H Q _ => ∃ m n : Nat, vs = [.int (m : Nat), .int (n : Nat)] ∧ 1 ≤ m ∧ m ≤ 4 ∧ n ≤ 30 ∧ (wrds m n).length ≤ 256 ∧ ∀ H' l, Same H H' → LW H' l (wrds m n) → Q (.ref l) H'
theorem ok_lwords (F : FnP K "_law_words" sLWords f fd) (M : Mg mg) : FnOk P w K mg base CX0 1 f fd ["_law_many", "_law_length"] spLWords := by
  refine go F scLWords (fun vs H Q E h => ?_) (fun cdv A outer s H vs Q E hr h => ?_)
  · obtain ⟨m, n, rfl, _⟩ := h
    rfl
  · obtain ⟨m, n, rfl, m1, m4, n30, len, q⟩ := h
    refine ⟨_, pss_cons (ps_set (i := 2) scLWords.nd rfl (.inl rfl) (pe_lst (pa_cons (pe_tupP pa_nil) pa_nil)))
      (pss_cons (ps_for PassesOwn.never rfl (pi_range1 (by rfl) M.n_range (pa_cons (pv 1) pa_nil)) (pg_name (i := 3) scLWords.nd rfl (.inl rfl))
        (pss_cons (ps_set (i := 4) scLWords.nd rfl (.inl rfl) (pe_lst pa_nil))
        (pss_cons (ps_for PassesOwn.never rfl (pi_list (pv 2)) (pg_name (i := 5) scLWords.nd rfl (.inr rfl))
          (pss_one (ps_set (i := 4) scLWords.nd rfl (.inl rfl) (pe_op op_cat (pv 4) (pe_lc (own := [("_law_letter", 6)]) (g := gName 6) (tt := tYes) (by rfl) scLWords.nd (pi_range1 (by rfl) M.n_range (pa_cons (pv 0) pa_nil))
            (blkOk_by (own := [("_law_letter", 6)]) (N := ["_law_many", "_law_length", "_law_found", "_law_turn", "_law_longer", "_law_word_here", "_law_letter"]) (sc := defScope sLWords) (by decide +kernel)) (fun _ _ _ _ _ => pg_name (i := 6) scLWords.nd rfl (Or.inl rfl)) (fun _ _ _ _ _ => pts_nil)
            (fun _ _ _ _ _ => pe_op op_catP (pv 5) (pe_tupP (pa_cons (pv 6) pa_nil))))))))
        (pss_one (ps_set (i := 2) scLWords.nd rfl (.inl rfl) (pv 4))))))
      (pss_one (ps_ret (pv 2)))), ?_⟩
    -- found = [()]
    refine ⟨[], rfl, Nat.zero_le _, fun t0 H1 _ s1 tt0 => ⟨by show 1 ≤ sizeLine; decide, fun fl nf => ?_⟩⟩
    have W0 : LW (upd H1 fl (.lst [.ref t0])) fl (wrds m 0) := ⟨[t0], upd_same, .cons (tt0.same (same_upd nf)) .nil⟩
    have s2 : Same H (upd H1 fl (.lst [.ref t0])) := s1.trans (same_upd nf)
    generalize upd H1 fl (.lst [.ref t0]) = H2 at W0 s2
    -- for turn in range(length)
    refine ⟨_, rfl, (n : Int), rfl, by omega, by omega, for_range (lo := 0) (n := ((n : Nat) : Int).toNat) (fun k σ H3 => ∃ (fl : Addr) (x3 x4 x5 x6 : Option V), σ = [some (.int (m : Nat)), some (.int (n : Nat)), some (.ref fl), x3, x4, x5, x6] ∧ Same H H3 ∧ LW H3 fl (wrds m k))
      ⟨fl, _, _, _, _, rfl, s2, W0⟩ (fun k σ H3 hk ⟨fl, x3, x4, x5, x6, es, s3, W3⟩ => ?_) (fun σ H3 ⟨fl, x3, x4, x5, x6, es, s3, W3⟩ => ?_)⟩
    · subst es
      refine ⟨Nat.zero_le _, fun l nl => ?_⟩
      have s4 : Same H3 (upd H3 l (.lst [])) := same_upd nl
      have n0 : LW (upd H3 l (.lst [])) l [] := LW.nil
      generalize upd H3 l (.lst []) = H4 at s4 n0
      obtain ⟨as, ef, pf⟩ := W3.same s4
      have lk : (wrds m k).length ≤ 256 := Nat.le_trans (wrds_mono m1 (by omega)) len
      have lk1 : (wrds m (k + 1)).length ≤ 256 := Nat.le_trans (wrds_mono m1 (by omega)) len
      have lt1 : (wrds m k).length * m ≤ 256 := by
        have e : (wrds m (k + 1)).length = (wrds m k).length * m := tails_len
        omega
      -- for word in found
      refine ⟨_, rfl, fl, rfl, ⟨_, SqL.of ef⟩, for_list (K := K) (a := fl) (xs := as.map V.ref) (fun i σ H5 => ∃ (l : Addr) (y5 y6 : Option V), σ = [some (.int (m : Nat)), some (.int (n : Nat)), some (.ref fl), some (.int (0 + (k : Nat))), some (.ref l), y5, y6] ∧ Same H4 H5 ∧ True ∧ LW H5 l (tails m ((wrds m k).take i)))
        ⟨l, _, _, rfl, Same.refl _, trivial, n0⟩ (fun i σ H5 _ ⟨_, _, _, _, s5, _⟩ => ?_) (fun i x σ H5 hx ⟨l, y5, y6, es, s5, _, W5⟩ => ?_) (fun σ H5 ⟨l, y5, y6, es, s5, _, W5⟩ => ?_)⟩
      · exact SqL.of (s5 _ _ ef)
      · subst es
        rw [List.getElem?_map] at hx
        obtain ⟨aw, h1, rfl⟩ := Option.map_eq_some_iff.mp hx
        obtain ⟨wd, h2, tw⟩ := paired_get pf h1
        have tw5 := tw.same s5
        have lw : wd.length ≤ 30 := by rw [wrds_len (List.mem_of_getElem? h2)]; omega
        have hi := (List.getElem?_eq_some_iff.mp h2).1
        -- longer = longer + [word + (letter,) for letter in range(many)]
        refine ⟨_, rfl, _, rfl, (m : Int), rfl, by omega, by omega, fun D nD => lc_range (lo := 0) (n := ((m : Nat) : Int).toNat) (fun j H6 => Same H5 H6 ∧ LW H6 D (((lts m).take j).map fun x => wd ++ [x]))
          ⟨same_upd nD, by rw [List.take_zero]; exact LW.nil⟩ (fun j H6 hj ⟨s6, W6⟩ => ?_) (fun H6 ⟨s6, W6⟩ => ?_)⟩
        · refine ⟨rfl, _, rfl, _, rfl, [(0 + ((j : Nat) : Int))], rfl, (by decide : 1 ≤ 100000), fun p8 H8 _ s8 t8 => ⟨aw, p8, _, _, rfl, rfl, (tw5.same s6).same s8, t8, by show _ + 1 ≤ _; omega, fun a9 H9 s9 t9 => ?_⟩⟩
          obtain ⟨as2, e9, l9, W9⟩ := ((W6.same s8).same s9).snoc t9
          refine ⟨_, e9, lt_line (by rw [List.length_map, l9, List.length_map, List.length_take]; omega), sm_upd ((s6.trans s8).trans s9) nD, ?_⟩
          rw [lts_take (by omega) (fun x => wd ++ [x]), ← Int.zero_add (j : Int)]
          exact W9
        · rw [show ((m : Nat) : Int).toNat = m by omega, List.take_of_length_le (by rw [lts_len]; omega)] at W6
          obtain ⟨as1, bs, e1, e2, l1, l2, cat⟩ := (W5.same s6).cat W6
          refine ⟨l, D, _, _, rfl, rfl, e1, e2, ?_, fun p np => ⟨p, _, _, rfl, (s5.trans s6).trans (same_upd np), trivial, ?_⟩⟩
          · refine Nat.le_of_lt (lt_line ?_)
            rw [List.length_map, List.length_map, l1, l2, tails_len, List.length_map, lts_len, List.length_take]
            have : min i (wrds m k).length * m ≤ (wrds m k).length * m := Nat.mul_le_mul_right _ (Nat.min_le_right _ _)
            omega
          · rw [tails_take h2]
            exact cat p np
      · subst es
        have e2 : (wrds m k).take (as.map V.ref).length = wrds m k := by rw [List.length_map, pf.length]; exact List.take_length
        rw [e2] at W5
        exact ⟨_, rfl, l, _, _, _, _, rfl, (s3.trans s4).trans s5, W5⟩
    · subst es
      rw [show ((n : Nat) : Int).toNat = n by omega] at W3
      exact ⟨_, rfl, q H3 fl s3 W3⟩
end
end Fw

set_option Elab.async false
set_option linter.all false
set_option autoImplicit false
set_option maxRecDepth 100000
set_option maxHeartbeats 4000000
/-! FwAlike: the law's own comparison of what it finds with what is due. -/
namespace Fw
open PySem PySem.Spec PyProof.Rows L2
def TupR (H : Hp) (a : Addr) (xs : List V) : Prop := H a = some (.tup xs) ∨ ∃ o : Obj, H a = some (.frz o (.tup xs))
section
variable {K : PySem.W.Frag} {H H1 : Hp} {a : Addr} {xs : List V}
theorem TupR.sq (h : TupR H a xs) : SqT K H a xs := .inl h
theorem TupR.ty (h : TupR H a xs) : TyX K H (.ref a) (.type "tuple") := by
  rcases h with h | ⟨o, h⟩
  · exact .base (.tup h)
  · exact .fTuple h
theorem TupR.same (h : TupR H a xs) (s : Same H H1) : TupR H1 a xs := by
  rcases h with h | ⟨o, h⟩
  · exact .inl (s _ _ h)
  · exact .inr ⟨o, s _ _ h⟩
theorem TupI.tr {ns : List Int} (h : TupI H a ns) : TupR H a (ns.map V.int) := let ⟨o, e, _⟩ := h; .inr ⟨o, e⟩
end
def AEq : Nat → Hp → V → V → Prop
  | 0, _, x, y => ∃ i, x = .int i ∧ y = .int i
  | n + 1, H, x, y => (∃ i, x = .int i ∧ y = .int i) ∨ ∃ (a b : Addr) (xs ys : List V), x = .ref a ∧ y = .ref b ∧ TupR H a xs ∧ TupR H b ys ∧ xs.length = ys.length ∧ ys.length ≤ 1000 ∧ ∀ (i : Nat) u v, xs[i]? = some u → ys[i]? = some v → AEq n H u v
theorem AEq.same : ∀ {n : Nat} {H H1 : Hp} {x y : V}, AEq n H x y → Same H H1 → AEq n H1 x y
  | 0, _, _, _, _, h, _ => h
  | n + 1, _, _, _, _, .inl h, _ => .inl h
  | n + 1, _, _, _, _, .inr ⟨a, b, xs, ys, e1, e2, h1, h2, l, z, h⟩, s => .inr ⟨a, b, xs, ys, e1, e2, h1.same s, h2.same s, l, z, fun i u v g1 g2 => (h i u v g1 g2).same s⟩
def kit2 (t n1 n2 : String) : Option Bool := match kitB t n1 with
  | some true => some true
  | some false => kitB t n2
  | none => none
theorem kit2_any {K : PySem.W.Frag} {t n1 n2 : String} {b : Bool} (h : kit2 t n1 n2 = some b) : PySem.W.kitAny K (.type t) [.type n1, .type n2] = some b := by
  unfold kit2 at h
  cases h1 : kitB t n1 with
  | none =>
    rw [h1] at h
    cases h
  | some c =>
    rw [h1] at h
    cases c with
    | true => exact kitAny_cons (kit_ty h1) (fun z => by cases z) (fun _ => (Option.some.inj h).symm)
    | false =>
      refine kitAny_cons (kit_ty h1) (fun _ => ?_) (fun z => by cases z)
      have h2 : kitB t n2 = some b := h
      cases b with
      | true => exact kitAny_cons (kit_ty h2) (fun z => by cases z) (fun _ => rfl)
      | false => exact kitAny_cons (kit_ty h2) (fun _ => kitAny_nil) (fun z => by cases z)
theorem call_isTB {X : Cx} : CallR X (.builtin "isinstance") (fun xs H Q => ∃ (x : V) (tp : Addr) (n1 n2 t : String) (b : Bool), xs = [x, .ref tp] ∧ H tp = some (.tup [.ty n1, .ty n2]) ∧ TyX X.K H x (.type t) ∧ kit2 t n1 n2 = some b ∧ Q (.bl b) H) := by
  intro pins s σ H xs us Q I r h
  obtain ⟨x, tp, n1, n2, t, b, e, g, ty, kb, q⟩ := h
  exact call_isiT pins s σ H xs us Q I r ⟨x, tp, [.ty n1, .ty n2], .type t, [.type n1, .type n2], b, e, g, .cons (.ty n1) (.cons (.ty n2) .nil), ty, kit2_any kb, q⟩
section
variable {P : Program} {w : World} {K : PySem.W.Frag} {mg : Str → Option Value} {base : Heap} {f : Addr} {fd : FuncData}
def spAlike (n : Nat) : Sp := fun vs H Q _ => ∃ x y : V, vs = [x, y] ∧ AEq n H x y ∧ ∀ H', Same H H' → Q (.bl true) H'
theorem ok_alike0 (F : FnP K "_law_alike" sAlike f fd) (M : Mg mg) : FnOk P w K mg base CX0 1 f fd ["_law_found", "_law_due"] (spAlike 0) := by
  refine go F scAlike (fun vs H Q E h => ?_) (fun cdv A outer s H vs Q E hr h => ?_)
  · obtain ⟨x, y, rfl, _⟩ := h
    rfl
  · obtain ⟨_, _, rfl, ⟨i, rfl, rfl⟩, q⟩ := h
    refine ⟨_, pss_cons (ps_if (pt_val (pe_callB call_isTB (by rfl) M.n_isinstance b_isinstance (pa_cons (pv 1) (pa_cons (pe_tup (pa_cons (pe_bltn (v := .ty "tuple") (by rfl) M.n_tuple b_tuple rfl) (pa_cons (pe_bltn (v := .ty "list") (by rfl) M.n_list b_list rfl) pa_nil))) pa_nil))))
        (pss_cons ps_never (pss_cons ps_never (pss_one ps_never))) pss_nil)
      (pss_cons (ps_if (PW.pt (pw_or (pt_cmpR op_isN (pv 1) pe_non (nomark _)) (pw_or1 (pt_val (pe_callB call_isB (by rfl) M.n_isinstance b_isinstance (pa_cons (pv 1) (pa_cons (pe_bltn (v := .ty "str") (by rfl) M.n_str b_str rfl) pa_nil))))))) (pss_one ps_never) pss_nil)
      (pss_one (ps_ret (pe_and (pe_callB call_isB (by rfl) M.n_isinstance b_isinstance (pa_cons (pv 0) (pa_cons (pe_bltn (v := .ty "int") (by rfl) M.n_int b_int rfl) pa_nil)))
        (pe_and (pe_cmpR op_eq (pe_callB call_isB (by rfl) M.n_isinstance b_isinstance (pa_cons (pv 0) (pa_cons (pe_bltn (v := .ty "bool") (by rfl) M.n_bool b_bool rfl) pa_nil))) (pe_callB call_isB (by rfl) M.n_isinstance b_isinstance (pa_cons (pv 1) (pa_cons (pe_bltn (v := .ty "bool") (by rfl) M.n_bool b_bool rfl) pa_nil))) (nomark _))
        (pe_one (pe_cmpR op_eq (pv 0) (pv 1) (nomark _)))))))), ?_⟩
    refine ⟨_, rfl, (by decide : 2 ≤ sizeLine), fun p np => ⟨_, p, "tuple", "list", "int", false, rfl, upd_same, .base (.int i), (by decide +kernel : kit2 "int" "tuple" "list" = some false), _, rfl, iteF ?_⟩⟩
    have s1 : Same H (upd H p (.tup [.ty "tuple", .ty "list"])) := same_upd np
    refine ⟨_, rfl, rfl, _, rfl, ?_⟩
    refine iteF ⟨_, rfl, _, _, _, _, rfl, .base (.int i), (by decide +kernel : kitB "int" "str" = some false), false, rfl, iteF ?_⟩
    refine ⟨_, rfl, _, _, _, _, rfl, .base (.int i), (by decide +kernel : kitB "int" "int" = some true), true, rfl, iteT ?_⟩
    refine ⟨_, rfl, _, _, _, _, rfl, .base (.int i), (by decide +kernel : kitB "int" "bool" = some false), _, rfl, _, _, _, _, rfl, .base (.int i), (by decide +kernel : kitB "int" "bool" = some false), rfl, true, rfl, iteT ?_⟩
    exact ⟨_, rfl, _, rfl, rfl, bl_t (Q := Q) rfl (q _ s1)⟩
theorem ok_alikeS {n : Nat} (F : FnP K "_law_alike" sAlike f fd) (M : Mg mg) (C : Fk P w K mg base (n + 1) "_law_alike" ["_law_found", "_law_due"] (spAlike n)) : FnOk P w K mg base CX0 (n + 2) f fd ["_law_found", "_law_due"] (spAlike (n + 1)) := by
  refine go F scAlike (fun vs H Q E h => ?_) (fun cdv A outer s H vs Q E hr h => ?_)
  · obtain ⟨x, y, rfl, _⟩ := h
    rfl
  · obtain ⟨x, y, rfl, h, q⟩ := h
    refine ⟨_, pss_cons (ps_if (pt_val (pe_callB call_isTB (by rfl) M.n_isinstance b_isinstance (pa_cons (pv 1) (pa_cons (pe_tup (pa_cons (pe_bltn (v := .ty "tuple") (by rfl) M.n_tuple b_tuple rfl) (pa_cons (pe_bltn (v := .ty "list") (by rfl) M.n_list b_list rfl) pa_nil))) pa_nil))))
        (pss_cons (ps_if (PW.pt (pw_or (pt_not (pt_val (pe_callB call_isTB (by rfl) M.n_isinstance b_isinstance (pa_cons (pv 0) (pa_cons (pe_tup (pa_cons (pe_bltn (v := .ty "tuple") (by rfl) M.n_tuple b_tuple rfl) (pa_cons (pe_bltn (v := .ty "list") (by rfl) M.n_list b_list rfl) pa_nil))) pa_nil)))))
          (pw_or1 (pt_cmpR op_ne (pe_callB call_isB (by rfl) M.n_isinstance b_isinstance (pa_cons (pv 0) (pa_cons (pe_bltn (v := .ty "list") (by rfl) M.n_list b_list rfl) pa_nil))) (pe_callB call_isB (by rfl) M.n_isinstance b_isinstance (pa_cons (pv 1) (pa_cons (pe_bltn (v := .ty "list") (by rfl) M.n_list b_list rfl) pa_nil))) (nomark _))))) (pss_one ps_never) pss_nil)
        (pss_cons (ps_if (pt_cmpR op_ne (pe_callB call_len (by rfl) M.n_len b_len (pa_cons (pv 0) pa_nil)) (pe_callB call_len (by rfl) M.n_len b_len (pa_cons (pv 1) pa_nil)) (nomark _)) (pss_one ps_never) pss_nil)
        (pss_one (ps_ret (pe_cmpR (op_eqD hr.units) (pe_lc (own := [("_law_k", 2)]) (g := gName 2) (by rfl) scAlike.nd (pi_range1 (by rfl) M.n_range (pa_cons (pe_callB call_len (by rfl) M.n_len b_len (pa_cons (pv 1) pa_nil)) pa_nil))
          (blkOk_by (own := [("_law_k", 2)]) (N := ["_law_found", "_law_due", "_law_k"]) (sc := defScope sAlike) (by decide +kernel)) (fun _ _ _ _ _ => pg_name (i := 2) scAlike.nd rfl (Or.inl rfl))
          (fun _ _ _ _ _ => pts_one (pt_not (pt_val (pe_c C hr (by rfl) (pa_cons (pe_ix (r := rIxT K) ix_tup (pv 0) (pv 2) (fun _ _ => rfl)) (pa_cons (pe_ix (r := rIxT K) ix_tup (pv 1) (pv 2) (fun _ _ => rfl)) pa_nil))))))
          (fun _ _ _ _ _ => pv 2)) (pe_lst pa_nil) (nomark _)))))) pss_nil)
      (pss_cons (ps_if (PW.pt (pw_or (pt_cmpR op_isN (pv 1) pe_non (nomark _)) (pw_or1 (pt_val (pe_callB call_isB (by rfl) M.n_isinstance b_isinstance (pa_cons (pv 1) (pa_cons (pe_bltn (v := .ty "str") (by rfl) M.n_str b_str rfl) pa_nil))))))) (pss_one ps_never) pss_nil)
      (pss_one (ps_ret (pe_and (pe_callB call_isB (by rfl) M.n_isinstance b_isinstance (pa_cons (pv 0) (pa_cons (pe_bltn (v := .ty "int") (by rfl) M.n_int b_int rfl) pa_nil)))
        (pe_and (pe_cmpR op_eq (pe_callB call_isB (by rfl) M.n_isinstance b_isinstance (pa_cons (pv 0) (pa_cons (pe_bltn (v := .ty "bool") (by rfl) M.n_bool b_bool rfl) pa_nil))) (pe_callB call_isB (by rfl) M.n_isinstance b_isinstance (pa_cons (pv 1) (pa_cons (pe_bltn (v := .ty "bool") (by rfl) M.n_bool b_bool rfl) pa_nil))) (nomark _))
        (pe_one (pe_cmpR op_eq (pv 0) (pv 1) (nomark _)))))))), ?_⟩
    rcases h with ⟨i, rfl, rfl⟩ | ⟨a, b, xs, ys, rfl, rfl, h1, h2, hl, hz, h⟩
    · refine ⟨_, rfl, (by decide : 2 ≤ sizeLine), fun p np => ⟨_, p, "tuple", "list", "int", false, rfl, upd_same, .base (.int i), (by decide +kernel : kit2 "int" "tuple" "list" = some false), _, rfl, iteF ?_⟩⟩
      have s1 : Same H (upd H p (.tup [.ty "tuple", .ty "list"])) := same_upd np
      refine ⟨_, rfl, rfl, _, rfl, ?_⟩
      refine iteF ⟨_, rfl, _, _, _, _, rfl, .base (.int i), (by decide +kernel : kitB "int" "str" = some false), false, rfl, iteF ?_⟩
      refine ⟨_, rfl, _, _, _, _, rfl, .base (.int i), (by decide +kernel : kitB "int" "int" = some true), true, rfl, iteT ?_⟩
      refine ⟨_, rfl, _, _, _, _, rfl, .base (.int i), (by decide +kernel : kitB "int" "bool" = some false), _, rfl, _, _, _, _, rfl, .base (.int i), (by decide +kernel : kitB "int" "bool" = some false), rfl, true, rfl, iteT ?_⟩
      exact ⟨_, rfl, _, rfl, rfl, bl_t (Q := Q) rfl (q _ s1)⟩
    · refine ⟨_, rfl, (by decide : 2 ≤ sizeLine), fun p np => ?_⟩
      have s1 : Same H (upd H p (.tup [.ty "tuple", .ty "list"])) := same_upd np
      refine ⟨_, p, "tuple", "list", "tuple", true, rfl, upd_same, (h2.same s1).ty, (by decide +kernel : kit2 "tuple" "tuple" "list" = some true), _, rfl, iteT ?_⟩
      generalize upd H p (.tup [.ty "tuple", .ty "list"]) = H1 at s1
      refine ⟨_, rfl, (by decide : 2 ≤ sizeLine), fun p np => ?_⟩
      have s2 : Same H (upd H1 p (.tup [.ty "tuple", .ty "list"])) := s1.trans (same_upd np)
      refine ⟨_, p, "tuple", "list", "tuple", true, rfl, upd_same, (h1.same s2).ty, (by decide +kernel : kit2 "tuple" "tuple" "list" = some true), _, rfl, iteF ?_⟩
      generalize upd H1 p (.tup [.ty "tuple", .ty "list"]) = H2 at s2
      refine ⟨_, rfl, _, _, _, _, rfl, (h1.same s2).ty, (by decide +kernel : kitB "tuple" "list" = some false), _, rfl, _, _, _, _, rfl, (h2.same s2).ty, (by decide +kernel : kitB "tuple" "list" = some false), rfl, false, rfl, iteF ?_⟩
      refine ⟨_, rfl, _, xs.length, rfl, .inr ⟨_, (h1.same s2).sq, rfl⟩, _, rfl, _, ys.length, rfl, .inr ⟨_, (h2.same s2).sq, rfl⟩, rfl, false, ?_, iteF ?_⟩
      · rw [hl]
        exact congrArg V.bl (by simp)
      refine ⟨_, rfl, _, ys.length, rfl, .inr ⟨_, (h2.same s2).sq, rfl⟩, (ys.length : Int), rfl, by omega, by omega, fun D nD => lc_range (lo := 0) (n := (ys.length : Int).toNat) (fun i H3 => Same H2 H3 ∧ H3 D = some (.lst []))
        ⟨same_upd nD, upd_same⟩ (fun i H3 hi ⟨s3, e3⟩ => ?_) (fun H3 ⟨s3, e3⟩ => ?_)⟩
      · have g2 : ys[i]? = some (ys[i]'(by omega)) := List.getElem?_eq_getElem _
        have g1 : xs[i]? = some (xs[i]'(by omega)) := List.getElem?_eq_getElem _
        have ae := (h i _ _ g1 g2).same (s2.trans s3)
        refine ⟨rfl, _, rfl, _, rfl, a, xs, (i : Int), _, rfl, congrArg V.int (by omega), (h1.same (s2.trans s3)).sq, atI_nat g1, _, rfl, _, rfl, b, ys, (i : Int), _, rfl, congrArg V.int (by omega), (h2.same (s2.trans s3)).sq, atI_nat g2, _, _, rfl, ae, fun H4 s4 => ⟨true, rfl, ?_⟩⟩
        exact ⟨s3.trans s4, s4 _ _ e3⟩
      · refine ⟨Nat.zero_le _, fun l nl => ⟨.list [], .list [], .lst (SqL.of (same_upd nl _ _ e3)) .nil, .lst (SqL.of upd_same) .nil, (by decide +kernel), (by decide +kernel), ?_⟩⟩
        have e : PyData.eqv (.list []) (.list []) = true := by simp [PyData.eqv, PyData.eqvAll]
        rw [e]
        exact q _ ((s2.trans s3).trans (same_upd nl))
end
end Fw

set_option Elab.async false
set_option linter.all false
set_option autoImplicit false
set_option maxRecDepth 100000
set_option maxHeartbeats 4000000
/-! FwLaw: the law. -/
namespace Fw
open PySem PySem.Spec PyProof.Rows L2
/-! ### an expression whose branches meet again -/
def tJ (t : TE) : TE := fun σ H Q => ∃ R : VK, t σ H R ∧ ∀ x H', R x H' → Q x H'
theorem pe_join {X : Cx} {e : Expr} {t : TE} (h : PE X e t) : PE X e (tJ t) := ⟨fun pins s σ H Q I ⟨R, g, m⟩ => thn (h.run pins s σ H R I g) fun v s1 ⟨x, H1, I1, r, q⟩ => ⟨x, H1, I1, r, m x H1 q⟩⟩
theorem filter_take {U : List (List Int)} {f : List Int → Bool} {i : Nat} {u : List Int} (h : U[i]? = some u) : (U.take (i + 1)).filter f = (U.take i).filter f ++ (if f u = true then [u] else []) := by
  rw [List.take_add_one, h, List.filter_append]
  congr 1
  show List.filter f [u] = _
  by_cases e : f u = true
  · rw [List.filter_cons_of_pos e, if_pos e]
    rfl
  · rw [List.filter_cons_of_neg e, if_neg e]
    rfl
/-! ### the law's rows: sum, count, word -/
def RowAt (S C : List Int → Int) (H : Hp) (p : Addr) (u : List Int) : Prop := ∃ q : Addr, H p = some (.tup [.int (S u), .int (C u), .ref q]) ∧ TupI H q u
def Rows (S C : List Int → Int) (H : Hp) (l : Addr) (us : List (List Int)) : Prop := ∃ ps : List Addr, H l = some (.lst (ps.map V.ref)) ∧ Paired (RowAt S C H) ps us
section
variable {S C : List Int → Int} {H H1 : Hp} {l p : Addr} {us : List (List Int)} {u : List Int}
theorem RowAt.same (h : RowAt S C H p u) (s : Same H H1) : RowAt S C H1 p u := let ⟨q, e, t⟩ := h; ⟨q, s _ _ e, t.same s⟩
theorem Rows.same (h : Rows S C H l us) (s : Same H H1) : Rows S C H1 l us := let ⟨ps, e, pr⟩ := h; ⟨ps, s _ _ e, Paired.mapP pr fun _ _ t => t.same s⟩
theorem RowAt.lst {xs : List V} {o : HO} (h : RowAt S C H p u) (hL : H l = some (.lst xs)) : RowAt S C (upd H l o) p u := by
  obtain ⟨q, e, t⟩ := h
  have n : p ≠ l := fun z => by
    rw [z, hL] at e
    cases e
  exact ⟨q, by rw [upd_ne n]; exact e, t.upd (lst_tup hL _ _ t)⟩
theorem Rows.snoc (h : Rows S C H l us) (t : RowAt S C H p u) : ∃ ps : List Addr, H l = some (.lst (ps.map V.ref)) ∧ ps.length = us.length ∧ Rows S C (upd H l (.lst (ps.map V.ref ++ [.ref p]))) l (us ++ [u]) := by
  obtain ⟨ps, e, pr⟩ := h
  refine ⟨ps, e, pr.length, ps ++ [p], by rw [upd_same, List.map_append]; rfl, ?_⟩
  exact Paired.snoc (Paired.mapP pr fun _ _ z => z.lst e) (t.lst e)
theorem paired_map {α : Type} {F : Addr → α → Prop} {G : V → α → Prop} (h : ∀ q a, F q a → G (.ref q) a) : ∀ {as : List Addr} {ws : List α}, Paired F as ws → Paired G (as.map V.ref) ws
  | _, _, .nil => .nil
  | _, _, .cons r t => .cons (h _ _ r) (paired_map h t)
end
theorem pow_256 {m n : Nat} (m4 : m ≤ 4) (h : n < (if m < 4 then 6 else 5)) : (wrds m n).length ≤ 256 := by
  rw [wrds_card]
  by_cases e : m < 4
  · rw [if_pos e] at h
    have h1 : m ^ n ≤ 3 ^ n := Nat.pow_le_pow_left (by omega) n
    have h2 : 3 ^ n ≤ 3 ^ 5 := Nat.pow_le_pow_right (by decide) (by omega)
    exact Nat.le_trans h1 (Nat.le_trans h2 (by decide))
  · rw [if_neg e] at h
    have h1 : m ^ n ≤ 4 ^ n := Nat.pow_le_pow_left m4 n
    have h2 : 4 ^ n ≤ 4 ^ 4 := Nat.pow_le_pow_right (by decide) (by omega)
    exact Nat.le_trans h1 (Nat.le_trans h2 (by decide))
def NL : List Str := ["_law_script", "_law_row", "_law_values_here", "_law_many", "_law_length", "_law_letter", "_law_worths", "_law_slate", "_law_rows", "_law_word_here", "_law_here", "_law_best", "_law_due", "_law_some", "_law_told"]
section
variable {P : Program} {w : World} {K : PySem.W.Frag} {mg : Str → Option Value} {base : Heap} {f : Addr} {fd : FuncData}
def spLaw (K : PySem.W.Frag) : Sp := fun vs H Q _ => ∃ (a : Addr) (ns : List Int), vs = [.ref a] ∧ SqL K H a (ns.map V.int) ∧ ∀ H', Q (.bl true) H'
theorem ok_law (F : FnP K "law" sLaw f fd) (M : Mg mg) (CT : Fk P w K mg base 1 "_law_taken" ["_law_row", "_law_many"] (spTaken K)) (CV : Fk P w K mg base 2 "_law_values" ["_law_row", "_law_most", "_law_top"] (spLValues K)) (CW : Fk P w K mg base 2 "_law_word" ["_law_row", "_law_many", "_law_most"] (spLWord K))
    (CS : Fk P w K mg base 2 "_law_slates" ["_law_values_here", "_law_slate"] (spLSlates P w)) (CO : Fk P w K mg base 1 "_law_words" ["_law_many", "_law_length"] spLWords) (CR : Fk P w K mg base 1 "_law_write" ["_law_values_here", "_law_slate", "_law_word_here"] spWrite)
    (CA1 : Fk P w K mg base 2 "_law_alike" ["_law_found", "_law_due"] (spAlike 1)) (CA2 : Fk P w K mg base 3 "_law_alike" ["_law_found", "_law_due"] (spAlike 2)) (CX : Fk P w K mg base 5 "richest" ["values", "worths", "slate", "length"] spRichest) (CY : Fk P w K mg base 5 "copies" ["values", "slate", "letter", "length"] spCopies) : FnOk P w K mg base CX0 6 f fd ["_law_script"] (spLaw K) := by
  refine go F scLaw (fun vs H Q E h => ?_) (fun cdv A outer s H vs Q E hr h => ?_)
  · obtain ⟨a, ns, rfl, _⟩ := h
    rfl
  · obtain ⟨sc, cs, rfl, hs, q⟩ := h
    have hu := hu_of hr
    have r1 := hr.mono (by decide : 1 ≤ 5)
    have r2 := hr.mono (by decide : 2 ≤ 5)
    have r3 := hr.mono (by decide : 3 ≤ 5)
    refine ⟨_, pss_cons (ps_set (i := 1) scLaw.nd rfl (.inr rfl) (pe_lst (pa_cons (pv 0) (pa_cons pe_int (pa_cons pe_int (pa_cons pe_int pa_nil))))))
      (pss_cons (ps_set (i := 2) scLaw.nd rfl (.inl rfl) (pe_c CV r2 (by rfl) (pa_cons (pv 1) (pa_cons pe_int (pa_cons pe_int pa_nil)))))
      (pss_cons (ps_set (i := 3) scLaw.nd rfl (.inl rfl) (pe_callB call_len (by rfl) M.n_len b_len (pa_cons (pv 2) pa_nil)))
      (pss_cons (ps_set (i := 4) scLaw.nd rfl (.inl rfl) (pe_c CT r1 (by rfl) (pa_cons (pv 1) (pa_cons (pe_join (pe_ifExp (pt_cmpR op_lt (pv 3) pe_int (nomark _)) pe_int pe_int)) pa_nil))))
      (pss_cons (ps_set (i := 6) scLaw.nd rfl (.inr rfl) (pe_callTy call_tupP (by rfl) M.n_tuple b_tuple (pa_cons (pe_lc (own := [("_law_letter", 5)]) (g := gName 5) (tt := tYes) (by rfl) scLaw.nd (pi_tup (pv 2))
        (blkOk_by (own := [("_law_letter", 5)]) (N := NL) (sc := defScope sLaw) (by decide +kernel)) (fun _ _ _ _ _ => pg_name (i := 5) scLaw.nd rfl (Or.inl rfl)) (fun _ _ _ _ _ => pts_nil)
        (fun _ _ _ _ _ => pe_join (pe_ifExp (pt_cmpR op_eq (pe_c CT r1 (by rfl) (pa_cons (pv 1) (pa_cons pe_int pa_nil))) pe_int (nomark _))
          (pe_op op_sub (pe_c CT r1 (by rfl) (pa_cons (pv 1) (pa_cons pe_int pa_nil))) pe_int) (pe_op op_sub (pe_c CT r1 (by rfl) (pa_cons (pv 1) (pa_cons pe_int pa_nil))) pe_int)))) pa_nil)))
      (pss_cons (ps_par (i := 7) (j := 5) (by rfl) scLaw.nd rfl rfl (by decide) rfl rfl (pa_cons (pe_c CW r2 (by rfl) (pa_cons (pv 1) (pa_cons (pv 3) (pa_cons pe_int pa_nil)))) (pa_cons (pe_c CT r1 (by rfl) (pa_cons (pv 1) (pa_cons (pv 3) pa_nil))) pa_nil)) (by rfl))
      (pss_cons (ps_if (pt_cmpR op_gt (pe_callB call_xlen (by rfl) M.n_len b_len (pa_cons (pe_c CS r2 (by rfl) (pa_cons (pv 2) (pa_cons (pv 7) pa_nil))) pa_nil)) pe_int (nomark _)) (pss_one (ps_ret pe_bl)) pss_nil)
      (pss_cons (ps_set (i := 8) scLaw.nd rfl (.inl rfl) (pe_lst pa_nil))
      (pss_cons (ps_for PassesOwn.never rfl (pi_list (pe_c CO r1 (by rfl) (pa_cons (pv 3) (pa_cons (pv 4) pa_nil)))) (pg_name (i := 9) scLaw.nd rfl (.inl rfl))
        (pss_cons (ps_set (i := 10) scLaw.nd rfl (.inl rfl) (pe_c CR r1 (by rfl) (pa_cons (pv 2) (pa_cons (pv 7) (pa_cons (pv 9) pa_nil)))))
        (pss_one (ps_expr (pe_bm PySem.F.plainAttrs_list PySem.F.slot_list_append PySem.F.type_list_append mt_append (pv 8) (pa_cons (pe_tup
          (pa_cons (pe_callB (cr_sum rfl) (by rfl) M.n_sum b_sum (pa_cons (pe_lc (own := [("_law_told", 14)]) (g := gName 14) (tt := tYes) (by rfl) scLaw.nd (pi_tup (pv 10)) (blkOk_by (own := [("_law_told", 14)]) (N := NL) (sc := defScope sLaw) (by decide +kernel)) (fun _ _ _ _ _ => pg_name (i := 14) scLaw.nd rfl (Or.inl rfl)) (fun _ _ _ _ _ => pts_nil) (fun _ _ _ _ _ => pe_ix (r := rIxT K) ix_tup (pv 6) (pv 14) (fun _ _ => rfl))) pa_nil))
          (pa_cons (pe_bmT (r := rTC K) PySem.F.slot_tuple_count PySem.F.type_tuple_count mt_tc (pv 10) (pa_cons (pv 5) pa_nil)) (pa_cons (pv 9) pa_nil)))) pa_nil))))))
      (pss_cons (ps_set (i := 11) scLaw.nd rfl (.inr rfl) (pe_callB (cr_max rfl) (by rfl) M.n_max b_max (pa_cons (pe_lc (own := [("_law_told", 14)]) (g := gName 14) (tt := tYes) (by rfl) scLaw.nd (pi_list (pv 8)) (blkOk_by (own := [("_law_told", 14)]) (N := NL) (sc := defScope sLaw) (by decide +kernel)) (fun _ _ _ _ _ => pg_name (i := 14) scLaw.nd rfl (Or.inl rfl)) (fun _ _ _ _ _ => pts_nil) (fun _ _ _ _ _ => pe_ix (r := rIxT K) ix_tup (pv 14) pe_int (fun _ _ => rfl))) pa_nil)))
      (pss_cons (ps_set (i := 12) scLaw.nd rfl (.inl rfl) (pe_tup (pa_cons (pv 11) (pa_cons (pe_callB (cr_minW rfl hu) (by rfl) M.n_min b_min (pa_cons (pe_lc (own := [("_law_told", 14)]) (g := gName 14) (by rfl) scLaw.nd (pi_list (pv 8)) (blkOk_by (own := [("_law_told", 14)]) (N := NL) (sc := defScope sLaw) (by decide +kernel)) (fun _ _ _ _ _ => pg_name (i := 14) scLaw.nd rfl (Or.inl rfl)) (fun _ _ _ _ _ => pts_one (pt_cmpR op_eq (pe_ix (r := rIxT K) ix_tup (pv 14) pe_int (fun _ _ => rfl)) (pv 11) (nomark _))) (fun _ _ _ _ _ => pe_ix (r := rIxT K) ix_tup (pv 14) pe_int (fun _ _ => rfl))) pa_nil)) pa_nil))))
      (pss_cons (ps_if (pt_not (pt_val (pe_c CA2 r3 (by rfl) (pa_cons (pe_c CX hr (by rfl) (pa_cons (pv 2) (pa_cons (pv 6) (pa_cons (pv 7) (pa_cons (pv 4) pa_nil))))) (pa_cons (pv 12) pa_nil))))) (pss_one ps_never) pss_nil)
      (pss_cons (ps_setLc (i := 13) (own := [("_law_told", 14)]) (g := gName 14) (tt := tYes) (by rfl) scLaw.nd rfl rfl rfl (pi_list (pv 8)) (blkOk_by (own := [("_law_told", 14)]) (N := NL) (sc := defScope sLaw) (by decide +kernel)) (fun _ _ _ _ _ => pg_name (i := 14) scLaw.nd rfl (Or.inl rfl)) (fun _ _ _ _ _ => pts_nil) (fun _ _ _ _ _ => pe_ix (r := rIxT K) ix_tup (pv 14) pe_int (fun _ _ => rfl)))
      (pss_one (ps_ret (pe_c CA1 r2 (by rfl) (pa_cons (pe_c CY hr (by rfl) (pa_cons (pv 2) (pa_cons (pv 7) (pa_cons (pv 5) (pa_cons (pv 4) pa_nil))))) (pa_cons (pe_tup (pa_cons (pe_callB (cr_min rfl) (by rfl) M.n_min b_min (pa_cons (pv 13) pa_nil)) (pa_cons (pe_callB (cr_max rfl) (by rfl) M.n_max b_max (pa_cons (pv 13) pa_nil)) pa_nil))) pa_nil))))))))))))))))), ?_⟩
    -- row = [script, 0, 6661, 0]
    refine ⟨_, rfl, (by decide : 4 ≤ sizeLine), fun a na => ?_⟩
    have R0 : Rw K (upd H a (.lst [.ref sc, .int 0, .int 6661, .int 0])) a sc cs := ⟨0, 6661, 0, upd_same, by decide, by decide, by decide, sql_same hs (same_upd na)⟩
    generalize upd H a (.lst [.ref sc, .int 0, .int 6661, .int 0]) = H0 at R0
    -- values, many
    refine ⟨_, rfl, a, sc, cs, rfl, R0, fun H1 v m ns s1 R1 hv hvl m1 m4 => ?_⟩
    refine ⟨_, rfl, _, m, rfl, .inr ⟨_, hv.sq, by rw [len_map]; exact hvl.1.symm⟩, ?_⟩
    -- length
    refine ⟨_, rfl, (fun x H' => x = .int ((if m < 4 then 6 else 5 : Nat) : Int) ∧ H' = H1), ⟨_, rfl, _, _, rfl, rfl, _, rfl, ite2 (fun e => ⟨?_, rfl⟩) (fun e => ⟨?_, rfl⟩)⟩, fun x H' ⟨ex, eH⟩ => ?_⟩
    · have : ((m : Nat) : Int) < 4 := of_decide_eq_true e
      rw [if_pos (by omega)]
      rfl
    · have : ¬ ((m : Nat) : Int) < 4 := fun z => e (decide_eq_true z)
      rw [if_neg (by omega)]
      rfl
    subst ex eH
    refine ⟨a, sc, cs, _, rfl, by split <;> decide, by split <;> decide, R1, fun H2 n' s2 R2 n0 n1 => ?_⟩
    obtain ⟨n, en⟩ : ∃ n : Nat, n' = (n : Int) := ⟨n'.toNat, by omega⟩
    subst en
    have len256 : (wrds m n).length ≤ 256 := pow_256 m4 (by omega)
    have n30 : n ≤ 30 := by
      have : (if m < 4 then 6 else 5) ≤ 6 := by split <;> omega
      omega
    clear n1
    have hv2 := hv.rw R1 s2
    -- worths
    refine ⟨_, rfl, v, rfl, ⟨_, hv2.sq⟩, fun D nD => lc_tup (K := K) (a := v) (xs := ns.map V.int) (Dr K a sc cs D H2 (fun ws => ∀ x ∈ ws, -99 ≤ x ∧ x ≤ 99))
      (Dr.start R2 nD (fun _ z => by cases z)) (fun i H3 _ d => (hv2.rw R2 d.1).sq) (fun i x H3 hx d => ?_) (fun H3 d => ?_)⟩
    · have hi : i < ns.length := by
        have := (List.getElem?_eq_some_iff.mp hx).1
        rw [len_map] at this
        exact this
      have hm := hvl.1
      refine ⟨rfl, (fun x H' => ∃ y : Int, x = .int y ∧ -99 ≤ y ∧ y ≤ 99 ∧ SmA a H3 H' ∧ Rw K H' a sc cs), ⟨_, rfl, a, sc, cs, 3, rfl, by decide, by decide, d.2.1, fun H4 z s4 R4 z0 z1 => ⟨rfl, _, rfl, ite2 (fun _ => ?_) (fun _ => ?_)⟩⟩, fun x H' ⟨y, ex, y0, y1, s', R'⟩ => ?_⟩
      · exact ⟨_, rfl, a, sc, cs, 199, rfl, by decide, by decide, R4, fun H5 y s5 R5 y0 y1 => ⟨_, _, rfl, rfl, y - 99, rfl, by omega, by omega, s4.trans s5, R5⟩⟩
      · exact ⟨_, rfl, a, sc, cs, 7, rfl, by decide, by decide, R4, fun H5 y s5 R5 y0 y1 => ⟨_, _, rfl, rfl, y - 3, rfl, by omega, by omega, s4.trans s5, R5⟩⟩
      · subst ex
        refine d.step R2 nD s' R' (by omega) fun ws _ h v hv => ?_
        rcases List.mem_append.mp hv with q | q
        · exact h v q
        · rw [List.mem_singleton.mp q]
          exact ⟨y0, y1⟩
    · obtain ⟨sm3, R3, ws, lw, hwb, eD⟩ := d
      rw [len_map, hvl.1] at lw
      refine ⟨D, ws, rfl, SqL.of eD, fun wa H4 _ s4 hwa => ?_⟩
      have R4 := R3.same s4
      have hv4 := (hv2.rw R2 sm3).same s4
      -- slate, letter
      refine ⟨_, rfl, _, rfl, a, sc, cs, m, rfl, m1, m4, R4, fun H5 sa sl s5 R5 hsl hSl => ⟨_, rfl, _, rfl, a, sc, cs, (m : Int), rfl, by omega, by omega, R5, fun H6 l s6 R6 l0 l1 => ⟨_, _, rfl, ?_⟩⟩⟩
      have hlm : l ∈ lts m := mem_lts.mpr ⟨l0, l1⟩
      have hv6 := (hv4.rw R4 s5).rw R5 s6
      have hwa6 := (hwa.rw R4 s5).rw R5 s6
      have hsl6 := hsl.rw R5 s6
      clear s1 R1 hv R2 hv2 eD sm3 R3 s4 R4 hv4 s5 R5 s6 R6 s2 R0
      -- if len(slates) > 300
      refine ⟨_, rfl, _, rfl, v, sa, ns, sl, m, rfl, hv6, hvl, m4, hsl6, hSl, fun H7 d Dd s7 dw dl => ⟨d, Dd, rfl, dw.r, by omega, _, _, rfl, rfl, _, rfl, ite2 (fun _ => q H7) (fun _ => ?_)⟩⟩
      have hv7 := hv6.same s7
      have hwa7 := hwa6.same s7
      have hsl7 := hsl6.same s7
      -- rows = []
      refine ⟨Nat.zero_le _, fun rl nrl => ?_⟩
      have s8 : Same H7 (upd H7 rl (.lst [])) := same_upd nrl
      have e8 : (upd H7 rl (.lst [])) rl = some (.lst []) := upd_same
      generalize upd H7 rl (.lst []) = H8 at s8 e8
      -- for word in words
      refine ⟨_, rfl, _, rfl, m, n, rfl, m1, m4, n30, len256, fun H9 wl s9 W9 => ?_⟩
      have e9 := s9 _ _ e8
      have hv9 := (hv7.same s8).same s9
      have hwa9 := (hwa7.same s8).same s9
      have hsl9 := (hsl7.same s8).same s9
      obtain ⟨as, ew, pw⟩ := W9
      have hne : 0 < (wrds m n).length := wrds_ne m1 n
      have wr : wl ≠ rl := fun z => by
        rw [z, e9] at ew
        cases as with
        | nil =>
          have := pw.length
          simp only [List.length_nil] at this
          omega
        | cons _ _ => cases ew
      clear hv7 hwa7 hsl7 hv6 hwa6 hsl6 s7 dw
      refine ⟨wl, rfl, ⟨_, SqL.of ew⟩, for_list (K := K) (a := wl) (xs := as.map V.ref) (fun i σ H10 => ∃ (x9 x10 : Option V), σ = [some (.ref sc), some (.ref a), some (.ref v), some (.int (m : Nat)), some (.int (n : Nat)), some (.int l), some (.ref wa), some (.ref sa), some (.ref rl), x9, x10, none, none, none, none] ∧ SmA rl H9 H10 ∧ Rows (fun u => wsum ws (run ns sl u)) (fun u => (((run ns sl u).count l : Nat) : Int)) H10 rl ((wrds m n).take i))
        ⟨_, _, rfl, SmA.refl, [], e9, .nil⟩ (fun i σ H10 _ ⟨_, _, _, s10, _⟩ => SqL.of (s10 _ _ wr ew)) (fun i x σ H10 hx ⟨x9, x10, es, s10, Rw10⟩ => ?_) (fun σ H10 ⟨x9, x10, es, s10, Rw10⟩ => ?_)⟩
      · subst es
        rw [List.getElem?_map] at hx
        obtain ⟨aw, h1, rfl⟩ := Option.map_eq_some_iff.mp hx
        obtain ⟨wd, h2, tw⟩ := paired_get pw h1
        have hwm := List.mem_of_getElem? h2
        have nt := lst_tup e9
        -- here = write(values, slate, word)
        refine ⟨_, rfl, _, rfl, _, rfl, v, sa, aw, ns, sl, wd, m, rfl, hv9.sma (nt _ _ hv9) s10, hvl, hsl9.sma (nt _ _ hsl9) s10, hSl, tw.sma (nt _ _ tw) s10, wrds_lts hwm, fun H11 p s11 hp => ?_⟩
        have hSp : Sl m (run ns sl wd) := run_sl hvl hSl (wrds_lts hwm)
        have Rw11 := Rw10.same s11
        obtain ⟨ps0, ers0, _⟩ := id Rw11
        refine ⟨_, rfl, .inl ⟨rfl, _, SqL.of ers0⟩, _, rfl, p, rfl, ⟨_, hp.sq⟩, fun D nD => lc_tup (K := K) (a := p) (xs := (run ns sl wd).map V.int) (fun j H12 => Same H11 H12 ∧ H12 D = some (.lst ((((run ns sl wd).take j).map fun l => ws.getD l.toNat 0).map V.int)))
          ⟨same_upd nD, upd_same⟩ (fun j H12 _ ⟨s12, _⟩ => (hp.same s12).sq) (fun j x H12 hx ⟨s12, e12⟩ => ?_) (fun H12 ⟨s12, e12⟩ => ?_)⟩
        · obtain ⟨y, g1, rfl, gm⟩ := get_map hx
          obtain ⟨y0, y1⟩ := mem_lts.mp (hSp.2 y gm)
          have gi := (List.getElem?_eq_some_iff.mp g1).1
          have h5 := hSp.1
          have gw : ws[y.toNat]? = some (ws.getD y.toNat 0) := by
            have : y.toNat < ws.length := by omega
            rw [List.getD_eq_getElem?_getD, List.getElem?_eq_getElem this]
            rfl
          have hwa12 := ((hwa9.sma (nt _ _ hwa9) s10).same s11).same s12
          refine ⟨rfl, _, rfl, _, rfl, wa, _, y, _, rfl, rfl, hwa12.sq, atI_int y0 gw, _, e12, lt_line (by rw [len_map, List.length_map, List.length_take]; omega), sm_upd s12 nD, ?_⟩
          rw [upd_same, List.take_add_one, g1, List.map_append, List.map_append]
          rfl
        · refine ⟨D, _, rfl, SqL.of e12, ?_⟩
          have e2 : (run ns sl wd).take ((run ns sl wd).map V.int).length = run ns sl wd := by rw [len_map]; exact List.take_length
          rw [e2]
          have hp12 := hp.same s12
          refine ⟨_, rfl, ⟨_, _, rfl, hp12⟩, _, rfl, p, run ns sl wd, l, rfl, rfl, hp12.sq, _, rfl, (by decide : 3 ≤ sizeLine), fun r nr => ?_⟩
          have sr : Same H12 (upd H12 r (.tup [.int (wsum ws (run ns sl wd)), .int (((run ns sl wd).count l : Nat) : Int), .ref aw])) := same_upd nr
          have er : (upd H12 r (.tup [.int (wsum ws (run ns sl wd)), .int (((run ns sl wd).count l : Nat) : Int), .ref aw])) r = some (.tup [.int (wsum ws (run ns sl wd)), .int (((run ns sl wd).count l : Nat) : Int), .ref aw]) := upd_same
          have taw := (((tw.sma (nt _ _ tw) s10).same s11).same s12).same sr
          obtain ⟨ps, ers, lps, fin⟩ := ((Rw11.same s12).same sr).snoc (p := r) (u := wd) ⟨aw, er, taw⟩
          have hi := (List.getElem?_eq_some_iff.mp h2).1
          refine ⟨rl, _, _, rfl, rfl, ers, lt_line (by rw [List.length_map, lps, List.length_take]; omega), _, _, rfl, (((s10.same s11).same s12).same sr).upd, ?_⟩
          rw [List.take_add_one, h2]
          exact fin
      · subst es
        have eU : (wrds m n).take (as.map V.ref).length = wrds m n := by rw [List.length_map, pw.length]; exact List.take_length
        rw [eU] at Rw10
        have nt := lst_tup e9
        have hv10 := hv9.sma (nt _ _ hv9) s10
        have hwa10 := hwa9.sma (nt _ _ hwa9) s10
        have hsl10 := hsl9.sma (nt _ _ hsl9) s10
        generalize hU : wrds m n = U at Rw10 hne len256
        clear ew pw wr e9 hv9 hwa9 hsl9 s10 nt e8 s8 s9
        obtain ⟨ps, ers, prs⟩ := Rw10
        have lps : ps.length = U.length := prs.length
        -- best = max([told[0] for told in rows])
        refine ⟨_, rfl, rl, rfl, ⟨_, SqL.of ers⟩, fun D1 nD1 => lc_list (K := K) (a := rl) (xs := ps.map V.ref) (fun i H11 => Same H10 H11 ∧ H11 D1 = some (.lst (((U.take i).map fun u => wsum ws (run ns sl u)).map V.int)))
          ⟨same_upd nD1, upd_same⟩ (fun i H11 _ ⟨s11, _⟩ => SqL.of (s11 _ _ ers)) (fun i x H11 hx ⟨s11, e11⟩ => ?_) (fun H11 ⟨s11, e11⟩ => ?_)⟩
        · rw [List.getElem?_map] at hx
          obtain ⟨p, g1, rfl⟩ := Option.map_eq_some_iff.mp hx
          obtain ⟨u, g2, qa, ea, ta⟩ := paired_get prs g1
          have hi := (List.getElem?_eq_some_iff.mp g2).1
          refine ⟨rfl, _, rfl, p, _, 0, _, rfl, rfl, SqT.of (s11 _ _ ea), atI_nat (j := 0) rfl, _, e11, lt_line (by rw [len_map, List.length_map, List.length_take]; omega), sm_upd s11 nD1, ?_⟩
          rw [upd_same, List.take_add_one, g2, List.map_append, List.map_append]
          rfl
        · have eT : U.take (ps.map V.ref).length = U := by rw [List.length_map, lps]; exact List.take_length
          rw [eT] at e11
          refine ⟨D1, _, rfl, SqL.of e11, by rw [List.length_map]; exact hne, fun best hb hle => ?_⟩
          obtain ⟨vb, hvb, ebest⟩ := List.mem_map.mp hb
          have ers1 := s11 _ _ ers
          have prs1 := Paired.mapP prs fun _ _ t => RowAt.same t s11
          -- due = (best, min([told[2] for told in rows if told[0] == best]))
          refine ⟨_, rfl, _, rfl, rl, rfl, ⟨_, SqL.of ers1⟩, fun D2 nD2 => lc_list (K := K) (a := rl) (xs := ps.map V.ref) (fun i H12 => Same H11 H12 ∧ LW H12 D2 ((U.take i).filter fun u => decide (wsum ws (run ns sl u) = best)))
            ⟨same_upd nD2, LW.nil⟩ (fun i H12 _ ⟨s12, _⟩ => SqL.of (s12 _ _ ers1)) (fun i x H12 hx ⟨s12, e12⟩ => ?_) (fun H12 ⟨s12, e12⟩ => ?_)⟩
          · rw [List.getElem?_map] at hx
            obtain ⟨p, g1, rfl⟩ := Option.map_eq_some_iff.mp hx
            obtain ⟨u, g2, qa, ea, ta⟩ := paired_get prs1 g1
            have hi := (List.getElem?_eq_some_iff.mp g2).1
            refine ⟨rfl, _, rfl, p, _, 0, _, rfl, rfl, SqT.of (s12 _ _ ea), atI_nat (j := 0) rfl, _, rfl, rfl, _, rfl, ite2 (fun e => ?_) (fun e => ?_)⟩
            · have eb : wsum ws (run ns sl u) = best := V.int.inj (of_decide_eq_true e)
              obtain ⟨as2, ea2, la2, fin⟩ := e12.snoc (ta.same s12)
              refine ⟨_, rfl, p, _, 2, _, rfl, rfl, SqT.of (s12 _ _ ea), atI_nat (j := 2) rfl, _, ea2, lt_line (by
                rw [List.length_map, la2]
                have := List.length_filter_le (fun u => decide (wsum ws (run ns sl u) = best)) (U.take i)
                rw [List.length_take] at this
                omega), sm_upd s12 nD2, ?_⟩
              rw [filter_take g2, if_pos (decide_eq_true eb)]
              exact fin
            · have eb : ¬ wsum ws (run ns sl u) = best := fun z => e (decide_eq_true (congrArg V.int z))
              refine ⟨s12, ?_⟩
              rw [filter_take g2, if_neg (fun z => eb (of_decide_eq_true z)), List.append_nil]
              exact e12
          · rw [eT] at e12
            obtain ⟨as2, ea2, pa2⟩ := e12
            have memf : vb ∈ U.filter fun u => decide (wsum ws (run ns sl u) = best) := List.mem_filter.mpr ⟨hvb, decide_eq_true ebest⟩
            refine ⟨D2, _, _, rfl, SqL.of ea2, by rw [List.length_map, pa2.length]; exact List.length_pos_of_mem memf, paired_map (fun q u t => ⟨q, rfl, TupI.sq t⟩) pa2, fun k v2 u hv2 hu2 hmin => ?_⟩
            rw [List.getElem?_map] at hv2
            obtain ⟨qa, g1, rfl⟩ := Option.map_eq_some_iff.mp hv2
            obtain ⟨u', g2, tq⟩ := paired_get pa2 g1
            rw [hu2] at g2
            cases g2
            obtain ⟨huU, hub⟩ := List.mem_filter.mp (List.mem_of_getElem? hu2)
            have hub := of_decide_eq_true hub
            refine ⟨(by decide : 2 ≤ sizeLine), fun du ndu => ?_⟩
            have s13 : Same H12 (upd H12 du (.tup [.int best, .ref qa])) := same_upd ndu
            have e13 : (upd H12 du (.tup [.int best, .ref qa])) du = some (.tup [.int best, .ref qa]) := upd_same
            generalize upd H12 du (.tup [.int best, .ref qa]) = H13 at s13 e13
            have sA := (s11.trans s12).trans s13
            -- richest
            refine ⟨_, rfl, _, rfl, _, rfl, _, rfl, v, wa, sa, ns, ws, sl, n, m, rfl, hv10.same sA, hvl, m1, m4, hwa10.same sA, lw, hwb, hsl10.same sA, hSl, n30, fun H14 p b D e0 s14 T ra tb ep => ?_⟩
            obtain ⟨r1', r2'⟩ := ra
            obtain ⟨w1, w2⟩ := rich T (fun x => wsum ws x) r1' r2' (by rw [hU]; exact hvb) ebest (fun x hx => hle _ (List.mem_map.mpr ⟨x, by rw [← hU]; exact hx, rfl⟩)) (by rw [hU]; exact huU) hub
              (fun x hx ex => hmin x (List.mem_filter.mpr ⟨by rw [← hU]; exact hx, decide_eq_true ex⟩))
            refine ⟨_, rfl, _, _, rfl, .inr ⟨p, du, _, _, rfl, rfl, .inl ep, .inl (s14 _ _ e13), rfl, (by decide : 2 ≤ 1000), fun i x y gx gy => ?_⟩, fun H15 s15 => ⟨true, rfl, iteF ?_⟩⟩
            · match i, gx, gy with
              | 0, gx, gy =>
                cases gx
                cases gy
                exact .inl ⟨best, congrArg V.int w1, rfl⟩
              | 1, gx, gy =>
                cases gx
                cases gy
                rw [w2] at tb
                refine .inr ⟨b, qa, _, _, rfl, rfl, tb.tr, ((tq.same s13).same s14).tr, rfl, ?_, fun i x y gx gy => ?_⟩
                · rw [len_map, wrds_len (m := m) (k := n) (by rw [hU]; exact huU)]
                  omega
                · rw [gx] at gy
                  cases gy
                  obtain ⟨z, _, ez, _⟩ := get_map gx
                  exact ⟨z, ez, ez⟩
              | k + 2, gx, _ => cases gx
            · have sB := (sA.trans s14).trans s15
              have ers2 := sB _ _ ers
              have prs2 := Paired.mapP prs fun _ _ t => RowAt.same t sB
              -- some = [told[1] for told in rows]
              refine ⟨_, rfl, rl, rfl, ⟨_, SqL.of ers2⟩, fun D3 nD3 => lc_list (K := K) (a := rl) (xs := ps.map V.ref) (fun i H16 => Same H15 H16 ∧ H16 D3 = some (.lst (((U.take i).map fun u => (((run ns sl u).count l : Nat) : Int)).map V.int)))
                ⟨same_upd nD3, upd_same⟩ (fun i H16 _ ⟨s16, _⟩ => SqL.of (s16 _ _ ers2)) (fun i x H16 hx ⟨s16, e16⟩ => ?_) (fun H16 ⟨s16, e16⟩ => ?_)⟩
              · rw [List.getElem?_map] at hx
                obtain ⟨p, g1, rfl⟩ := Option.map_eq_some_iff.mp hx
                obtain ⟨u, g2, qa, ea, ta⟩ := paired_get prs2 g1
                have hi := (List.getElem?_eq_some_iff.mp g2).1
                refine ⟨rfl, _, rfl, p, _, 1, _, rfl, rfl, SqT.of (s16 _ _ ea), atI_nat (j := 1) rfl, _, e16, lt_line (by rw [len_map, List.length_map, List.length_take]; omega), sm_upd s16 nD3, ?_⟩
                rw [upd_same, List.take_add_one, g2, List.map_append, List.map_append]
                rfl
              · rw [eT] at e16
                have sC := sB.trans s16
                -- copies
                refine ⟨_, rfl, _, rfl, _, rfl, _, rfl, v, sa, ns, sl, l, n, m, rfl, hv10.same sC, hvl, m1, m4, hsl10.same sC, hSl, hlm, n30, fun H17 p2 D' a1 b1 s17 T' ha1 la1 hb1 lb1 ep2 => ?_⟩
                refine ⟨_, rfl, D3, _, rfl, SqL.of (s17 _ _ e16), by rw [List.length_map]; exact hne, fun a2 ha2 la2 => ?_⟩
                refine ⟨_, rfl, D3, _, rfl, SqL.of (s17 _ _ e16), by rw [List.length_map]; exact hne, fun b2 hb2 lb2 => ?_⟩
                rw [← hU] at ha2 la2 hb2 lb2
                have ea := min_eq T' (fun x => ((x.count l : Nat) : Int)) ha1 ha2 la1 la2
                have eb := max_eq T' (fun x => ((x.count l : Nat) : Int)) hb1 hb2 lb1 lb2
                refine ⟨(by decide : 2 ≤ sizeLine), fun z nz => ?_⟩
                refine ⟨_, _, rfl, .inr ⟨p2, z, _, _, rfl, rfl, .inl (same_upd nz _ _ ep2), .inl upd_same, rfl, (by decide : 2 ≤ 1000), fun i x y gx gy => ?_⟩, fun H18 _ => q H18⟩
                match i, gx, gy with
                | 0, gx, gy =>
                  cases gx
                  cases gy
                  exact ⟨a2, congrArg V.int ea, rfl⟩
                | 1, gx, gy =>
                  cases gx
                  cases gy
                  exact ⟨b2, congrArg V.int eb, rfl⟩
                | k + 2, gx, _ => cases gx
end
end Fw

set_option Elab.async false
set_option linter.all false
set_option maxRecDepth 100000
set_option maxHeartbeats 0
/-! FwHead: the head, facts by names, the run (printed by gen_text.py). -/
namespace Fw
open PySem PySem.Spec PyProof.Rows L2
def dWhole : He.DefD := ⟨("whole", none), "whole", "whole", defArgs sWhole, defBody sWhole, defScope sWhole, [], []⟩
def dWithin : He.DefD := ⟨("within", none), "within", "within", defArgs sWithin, defBody sWithin, defScope sWithin, [], []⟩
def dNeedNumber : He.DefD := ⟨("need_number", none), "need_number", "need_number", defArgs sNeedNumber, defBody sNeedNumber, defScope sNeedNumber, [], []⟩
def dTupleOf : He.DefD := ⟨("tuple_of", none), "tuple_of", "tuple_of", defArgs sTupleOf, defBody sTupleOf, defScope sTupleOf, [], []⟩
def dNeedValues : He.DefD := ⟨("need_values", none), "need_values", "need_values", defArgs sNeedValues, defBody sNeedValues, defScope sNeedValues, [], []⟩
def dWrongLetter : He.DefD := ⟨("wrong_letter", none), "wrong_letter", "wrong_letter", defArgs sWrongLetter, defBody sWrongLetter, defScope sWrongLetter, [], []⟩
def dNeedSlate : He.DefD := ⟨("need_slate", none), "need_slate", "need_slate", defArgs sNeedSlate, defBody sNeedSlate, defScope sNeedSlate, [], []⟩
def dNeedLetter : He.DefD := ⟨("need_letter", none), "need_letter", "need_letter", defArgs sNeedLetter, defBody sNeedLetter, defScope sNeedLetter, [], []⟩
def dStepped : He.DefD := ⟨("stepped", none), "stepped", "stepped", defArgs sStepped, defBody sStepped, defScope sStepped, [], []⟩
def dSpread : He.DefD := ⟨("spread", none), "spread", "spread", defArgs sSpread, defBody sSpread, defScope sSpread, [], []⟩
def dSpreadTo : He.DefD := ⟨("spread_to", none), "spread_to", "spread_to", defArgs sSpreadTo, defBody sSpreadTo, defScope sSpreadTo, [], []⟩
def dNeedWorths : He.DefD := ⟨("need_worths", none), "need_worths", "need_worths", defArgs sNeedWorths, defBody sNeedWorths, defScope sNeedWorths, [], []⟩
def dWorthOf : He.DefD := ⟨("worth_of", none), "worth_of", "worth_of", defArgs sWorthOf, defBody sWorthOf, defScope sWorthOf, [], []⟩
def dWordsOf : He.DefD := ⟨("words_of_length", none), "words_of_length", "words_of_length", defArgs sWordsOf, defBody sWordsOf, defScope sWordsOf, [], []⟩
def dRichest : He.DefD := ⟨("richest", none), "richest", "richest", defArgs sRichest, defBody sRichest, defScope sRichest, [], []⟩
def dCopies : He.DefD := ⟨("copies", none), "copies", "copies", defArgs sCopies, defBody sCopies, defScope sCopies, [], []⟩
def dTaken : He.DefD := ⟨("_law_taken", none), "_law_taken", "_law_taken", defArgs sTaken, defBody sTaken, defScope sTaken, [], []⟩
def dLValues : He.DefD := ⟨("_law_values", none), "_law_values", "_law_values", defArgs sLValues, defBody sLValues, defScope sLValues, [], []⟩
def dLWord : He.DefD := ⟨("_law_word", none), "_law_word", "_law_word", defArgs sLWord, defBody sLWord, defScope sLWord, [], []⟩
def dLWrite : He.DefD := ⟨("_law_write", none), "_law_write", "_law_write", defArgs sLWrite, defBody sLWrite, defScope sLWrite, [], []⟩
def dLSlates : He.DefD := ⟨("_law_slates", none), "_law_slates", "_law_slates", defArgs sLSlates, defBody sLSlates, defScope sLSlates, [], []⟩
def dLWords : He.DefD := ⟨("_law_words", none), "_law_words", "_law_words", defArgs sLWords, defBody sLWords, defScope sLWords, [], []⟩
def dAlike : He.DefD := ⟨("_law_alike", none), "_law_alike", "_law_alike", defArgs sAlike, defBody sAlike, defScope sAlike, [], []⟩
def dLaw : He.DefD := ⟨("law", none), "law", "law", defArgs sLaw, defBody sLaw, defScope sLaw, [], []⟩
def fn : List He.DefD := [dWhole, dWithin, dNeedNumber, dTupleOf, dNeedValues, dWrongLetter, dNeedSlate, dNeedLetter, dStepped, dSpread, dSpreadTo, dNeedWorths, dWorthOf, dWordsOf, dRichest, dCopies, dTaken, dLValues, dLWord, dLWrite, dLSlates, dLWords, dAlike, dLaw]
def fa : List He.Fa := [.glo "whole", .glo "within", .glo "need_number", .glo "tuple_of", .glo "need_values", .glo "wrong_letter", .glo "need_slate", .glo "need_letter", .glo "stepped", .glo "spread", .glo "spread_to", .glo "need_worths", .glo "worth_of", .glo "words_of_length", .glo "richest", .glo "copies", .glo "_law_taken", .glo "_law_values", .glo "_law_word", .glo "_law_write", .glo "_law_slates", .glo "_law_words", .glo "_law_alike", .glo "law", .free "isinstance", .free "int", .free "bool", .free "tuple", .free "len", .free "all", .free "enumerate", .free "range", .free "sum", .free "min", .free "max", .free "list", .free "str", .int "MOST_LETTERS" 5, .int "MOST_VALUE" 6, .int "MOST_SLATE" 12, .int "MOST_SLATES" 2000]
abbrev R : PySem.W.OpenRow := PySem.W.OpenLaw.row PySem.Challenge.rw_fadewords_k61_whole_riches
abbrev hk : PySem.W.Hook := He.hookD 4 fa fn
def ob (s : PySem.W.SharedT) : He.AlD := He.obsDG 4 fa fn (HandSHeadRun.getT s)
theorem ob_eq (s : PySem.W.SharedT) : ob s = hk.obs s.abs := He.obsDG_eq (HandSHeadRun.getT_eq s)
def loose1 : List Str := ["FadeError", "BadValues", "BadSlate", "BadLetter", "BadNumber", "TooMany", "BadWorths", "MOST_LETTERS", "MOST_VALUE", "MOST_SLATE", "MOST_SLATES", "whole", "within", "need_number", "tuple_of", "need_values", "wrong_letter"]
def loose2 : List Str := ["need_slate", "need_letter", "stepped", "spread", "spread_to", "need_worths", "worth_of", "words_of_length", "richest", "copies", "_law_taken", "_law_values", "_law_word", "_law_write", "_law_slates", "_law_words", "_law_alike"]
def loose : List Str := loose1 ++ loose2
theorem run_eq (w : World) : HandSHeadRun.RunEq R (PySem.W.view R.prog [40]) hk ob 2600 loose w := by
  intro os
  kernel_rfl
end Fw

set_option Elab.async false
set_option linter.all false
set_option autoImplicit false
set_option maxRecDepth 100000
set_option maxHeartbeats 0
/-! FwEnd: the defs by their names, the law's promise, the row (printed by gen_end.py). -/
namespace Fw
open PySem PySem.Spec PyProof.Rows L2
theorem facts {P : Program} {w : World} {K : PySem.W.Frag} {h : Heap} {mg : Str → Option Value} {f : Addr} (X : K.In h) (G : h.Ns mainGlobals mg) (hfa : mg ("law" : Str) = some (.ref f)) (c : He.SaysD fa fn K) :
    ∃ fd : FuncData, (∀ (s : Shared) (v : Value), BindsTo s fd ⟨[v], []⟩ [("_law_script", v)]) ∧ ∀ base : Heap, K.In base → base.Ns mainGlobals mg → FnOk P w K mg base CX0 6 f fd ["_law_script"] (spLaw K) := by
  have M : Mg mg := ⟨He.free_ok X G (c.fact 24 (f := .free "isinstance") rfl), He.free_ok X G (c.fact 25 (f := .free "int") rfl), He.free_ok X G (c.fact 26 (f := .free "bool") rfl), He.free_ok X G (c.fact 27 (f := .free "tuple") rfl), He.free_ok X G (c.fact 28 (f := .free "len") rfl), He.free_ok X G (c.fact 29 (f := .free "all") rfl), He.free_ok X G (c.fact 30 (f := .free "enumerate") rfl), He.free_ok X G (c.fact 31 (f := .free "range") rfl), He.free_ok X G (c.fact 32 (f := .free "sum") rfl), He.free_ok X G (c.fact 33 (f := .free "min") rfl), He.free_ok X G (c.fact 34 (f := .free "max") rfl), He.free_ok X G (c.fact 35 (f := .free "list") rfl), He.free_ok X G (c.fact 36 (f := .free "str") rfl), He.int_ok X G (c.fact 37 (f := .int "MOST_LETTERS" 5) rfl), He.int_ok X G (c.fact 38 (f := .int "MOST_VALUE" 6) rfl), He.int_ok X G (c.fact 39 (f := .int "MOST_SLATE" 12) rfl), He.int_ok X G (c.fact 40 (f := .int "MOST_SLATES" 2000) rfl)⟩
  obtain ⟨fd0, F0⟩ := c.def_ 0 (d := dWhole) rfl
  obtain ⟨fd1, F1⟩ := c.def_ 1 (d := dWithin) rfl
  obtain ⟨fd2, F2⟩ := c.def_ 2 (d := dNeedNumber) rfl
  obtain ⟨fd3, F3⟩ := c.def_ 3 (d := dTupleOf) rfl
  obtain ⟨fd4, F4⟩ := c.def_ 4 (d := dNeedValues) rfl
  obtain ⟨fd5, F5⟩ := c.def_ 5 (d := dWrongLetter) rfl
  obtain ⟨fd6, F6⟩ := c.def_ 6 (d := dNeedSlate) rfl
  obtain ⟨fd7, F7⟩ := c.def_ 7 (d := dNeedLetter) rfl
  obtain ⟨fd8, F8⟩ := c.def_ 8 (d := dStepped) rfl
  obtain ⟨fd9, F9⟩ := c.def_ 9 (d := dSpread) rfl
  obtain ⟨fd10, F10⟩ := c.def_ 10 (d := dSpreadTo) rfl
  obtain ⟨fd11, F11⟩ := c.def_ 11 (d := dNeedWorths) rfl
  obtain ⟨fd12, F12⟩ := c.def_ 12 (d := dWorthOf) rfl
  obtain ⟨fd13, F13⟩ := c.def_ 13 (d := dWordsOf) rfl
  obtain ⟨fd14, F14⟩ := c.def_ 14 (d := dRichest) rfl
  obtain ⟨fd15, F15⟩ := c.def_ 15 (d := dCopies) rfl
  obtain ⟨fd16, F16⟩ := c.def_ 16 (d := dTaken) rfl
  obtain ⟨fd17, F17⟩ := c.def_ 17 (d := dLValues) rfl
  obtain ⟨fd18, F18⟩ := c.def_ 18 (d := dLWord) rfl
  obtain ⟨fd19, F19⟩ := c.def_ 19 (d := dLWrite) rfl
  obtain ⟨fd20, F20⟩ := c.def_ 20 (d := dLSlates) rfl
  obtain ⟨fd21, F21⟩ := c.def_ 21 (d := dLWords) rfl
  obtain ⟨fd22, F22⟩ := c.def_ 22 (d := dAlike) rfl
  obtain ⟨fd23, F23⟩ := c.def_ 23 (d := dLaw) rfl
  have g0 := He.glo_ok X G (c.fact 0 (f := .glo "whole") rfl)
  have g1 := He.glo_ok X G (c.fact 1 (f := .glo "within") rfl)
  have g2 := He.glo_ok X G (c.fact 2 (f := .glo "need_number") rfl)
  have g3 := He.glo_ok X G (c.fact 3 (f := .glo "tuple_of") rfl)
  have g4 := He.glo_ok X G (c.fact 4 (f := .glo "need_values") rfl)
  have g5 := He.glo_ok X G (c.fact 5 (f := .glo "wrong_letter") rfl)
  have g6 := He.glo_ok X G (c.fact 6 (f := .glo "need_slate") rfl)
  have g7 := He.glo_ok X G (c.fact 7 (f := .glo "need_letter") rfl)
  have g8 := He.glo_ok X G (c.fact 8 (f := .glo "stepped") rfl)
  have g9 := He.glo_ok X G (c.fact 9 (f := .glo "spread") rfl)
  have g10 := He.glo_ok X G (c.fact 10 (f := .glo "spread_to") rfl)
  have g11 := He.glo_ok X G (c.fact 11 (f := .glo "need_worths") rfl)
  have g12 := He.glo_ok X G (c.fact 12 (f := .glo "worth_of") rfl)
  have g13 := He.glo_ok X G (c.fact 13 (f := .glo "words_of_length") rfl)
  have g14 := He.glo_ok X G (c.fact 14 (f := .glo "richest") rfl)
  have g15 := He.glo_ok X G (c.fact 15 (f := .glo "copies") rfl)
  have g16 := He.glo_ok X G (c.fact 16 (f := .glo "_law_taken") rfl)
  have g17 := He.glo_ok X G (c.fact 17 (f := .glo "_law_values") rfl)
  have g18 := He.glo_ok X G (c.fact 18 (f := .glo "_law_word") rfl)
  have g19 := He.glo_ok X G (c.fact 19 (f := .glo "_law_write") rfl)
  have g20 := He.glo_ok X G (c.fact 20 (f := .glo "_law_slates") rfl)
  have g21 := He.glo_ok X G (c.fact 21 (f := .glo "_law_words") rfl)
  have g22 := He.glo_ok X G (c.fact 22 (f := .glo "_law_alike") rfl)
  have b0 := F0.bindsN (ps := ["value"]) fun _ _ _ _ _ _ us hl => match us, hl with | [_], _ => rfl
  have b1 := F1.bindsN (ps := ["value", "low", "high"]) fun _ _ _ _ _ _ us hl => match us, hl with | [_, _, _], _ => rfl
  have b2 := F2.bindsN (ps := ["value", "low", "high"]) fun _ _ _ _ _ _ us hl => match us, hl with | [_, _, _], _ => rfl
  have b3 := F3.bindsN (ps := ["value", "low", "high"]) fun _ _ _ _ _ _ us hl => match us, hl with | [_, _, _], _ => rfl
  have b4 := F4.bindsN (ps := ["value"]) fun _ _ _ _ _ _ us hl => match us, hl with | [_], _ => rfl
  have b5 := F5.bindsN (ps := ["many", "value"]) fun _ _ _ _ _ _ us hl => match us, hl with | [_, _], _ => rfl
  have b6 := F6.bindsN (ps := ["values", "slate"]) fun _ _ _ _ _ _ us hl => match us, hl with | [_, _], _ => rfl
  have b7 := F7.bindsN (ps := ["values", "letter"]) fun _ _ _ _ _ _ us hl => match us, hl with | [_, _], _ => rfl
  have b8 := F8.bindsN (ps := ["values", "slate", "letter"]) fun _ _ _ _ _ _ us hl => match us, hl with | [_, _, _], _ => rfl
  have b9 := F9.bindsN (ps := ["values", "slate"]) fun _ _ _ _ _ _ us hl => match us, hl with | [_, _], _ => rfl
  have b10 := F10.bindsN (ps := ["values", "slate", "most"]) fun _ _ _ _ _ _ us hl => match us, hl with | [_, _, _], _ => rfl
  have b11 := F11.bindsN (ps := ["values", "worths"]) fun _ _ _ _ _ _ us hl => match us, hl with | [_, _], _ => rfl
  have b12 := F12.bindsN (ps := ["worths", "slate"]) fun _ _ _ _ _ _ us hl => match us, hl with | [_, _], _ => rfl
  have b13 := F13.bindsN (ps := ["values", "slate", "length"]) fun _ _ _ _ _ _ us hl => match us, hl with | [_, _, _], _ => rfl
  have b14 := F14.bindsN (ps := ["values", "worths", "slate", "length"]) fun _ _ _ _ _ _ us hl => match us, hl with | [_, _, _, _], _ => rfl
  have b15 := F15.bindsN (ps := ["values", "slate", "letter", "length"]) fun _ _ _ _ _ _ us hl => match us, hl with | [_, _, _, _], _ => rfl
  have b16 := F16.bindsN (ps := ["_law_row", "_law_many"]) fun _ _ _ _ _ _ us hl => match us, hl with | [_, _], _ => rfl
  have b17 := F17.bindsN (ps := ["_law_row", "_law_most", "_law_top"]) fun _ _ _ _ _ _ us hl => match us, hl with | [_, _, _], _ => rfl
  have b18 := F18.bindsN (ps := ["_law_row", "_law_many", "_law_most"]) fun _ _ _ _ _ _ us hl => match us, hl with | [_, _, _], _ => rfl
  have b19 := F19.bindsN (ps := ["_law_values_here", "_law_slate", "_law_word_here"]) fun _ _ _ _ _ _ us hl => match us, hl with | [_, _, _], _ => rfl
  have b20 := F20.bindsN (ps := ["_law_values_here", "_law_slate"]) fun _ _ _ _ _ _ us hl => match us, hl with | [_, _], _ => rfl
  have b21 := F21.bindsN (ps := ["_law_many", "_law_length"]) fun _ _ _ _ _ _ us hl => match us, hl with | [_, _], _ => rfl
  have b22 := F22.bindsN (ps := ["_law_found", "_law_due"]) fun _ _ _ _ _ _ us hl => match us, hl with | [_, _], _ => rfl
  have e := hfa.symm.trans (He.glo_ok X G (c.fact 23 (f := .glo "law") rfl))
  cases e
  have b := FunD.bindsA (ps := ["_law_script"]) F23 fun _ _ _ _ _ _ us hl => match us, hl with | [_], _ => rfl
  refine ⟨fd23, fun s v => b s [v] rfl, fun base _ _ => ?_⟩
  have C0 : Fk P w K mg base 1 "whole" ["value"] spWhole := ⟨_, fd0, ok_whole F0 M, g0, F0.kp, b0⟩
  have C1 : Fk P w K mg base 2 "within" ["value", "low", "high"] spWithin := ⟨_, fd1, ok_within F1 M C0, g1, F1.kp, b1⟩
  have C2 : Fk P w K mg base 3 "need_number" ["value", "low", "high"] spNum := ⟨_, fd2, ok_needNumber F2 M C1, g2, F2.kp, b2⟩
  have C3 : Fk P w K mg base 1 "tuple_of" ["value", "low", "high"] spTupOf := ⟨_, fd3, ok_tupleOf F3 M, g3, F3.kp, b3⟩
  have C4 : Fk P w K mg base 3 "need_values" ["value"] spNeedValues := ⟨_, fd4, ok_needValues F4 M C3 C1, g4, F4.kp, b4⟩
  have C5 : Fk P w K mg base 3 "wrong_letter" ["many", "value"] spWrong := ⟨_, fd5, ok_wrong F5 M C1, g5, F5.kp, b5⟩
  have C6 : Fk P w K mg base 4 "need_slate" ["values", "slate"] spNeedSlate := ⟨_, fd6, ok_needSlate F6 M C3 C5, g6, F6.kp, b6⟩
  have C7 : Fk P w K mg base 3 "need_letter" ["values", "letter"] spNeedLetter := ⟨_, fd7, ok_needLetter F7 M C1, g7, F7.kp, b7⟩
  have C8 : Fk P w K mg base 1 "stepped" ["values", "slate", "letter"] spStepped := ⟨_, fd8, ok_stepped F8 M, g8, F8.kp, b8⟩
  have C10 : Fk P w K mg base 2 "spread_to" ["values", "slate", "most"] spSpreadTo := ⟨_, fd10, ok_spreadTo F10 M C8, g10, F10.kp, b10⟩
  have C9 : Fk P w K mg base 3 "spread" ["values", "slate"] spSpread := ⟨_, fd9, ok_spread F9 M C10, g9, F9.kp, b9⟩
  have C11 : Fk P w K mg base 3 "need_worths" ["values", "worths"] spNeedWorths := ⟨_, fd11, ok_needWorths F11 M C3 C1, g11, F11.kp, b11⟩
  have C12 : Fk P w K mg base 1 "worth_of" ["worths", "slate"] spWorth := ⟨_, fd12, ok_worth F12 M, g12, F12.kp, b12⟩
  have C13 : Fk P w K mg base 4 "words_of_length" ["values", "slate", "length"] (spWords P w) := ⟨_, fd13, ok_words F13 M C9 C8, g13, F13.kp, b13⟩
  have C14 : Fk P w K mg base 5 "richest" ["values", "worths", "slate", "length"] spRichest := ⟨_, fd14, ok_richest F14 M C4 C11 C6 C2 C13 C12, g14, F14.kp, b14⟩
  have C15 : Fk P w K mg base 5 "copies" ["values", "slate", "letter", "length"] spCopies := ⟨_, fd15, ok_copies F15 M C4 C6 C7 C2 C13, g15, F15.kp, b15⟩
  have C16 : Fk P w K mg base 1 "_law_taken" ["_law_row", "_law_many"] (spTaken K) := ⟨_, fd16, ok_taken F16 M, g16, F16.kp, b16⟩
  have C17 : Fk P w K mg base 2 "_law_values" ["_law_row", "_law_most", "_law_top"] (spLValues K) := ⟨_, fd17, ok_lvalues F17 M C16, g17, F17.kp, b17⟩
  have C18 : Fk P w K mg base 2 "_law_word" ["_law_row", "_law_many", "_law_most"] (spLWord K) := ⟨_, fd18, ok_lword F18 M C16, g18, F18.kp, b18⟩
  have C19 : Fk P w K mg base 1 "_law_write" ["_law_values_here", "_law_slate", "_law_word_here"] spWrite := ⟨_, fd19, ok_write F19 M, g19, F19.kp, b19⟩
  have C20 : Fk P w K mg base 2 "_law_slates" ["_law_values_here", "_law_slate"] (spLSlates P w) := ⟨_, fd20, ok_lslates F20 M C19, g20, F20.kp, b20⟩
  have C21 : Fk P w K mg base 1 "_law_words" ["_law_many", "_law_length"] spLWords := ⟨_, fd21, ok_lwords F21 M, g21, F21.kp, b21⟩
  have A0 : Fk P w K mg base 1 "_law_alike" ["_law_found", "_law_due"] (spAlike 0) := ⟨_, fd22, ok_alike0 F22 M, g22, F22.kp, b22⟩
  have A1 : Fk P w K mg base 2 "_law_alike" ["_law_found", "_law_due"] (spAlike 1) := ⟨_, fd22, ok_alikeS F22 M A0, g22, F22.kp, b22⟩
  have A2 : Fk P w K mg base 3 "_law_alike" ["_law_found", "_law_due"] (spAlike 2) := ⟨_, fd22, ok_alikeS F22 M A1, g22, F22.kp, b22⟩
  exact ok_law F23 M C16 C17 C18 C20 C21 C19 A1 A2 C14 C15
end Fw
open PySem PySem.W PySem.Calls PyProof.Rows
theorem PySem.Challenge.cw_fadewords_k61_whole_riches_holds : PySem.Challenge.rw_fadewords_k61_whole_riches.Holds := by
  w_on; o_law
  refine HandSHeadRun.head_any (r := OpenLaw.row PySem.Challenge.rw_fadewords_k61_whole_riches) (q := view (OpenLaw.row PySem.Challenge.rw_fadewords_k61_whole_riches).prog [40]) (H := Fw.hk) (ob := Fw.ob) (M := 2600) (loose := Fw.loose) (d := HandSHeadRun.topDef (OpenLaw.row PySem.Challenge.rw_fadewords_k61_whole_riches).prog 40) (kwd := []) Fw.ob_eq
    (by kernel_rfl) (fun s => by kernel_rfl) Fw.run_eq (by kernel_rfl) (by kernel_rfl) (by kernel_rfl) (by rfl) (by first | assumption | decide +kernel) (by decide +kernel) ⟨rfl, rfl, rfl, rfl, rfl, by decide +kernel⟩ ?hw ?hc
  case hw => w_witness2
  case hc =>
    refine L2.walk_ofE (l := PySem.Challenge.rw_fadewords_k61_whole_riches) (n := 63) (k := 6) (x := "_law_script") (CX := L2.CX0) rfl (by decide) (by kernel_rfl) ⟨rfl, by decide, by decide⟩ ?F (fun _ _ _ _ z => z)
    intro w mg fa h Y G hmg0
    obtain ⟨K, KX, c⟩ := Y
    have hmg : mg ("law" : PySem.Str) = some (.ref fa) := by
      have e : (HandSHeadRun.topDef (OpenLaw.row PySem.Challenge.rw_fadewords_k61_whole_riches).prog 40).name = ("law" : PySem.Str) := by kernel_rfl
      rw [← e]
      exact hmg0
    obtain ⟨fd, hb, hF⟩ := Fw.facts (P := (PySem.Challenge.rw_fadewords_k61_whole_riches).prog) (w := w) KX G hmg c
    exact ⟨K, fd, Fw.spLaw K, KX, hb, fun H a ns hl _ hS => ⟨a, ns, rfl, hS, fun _ => rfl⟩, hF⟩

