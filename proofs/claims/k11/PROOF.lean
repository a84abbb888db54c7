import PyProof.Rows.All
import Wide.All
import OpenK.AllK
import Wide.FinOn
import HandS.ForMost
import HandS.More
import HandS.IsInst
import HandS.Walk
import HandS.Codes
import PySem.Challenge.RW_setsays_k11_whole_holds_plain

set_option Elab.async false
set_option maxRecDepth 100000
set_option maxHeartbeats 4000000
/-! K0: the data, the semantics and the plain laws of it -/
namespace Sy
open PySem L2

/-! ### names -/
def pl4 : List Str := ["x", "x1", "y", "x12"]
def st4 : List Str := ["X", "X1", "Y", "X12"]
def Nm (z : Str) : Prop := z ∈ pl4 ++ st4
def plB (z : Str) : Bool := decide (z ∈ pl4)
theorem Nm.cases {z : Str} (h : Nm z) : z ∈ pl4 ∨ z ∈ st4 := List.mem_append.mp h
theorem pl4_pl : ∀ z ∈ pl4, plB z = true := by decide +kernel
theorem st4_pl : ∀ z ∈ st4, plB z = false := by decide +kernel
def rowWords : List Str := ["in", "same", "within", "ahead", "next"]
def suitB (w a b : Str) : Bool :=
  if w = "in" then plB a && !plB b else if w = "within" then !plB a && !plB b else plB a && plB b

/-! ### sayings -/
inductive Say where
  | bare (w a b : Str)
  | neg (s : Say)
  | con (s t : Say)
  | dis (s t : Say)
  | ex (n : Str) (s : Say)
  | al (n : Str) (s : Say)

def SayAt (H : Hp) : Say → V → Prop
  | .bare w a b, v => ∃ p, v = .ref p ∧ H p = some (.tup [.str w, .str a, .str b])
  | .neg s, v => ∃ p u, v = .ref p ∧ H p = some (.tup [.str "not", u]) ∧ SayAt H s u
  | .con s t, v => ∃ p u u', v = .ref p ∧ H p = some (.tup [.str "and", u, u']) ∧ SayAt H s u ∧ SayAt H t u'
  | .dis s t, v => ∃ p u u', v = .ref p ∧ H p = some (.tup [.str "or", u, u']) ∧ SayAt H s u ∧ SayAt H t u'
  | .ex n s, v => ∃ p u, v = .ref p ∧ H p = some (.tup [.str "some", .str n, u]) ∧ SayAt H s u
  | .al n s, v => ∃ p u, v = .ref p ∧ H p = some (.tup [.str "all", .str n, u]) ∧ SayAt H s u
/-- tuples are kept -/
def TSame (H H' : Hp) : Prop := ∀ p xs, H p = some (.tup xs) → H' p = some (.tup xs)
theorem SayAt.keep {H H' : Hp} (e : TSame H H') : ∀ {s : Say} {v : V}, SayAt H s v → SayAt H' s v
  | .bare _ _ _, _, ⟨p, h1, h2⟩ => ⟨p, h1, e _ _ h2⟩
  | .neg _, _, ⟨p, u, h1, h2, h3⟩ => ⟨p, u, h1, e _ _ h2, h3.keep e⟩
  | .con _ _, _, ⟨p, u, u', h1, h2, h3, h4⟩ => ⟨p, u, u', h1, e _ _ h2, h3.keep e, h4.keep e⟩
  | .dis _ _, _, ⟨p, u, u', h1, h2, h3, h4⟩ => ⟨p, u, u', h1, e _ _ h2, h3.keep e, h4.keep e⟩
  | .ex _ _, _, ⟨p, u, h1, h2, h3⟩ => ⟨p, u, h1, e _ _ h2, h3.keep e⟩
  | .al _ _, _, ⟨p, u, h1, h2, h3⟩ => ⟨p, u, h1, e _ _ h2, h3.keep e⟩
def Say.word : Say → Str
  | .bare w _ _ => w
  | .neg _ => "not"
  | .con _ _ => "and"
  | .dis _ _ => "or"
  | .ex _ _ => "some"
  | .al _ _ => "all"
def dpt : Say → Nat
  | .bare _ _ _ => 1
  | .neg s => dpt s + 1
  | .con s t => max (dpt s) (dpt t) + 1
  | .dis s t => max (dpt s) (dpt t) + 1
  | .ex _ s => dpt s + 1
  | .al _ s => dpt s + 1
def parts : Say → Nat
  | .bare _ _ _ => 1
  | .neg s => 1 + parts s
  | .con s t => 1 + parts s + parts t
  | .dis s t => 1 + parts s + parts t
  | .ex _ s => 1 + parts s
  | .al _ s => 1 + parts s
/-- is let over known names -/
def Let : Say → List Str → Prop
  | .bare w a b, ks => w ∈ rowWords ∧ suitB w a b = true ∧ a ∈ ks ∧ b ∈ ks
  | .neg s, ks => Let s ks
  | .con s t, ks => Let s ks ∧ Let t ks
  | .dis s t, ks => Let s ks ∧ Let t ks
  | .ex n s, ks => Nm n ∧ n ∉ ks ∧ ks.length < 4 ∧ Let s (ks ++ [n])
  | .al n s, ks => Nm n ∧ n ∉ ks ∧ ks.length < 4 ∧ Let s (ks ++ [n])
structure FrOk (ks : List Str) : Prop where
  nd : ks.Nodup
  nm : ∀ n ∈ ks, Nm n
  len : ks.length ≤ 4
theorem FrOk.more {ks : List Str} {n : Str} (f : FrOk ks) (h : Nm n) (hn : n ∉ ks) (hl : ks.length < 4) : FrOk (ks ++ [n]) := by
  refine ⟨?_, ?_, ?_⟩
  · rw [List.nodup_append]
    refine ⟨f.nd, by simp, ?_⟩
    intro a ha b hb
    rw [List.mem_singleton.mp hb]
    rintro rfl
    exact hn ha
  · intro m hm
    rcases List.mem_append.mp hm with q | q
    · exact f.nm m q
    · rw [List.mem_singleton.mp q]; exact h
  · rw [List.length_append, List.length_singleton]; omega

/-! ### the semantics -/
abbrev Env := Str → List Int
def eput (e : Env) (n : Str) (c : List Int) : Env := fun m => if m = n then c else e m
theorem eput_same {e : Env} {n : Str} {c : List Int} : eput e n c n = c := if_pos rfl
theorem eput_ne {e : Env} {n m : Str} {c : List Int} (h : m ≠ n) : eput e n c m = e m := if_neg h
/-- a letter has a track -/
def trk (i : Int) (t : Nat) : Bool := decide (Builtin.bitAnd (i / 2 ^ t) 1 = 1)
theorem trk_nat (i t : Nat) : trk (i : Int) t = Nat.testBit i t := by
  have h2 : (2 : Int) ^ t = ((2 ^ t : Nat) : Int) := by rw [Int.natCast_pow]; rfl
  have h1 := Bits.bitAnd_mask (x := (i : Int) / 2 ^ t) 1 (by rw [h2]; exact Int.natCast_nonneg _)
  unfold trk
  rw [Nat.testBit_eq_decide_div_mod_eq]
  have h3 : Builtin.bitAnd ((i : Int) / 2 ^ t) 1 = (i : Int) / 2 ^ t % 2 := h1
  rw [h3, h2]
  have h4 : (i : Int) / ((2 ^ t : Nat) : Int) % 2 = ((i / 2 ^ t % 2 : Nat) : Int) := by
    rw [← Int.natCast_ediv]; omega
  rw [h4]
  congr 1
  apply propext
  constructor <;> intro h <;> omega
def subs : Nat → List (List Int)
  | 0 => [[]]
  | k + 1 => subs k ++ (subs k).map (fun c => c ++ [(k : Int)])
theorem subs_len : ∀ k, (subs k).length = 2 ^ k
  | 0 => rfl
  | k + 1 => by rw [subs, List.length_append, List.length_map, subs_len k, Nat.pow_succ]; omega
def bits (i k : Nat) : List Int := ((List.range k).filter (fun p => trk (i : Int) p)).map (fun p => ((p : Nat) : Int))
theorem bits_succ (i k : Nat) : bits i (k + 1) = bits i k ++ (if trk (i : Int) k = true then [(k : Int)] else []) := by
  unfold bits
  rw [List.range_succ, List.filter_append, List.map_append]
  congr 1
  by_cases h : trk (i : Int) k = true
  · rw [if_pos h]; simp [h]
  · rw [if_neg h]; simp [h]
theorem bits_low {i k : Nat} : ∀ j, j ≤ k → bits (2 ^ k + i) j = bits i j
  | 0, _ => rfl
  | j + 1, h => by
    rw [bits_succ, bits_succ, bits_low j (by omega), trk_nat, trk_nat, Nat.testBit_two_pow_add_gt (by omega)]
theorem subs_eq : ∀ k, subs k = (List.range (2 ^ k)).map (fun i => bits i k)
  | 0 => rfl
  | k + 1 => by
    have e : 2 ^ (k + 1) = 2 ^ k + 2 ^ k := by rw [Nat.pow_succ]; omega
    rw [subs, subs_eq k, e, List.range_add, List.map_append, List.map_map, List.map_map]
    congr 1
    · apply List.map_congr_left
      intro i hi
      have hi' := List.mem_range.mp hi
      rw [bits_succ, trk_nat, Nat.testBit_lt_two_pow hi', if_neg (by simp), List.append_nil]
    · apply List.map_congr_left
      intro i hi
      have hi' := List.mem_range.mp hi
      show bits i k ++ [(k : Int)] = bits (2 ^ k + i) (k + 1)
      rw [bits_succ, bits_low k (Nat.le_refl _), trk_nat, Nat.testBit_two_pow_add_eq, Nat.testBit_lt_two_pow hi', if_pos (by rfl)]
def most (n : Str) (k : Nat) : Nat := if plB n = true then k else 2 ^ k
def cAt (n : Str) (k i : Nat) : List Int := if plB n = true then [(i : Int)] else bits i k
def choices (n : Str) (k : Nat) : List (List Int) := if plB n = true then (List.range k).map (fun i => [((i : Nat) : Int)]) else subs k
theorem choices_eq (n : Str) (k : Nat) : choices n k = (List.range (most n k)).map (cAt n k) := by
  unfold choices most cAt
  by_cases h : plB n = true
  · simp only [if_pos h]
  · simp only [if_neg h]
    exact subs_eq k
theorem choices_len (n : Str) (k : Nat) : (choices n k).length = most n k := by
  rw [choices_eq, List.length_map, List.length_range]
def bareS (w : Str) (o t : List Int) : Bool :=
  if w = "in" ∨ w = "within" then o.all (fun p => decide (p ∈ t))
  else if w = "same" then decide (o = t)
  else if w = "ahead" then decide (o.headD 0 < t.headD 0)
  else decide (o.headD 0 = t.headD 0 - 1)
def sem : Say → Nat → Env → Bool
  | .bare w a b, _, e => bareS w (e a) (e b)
  | .neg s, k, e => !sem s k e
  | .con s t, k, e => sem s k e && sem t k e
  | .dis s t, k, e => sem s k e || sem t k e
  | .ex n s, k, e => (choices n k).any (fun c => sem s k (eput e n c))
  | .al n s, k, e => (choices n k).all (fun c => sem s k (eput e n c))
theorem sem_ex (n : Str) (s : Say) (k : Nat) (e : Env) : sem (.ex n s) k e = (List.range (most n k)).any (fun i => sem s k (eput e n (cAt n k i))) := by
  rw [sem, choices_eq, List.any_map]; rfl
theorem sem_al (n : Str) (s : Say) (k : Nat) (e : Env) : sem (.al n s) k e = !sem (.ex n (.neg s)) k e := by
  rw [sem, sem]
  simp only [sem]
  rw [List.all_eq_not_any_not]
/-- the names of places stand for one place each -/
def POk (e : Env) (ks : List Str) : Prop := ∀ n ∈ ks, plB n = true → ∃ p, e n = [p]
theorem POk.put {e : Env} {ks : List Str} {n : Str} {k : Nat} {c : List Int} (h : POk e ks) (hc : c ∈ choices n k) : POk (eput e n c) (ks ++ [n]) := by
  intro m hm hp
  by_cases e1 : m = n
  · subst e1
    rw [eput_same]
    unfold choices at hc
    rw [if_pos hp] at hc
    obtain ⟨i, _, e2⟩ := List.mem_map.mp hc
    exact ⟨_, e2.symm⟩
  · rw [eput_ne e1]
    rcases List.mem_append.mp hm with q | q
    · exact h m q hp
    · exact absurd (List.mem_singleton.mp q) e1

/-! ### rows -/
/-- the places whose letters have a track -/
def pw (row : List Int) (t : Nat) : List Int := ((List.range row.length).filter (fun i => trk (row.getD i 0) t)).map (fun i => ((i : Nat) : Int))
/-- fits: from track t on -/
def fitF : List Str → Nat → List Int → Bool
  | [], _, _ => true
  | n :: r, t, row => if plB n = true ∧ (pw row t).length ≠ 1 then false else fitF r (t + 1) row
def fitB (fr : List Str) (row : List Int) : Bool := fitF fr 0 row
theorem fitF_at {fr : List Str} {row : List Int} : ∀ {t : Nat}, fitF fr t row = true → ∀ (j : Nat) n, fr[j]? = some n → plB n = true → (pw row (t + j)).length = 1 := by
  induction fr with
  | nil => intro t _ j n hj; simp at hj
  | cons m r ih =>
    intro t h j n hj hp
    unfold fitF at h
    by_cases c : plB m = true ∧ (pw row t).length ≠ 1
    · rw [if_pos c] at h; cases h
    · rw [if_neg c] at h
      cases j with
      | zero =>
        simp at hj
        subst hj
        rw [Nat.add_zero]
        exact Decidable.byContradiction fun q => c ⟨hp, q⟩
      | succ j =>
        have := ih h j n (by simpa using hj) hp
        rw [show t + (j + 1) = t + 1 + j by omega]
        exact this
def env0 (fr : List Str) (row : List Int) : Env := fun n => pw row (fr.idxOf n)
theorem env0_ok {fr : List Str} {row : List Int} (h : fitB fr row = true) : POk (env0 fr row) fr := by
  intro n hn hp
  have hi : fr.idxOf n < fr.length := List.idxOf_lt_length_iff.mpr hn
  have hj : fr[fr.idxOf n]? = some n := by
    rw [List.getElem?_eq_getElem hi, List.getElem_idxOf]
  have := fitF_at h _ n hj hp
  rw [Nat.zero_add] at this
  exact List.length_eq_one_iff.mp this
theorem env0_at {fr : List Str} {row : List Int} (nd : fr.Nodup) {j : Nat} {n : Str} (h : fr[j]? = some n) : env0 fr row n = pw row j := by
  unfold env0
  obtain ⟨hj, e⟩ := List.getElem?_eq_some_iff.mp h
  subst e
  rw [List.Nodup.idxOf_getElem nd]
def verd (s : Say) (fr : List Str) (row : List Int) : Bool := fitB fr row && sem s row.length (env0 fr row)
/-- letters of w tracks -/
def InR (w : Nat) (row : List Int) : Prop := ∀ x ∈ row, 0 ≤ x ∧ x < 2 ^ w
theorem pw_len (row : List Int) (t : Nat) : (pw row t).length ≤ row.length := by
  unfold pw
  rw [List.length_map]
  exact Nat.le_trans (List.length_filter_le _ _) (by rw [List.length_range]; exact Nat.le_refl _)
theorem bits_len (i k : Nat) : (bits i k).length ≤ k := by
  unfold bits
  rw [List.length_map]
  exact Nat.le_trans (List.length_filter_le _ _) (by rw [List.length_range]; exact Nat.le_refl _)
end Sy

set_option Elab.async false
set_option maxRecDepth 100000
set_option maxHeartbeats 4000000

/-! K1: the text by places, what the top has left (printed by gen.py) -/
namespace Sy
open PySem L2
def top (i : Nat) : Stmt := PySem.Challenge.pw_setsays_k11_whole_holds_plain.main.body.getD i (.Pass ⟨0, 0, 0, 0⟩)
abbrev s_begins_among : Stmt := top 10
abbrev N_begins_among : List Str := ["thing", "letters", "sign"]
theorem sc_begins_among : FnScope N_begins_among ["thing", "letters"] (defScope s_begins_among) := ⟨rfl, rfl, rfl, by decide +kernel, rfl, by decide +kernel, by decide +kernel⟩
abbrev s_is_place : Stmt := top 11
abbrev N_is_place : List Str := ["thing"]
theorem sc_is_place : FnScope N_is_place ["thing"] (defScope s_is_place) := ⟨rfl, rfl, rfl, by decide +kernel, rfl, by decide +kernel, by decide +kernel⟩
abbrev s_is_set : Stmt := top 12
abbrev N_is_set : List Str := ["thing"]
theorem sc_is_set : FnScope N_is_set ["thing"] (defScope s_is_set) := ⟨rfl, rfl, rfl, by decide +kernel, rfl, by decide +kernel, by decide +kernel⟩
abbrev s_is_frame : Stmt := top 13
abbrev N_is_frame : List Str := ["thing", "at", "name"]
theorem sc_is_frame : FnScope N_is_frame ["thing"] (defScope s_is_frame) := ⟨rfl, rfl, rfl, by decide +kernel, rfl, by decide +kernel, by decide +kernel⟩
abbrev s_names_suit : Stmt := top 18
abbrev N_names_suit : List Str := ["word", "one", "other"]
theorem sc_names_suit : FnScope N_names_suit ["word", "one", "other"] (defScope s_names_suit) := ⟨rfl, rfl, rfl, by decide +kernel, rfl, by decide +kernel, by decide +kernel⟩
abbrev s_is_let : Stmt := top 19
abbrev N_is_let : List Str := ["thing", "words", "known", "most", "left", "word"]
theorem sc_is_let : FnScope N_is_let ["thing", "words", "known", "most", "left"] (defScope s_is_let) := ⟨rfl, rfl, rfl, by decide +kernel, rfl, by decide +kernel, by decide +kernel⟩
abbrev s_many_parts : Stmt := top 20
abbrev N_many_parts : List Str := ["saying"]
theorem sc_many_parts : FnScope N_many_parts ["saying"] (defScope s_many_parts) := ⟨rfl, rfl, rfl, by decide +kernel, rfl, by decide +kernel, by decide +kernel⟩
abbrev s_is_saying : Stmt := top 21
abbrev N_is_saying : List Str := ["thing", "frame"]
theorem sc_is_saying : FnScope N_is_saying ["thing", "frame"] (defScope s_is_saying) := ⟨rfl, rfl, rfl, by decide +kernel, rfl, by decide +kernel, by decide +kernel⟩
abbrev s_has_track : Stmt := top 23
abbrev N_has_track : List Str := ["letter", "track"]
theorem sc_has_track : FnScope N_has_track ["letter", "track"] (defScope s_has_track) := ⟨rfl, rfl, rfl, by decide +kernel, rfl, by decide +kernel, by decide +kernel⟩
abbrev s_places_with : Stmt := top 24
abbrev N_places_with : List Str := ["row", "track", "place"]
theorem sc_places_with : FnScope N_places_with ["row", "track"] (defScope s_places_with) := ⟨rfl, rfl, rfl, by decide +kernel, rfl, by decide +kernel, by decide +kernel⟩
abbrev s_fits : Stmt := top 25
abbrev N_fits : List Str := ["frame", "row", "letter", "track", "name"]
theorem sc_fits : FnScope N_fits ["frame", "row"] (defScope s_fits) := ⟨rfl, rfl, rfl, by decide +kernel, rfl, by decide +kernel, by decide +kernel⟩
abbrev s_bare_holds : Stmt := top 26
abbrev N_bare_holds : List Str := ["saying", "stand", "word", "one", "other", "place"]
theorem sc_bare_holds : FnScope N_bare_holds ["saying", "stand"] (defScope s_bare_holds) := ⟨rfl, rfl, rfl, by decide +kernel, rfl, by decide +kernel, by decide +kernel⟩
abbrev s_places_by : Stmt := top 27
abbrev N_places_by : List Str := ["name", "size", "number", "place"]
theorem sc_places_by : FnScope N_places_by ["name", "size", "number"] (defScope s_places_by) := ⟨rfl, rfl, rfl, by decide +kernel, rfl, by decide +kernel, by decide +kernel⟩
abbrev s_some_holds : Stmt := top 28
abbrev N_some_holds : List Str := ["saying", "size", "stand", "name", "most", "number", "inner"]
theorem sc_some_holds : FnScope N_some_holds ["saying", "size", "stand"] (defScope s_some_holds) := ⟨rfl, rfl, rfl, by decide +kernel, rfl, by decide +kernel, by decide +kernel⟩
abbrev s_holds_by : Stmt := top 29
abbrev N_holds_by : List Str := ["saying", "size", "stand", "word"]
theorem sc_holds_by : FnScope N_holds_by ["saying", "size", "stand"] (defScope s_holds_by) := ⟨rfl, rfl, rfl, by decide +kernel, rfl, by decide +kernel, by decide +kernel⟩
abbrev s_look_at_asking : Stmt := top 30
abbrev N_look_at_asking : List Str := ["saying", "frame"]
theorem sc_look_at_asking : FnScope N_look_at_asking ["saying", "frame"] (defScope s_look_at_asking) := ⟨rfl, rfl, rfl, by decide +kernel, rfl, by decide +kernel, by decide +kernel⟩
abbrev s_holds : Stmt := top 31
abbrev N_holds : List Str := ["saying", "frame", "row", "stand", "track", "name"]
theorem sc_holds : FnScope N_holds ["saying", "frame", "row"] (defScope s_holds) := ⟨rfl, rfl, rfl, by decide +kernel, rfl, by decide +kernel, by decide +kernel⟩
abbrev s_Lcell_at : Stmt := top 33
abbrev N_Lcell_at : List Str := ["_law_script", "_law_k"]
theorem sc_Lcell_at : FnScope N_Lcell_at ["_law_script", "_law_k"] (defScope s_Lcell_at) := ⟨rfl, rfl, rfl, by decide +kernel, rfl, by decide +kernel, by decide +kernel⟩
abbrev s_Lmixed : Stmt := top 34
abbrev N_Lmixed : List Str := ["_law_cell"]
theorem sc_Lmixed : FnScope N_Lmixed ["_law_cell"] (defScope s_Lmixed) := ⟨rfl, rfl, rfl, by decide +kernel, rfl, by decide +kernel, by decide +kernel⟩
abbrev s_Lnew : Stmt := top 35
abbrev N_Lnew : List Str := ["_law_frame_here", "_law_number", "_law_great", "_law_some", "_law_name"]
theorem sc_Lnew : FnScope N_Lnew ["_law_frame_here", "_law_number", "_law_great"] (defScope s_Lnew) := ⟨rfl, rfl, rfl, by decide +kernel, rfl, by decide +kernel, by decide +kernel⟩
abbrev s_Lbare : Stmt := top 36
abbrev N_Lbare : List Str := ["_law_number", "_law_frame_here", "_law_places", "_law_sets", "_law_words", "_law_word", "_law_ones", "_law_others", "_law_name"]
theorem sc_Lbare : FnScope N_Lbare ["_law_number", "_law_frame_here"] (defScope s_Lbare) := ⟨rfl, rfl, rfl, by decide +kernel, rfl, by decide +kernel, by decide +kernel⟩
abbrev s_Ldrawn : Stmt := top 37
abbrev N_Ldrawn : List Str := ["_law_state", "_law_frame_here", "_law_deep", "_law_room", "_law_great", "_law_cell", "_law_number", "_law_way", "_law_name", "_law_inner", "_law_one"]
theorem sc_Ldrawn : FnScope N_Ldrawn ["_law_state", "_law_frame_here", "_law_deep", "_law_room", "_law_great"] (defScope s_Ldrawn) := ⟨rfl, rfl, rfl, by decide +kernel, rfl, by decide +kernel, by decide +kernel⟩
abbrev s_Lstand : Stmt := top 38
abbrev N_Lstand : List Str := ["_law_frame_here", "_law_row_here", "_law_stand_here", "_law_k", "_law_place"]
theorem sc_Lstand : FnScope N_Lstand ["_law_frame_here", "_law_row_here"] (defScope s_Lstand) := ⟨rfl, rfl, rfl, by decide +kernel, rfl, by decide +kernel, by decide +kernel⟩
abbrev s_Lchoices : Stmt := top 39
abbrev N_Lchoices : List Str := ["_law_name", "_law_size", "_law_found", "_law_place", "_law_some"]
theorem sc_Lchoices : FnScope N_Lchoices ["_law_name", "_law_size"] (defScope s_Lchoices) := ⟨rfl, rfl, rfl, by decide +kernel, rfl, by decide +kernel, by decide +kernel⟩
abbrev s_Lbare_holds : Stmt := top 40
abbrev N_Lbare_holds : List Str := ["_law_saying", "_law_stand_here", "_law_one", "_law_other", "_law_place"]
theorem sc_Lbare_holds : FnScope N_Lbare_holds ["_law_saying", "_law_stand_here"] (defScope s_Lbare_holds) := ⟨rfl, rfl, rfl, by decide +kernel, rfl, by decide +kernel, by decide +kernel⟩
abbrev s_Lholds : Stmt := top 41
abbrev N_Lholds : List Str := ["_law_saying", "_law_size", "_law_stand_here", "_law_word", "_law_places", "_law_inner"]
theorem sc_Lholds : FnScope N_Lholds ["_law_saying", "_law_size", "_law_stand_here"] (defScope s_Lholds) := ⟨rfl, rfl, rfl, by decide +kernel, rfl, by decide +kernel, by decide +kernel⟩
abbrev s_Ldue : Stmt := top 42
abbrev N_Ldue : List Str := ["_law_saying", "_law_frame_here", "_law_row_here", "_law_stand_here"]
theorem sc_Ldue : FnScope N_Ldue ["_law_saying", "_law_frame_here", "_law_row_here"] (defScope s_Ldue) := ⟨rfl, rfl, rfl, by decide +kernel, rfl, by decide +kernel, by decide +kernel⟩
abbrev s_Lframe : Stmt := top 43
abbrev N_Lframe : List Str := ["_law_cell", "_law_mixed_here"]
theorem sc_Lframe : FnScope N_Lframe ["_law_cell"] (defScope s_Lframe) := ⟨rfl, rfl, rfl, by decide +kernel, rfl, by decide +kernel, by decide +kernel⟩
abbrev s_Llonger : Stmt := top 44
abbrev N_Llonger : List Str := ["_law_rows_here", "_law_width", "_law_found", "_law_row_here", "_law_letter"]
theorem sc_Llonger : FnScope N_Llonger ["_law_rows_here", "_law_width"] (defScope s_Llonger) := ⟨rfl, rfl, rfl, by decide +kernel, rfl, by decide +kernel, by decide +kernel⟩
abbrev s_Lrows : Stmt := top 45
abbrev N_Lrows : List Str := ["_law_width", "_law_most", "_law_rows_here", "_law_last", "_law_k"]
theorem sc_Lrows : FnScope N_Lrows ["_law_width", "_law_most"] (defScope s_Lrows) := ⟨rfl, rfl, rfl, by decide +kernel, rfl, by decide +kernel, by decide +kernel⟩
abbrev s_Lrow : Stmt := top 46
abbrev N_Lrow : List Str := ["_law_cells", "_law_frame_here", "_law_row_here", "_law_cell", "_law_k", "_law_at", "_law_place"]
theorem sc_Lrow : FnScope N_Lrow ["_law_cells", "_law_frame_here"] (defScope s_Lrow) := ⟨rfl, rfl, rfl, by decide +kernel, rfl, by decide +kernel, by decide +kernel⟩
abbrev s_law : Stmt := top 47
abbrev N_law : List Str := ["_law_script", "_law_frame_here", "_law_start", "_law_cells", "_law_saying", "_law_rows_here", "_law_row_here", "_law_handed", "_law_found"]
theorem sc_law : FnScope N_law ["_law_script"] (defScope s_law) := ⟨rfl, rfl, rfl, by decide +kernel, rfl, by decide +kernel, by decide +kernel⟩
/-- a def of the text, as it stands behind the top -/
structure DefOk (K : PySem.W.Frag) (mg : Str → Option Value) (x : Str) (st : Stmt) (ps : List Str) : Prop where
  ex : ∃ (f : Addr) (fd : FuncData), Fun K x x st f fd ∧ mg x = some (.ref f) ∧ Binds K fd ps []
structure Top (K : PySem.W.Frag) (mg : Str → Option Value) : Prop where
  d_begins_among : DefOk K mg "begins_among" s_begins_among ["thing", "letters"]
  d_is_place : DefOk K mg "is_place" s_is_place ["thing"]
  d_is_set : DefOk K mg "is_set" s_is_set ["thing"]
  d_is_frame : DefOk K mg "is_frame" s_is_frame ["thing"]
  d_names_suit : DefOk K mg "names_suit" s_names_suit ["word", "one", "other"]
  d_is_let : DefOk K mg "is_let" s_is_let ["thing", "words", "known", "most", "left"]
  d_many_parts : DefOk K mg "many_parts" s_many_parts ["saying"]
  d_is_saying : DefOk K mg "is_saying" s_is_saying ["thing", "frame"]
  d_has_track : DefOk K mg "has_track" s_has_track ["letter", "track"]
  d_places_with : DefOk K mg "places_with" s_places_with ["row", "track"]
  d_fits : DefOk K mg "fits" s_fits ["frame", "row"]
  d_bare_holds : DefOk K mg "bare_holds" s_bare_holds ["saying", "stand"]
  d_places_by : DefOk K mg "places_by" s_places_by ["name", "size", "number"]
  d_some_holds : DefOk K mg "some_holds" s_some_holds ["saying", "size", "stand"]
  d_holds_by : DefOk K mg "holds_by" s_holds_by ["saying", "size", "stand"]
  d_look_at_asking : DefOk K mg "look_at_asking" s_look_at_asking ["saying", "frame"]
  d_holds : DefOk K mg "holds" s_holds ["saying", "frame", "row"]
  d_Lcell_at : DefOk K mg "_law_cell_at" s_Lcell_at ["_law_script", "_law_k"]
  d_Lmixed : DefOk K mg "_law_mixed" s_Lmixed ["_law_cell"]
  d_Lnew : DefOk K mg "_law_new" s_Lnew ["_law_frame_here", "_law_number", "_law_great"]
  d_Lbare : DefOk K mg "_law_bare" s_Lbare ["_law_number", "_law_frame_here"]
  d_Ldrawn : DefOk K mg "_law_drawn" s_Ldrawn ["_law_state", "_law_frame_here", "_law_deep", "_law_room", "_law_great"]
  d_Lstand : DefOk K mg "_law_stand" s_Lstand ["_law_frame_here", "_law_row_here"]
  d_Lchoices : DefOk K mg "_law_choices" s_Lchoices ["_law_name", "_law_size"]
  d_Lbare_holds : DefOk K mg "_law_bare_holds" s_Lbare_holds ["_law_saying", "_law_stand_here"]
  d_Lholds : DefOk K mg "_law_holds" s_Lholds ["_law_saying", "_law_size", "_law_stand_here"]
  d_Ldue : DefOk K mg "_law_due" s_Ldue ["_law_saying", "_law_frame_here", "_law_row_here"]
  d_Lframe : DefOk K mg "_law_frame" s_Lframe ["_law_cell"]
  d_Llonger : DefOk K mg "_law_longer" s_Llonger ["_law_rows_here", "_law_width"]
  d_Lrows : DefOk K mg "_law_rows" s_Lrows ["_law_width", "_law_most"]
  d_Lrow : DefOk K mg "_law_row" s_Lrow ["_law_cells", "_law_frame_here"]
  g_SMALL : ∃ t, mg "SMALL" = some (.str "abcdefghijklmnopqrstuvwxyz" t)
  g_GREAT : ∃ t, mg "GREAT" = some (.str "ABCDEFGHIJKLMNOPQRSTUVWXYZ" t)
  g_FIGURES : ∃ t, mg "FIGURES" = some (.str "0123456789" t)
  g_MOST_NAMES : ∃ t, mg "MOST_NAMES" = some (.int 4 t)
  g_MOST_DEEP : ∃ t, mg "MOST_DEEP" = some (.int 12 t)
  g_MOST_PARTS : ∃ t, mg "MOST_PARTS" = some (.int 60 t)
  g_WORDS : ∃ a, mg "ROW_WORDS" = some (.ref a) ∧ ∀ H, SqT K H a [V.str "in", V.str "same", V.str "within", V.str "ahead", V.str "next"]
  b_len : mg "len" = none
  b_isinstance : mg "isinstance" = none
  b_str : mg "str" = none
  b_all : mg "all" = none
  b_enumerate : mg "enumerate" = none
  b_list : mg "list" = none
  b_tuple : mg "tuple" = none
  b_dict : mg "dict" = none
  b_range : mg "range" = none
  b_int : mg "int" = none
  b_max : mg "max" = none
  b_min : mg "min" = none
  b_bool : mg "bool" = none
section
variable {P : Program} {w : World} {K : PySem.W.Frag} {mg : Str → Option Value} {base : Heap}
theorem cal_of {x : Str} {st : Stmt} {ps : List Str} {k : Nat} {sp : Sp} (D : DefOk K mg x st ps) (h : ∀ (f : Addr) (fd : FuncData), Fun K x x st f fd → FnOk P w K mg base CX0 k f fd ps sp) : C8.Cal P w K mg base k x sp [] := by
  obtain ⟨f, fd, F, m, b⟩ := D.ex
  exact ⟨f, fd, ps, [], h f fd F, m, F.kp, b, .nil⟩
end
/-- a call of one of the defs -/
theorem pe_d {X : Cx} {k j : Nat} {x : Str} {sp : Sp} {p pos : Pos} {e : Expr} {es : List Expr} {t : TA} (c : C8.Cal X.prog X.w X.K X.mg X.base k x sp []) (hr : Room j X.A) (ha : PA X (e :: es) t) (hk : k ≤ j := by omega) (hg : Gl X x := by rfl)
    (hdb : (x == ("__debug__" : Str)) = false := by decide) (he : starEach (e :: es) X.env = (false, eval e X.env) :: starEach es X.env := by rfl) (hpl : (backTo pos (starEach es X.env)).any (·.1) = false := by rfl) :
    PE X (.Call (.Name x p) (e :: es) [] pos) (tCall sp [] E0 t) := C8.pe_c c hr hk hg ha hdb he hpl
theorem scope_at {K : PySem.W.Frag} {mg : Str → Option Value} {x : Str} {st : Stmt} {ps : List Str} {h : Heap} {f : Addr} {od an : Option Addr} {sl : Array (Option Value)} {oc kV dc pm cd ct : Value} (X : K.In h) (G : h.Ns mainGlobals mg)
    (a : PySem.W.nsIn K mainGlobals x = some (some (.ref f))) (l : K.lookup f = some ⟨oc, od, .func (PySem.W.fnOf x x (defArgs st) (defBody st) (defScope st) .none kV dc pm an cd ct), sl⟩) (c : PySem.W.codeIn K cd x = true) (k : PySem.W.keepIn K (.ref f) = true)
    (b : ∀ (kV doc pm : Value) (an : Option Addr) (cdv ct : Value) (us : List Value), us.length = ps.length → bindArgs (PySem.W.fnOf x x (defArgs st) (defBody st) (defScope st) .none kV doc pm an cdv ct) ⟨us, []⟩ = pure (ps.zip us)) : DefOk K mg x st ps := by
  have F := fun_mk (st := st) l c k
  exact ⟨f, _, F, PySem.W.mg_of X G a, F.binds b⟩
end Sy

set_option Elab.async false
set_option linter.all false
set_option maxRecDepth 100000
set_option maxHeartbeats 4000000
namespace Sy
open PySem L2

/-! ### shared small lemmas -/
theorem same_new {H : Hp} {p : Addr} (h : H p = none) (o : HO) : Same H (upd H p o) := fun b u q => by rw [upd_ne (ne_of_none q h)]; exact q
theorem _root_.L2.Same.new {H H' : Hp} {p : Addr} (s : Same H H') (h : H' p = none) (o : HO) : Same H (upd H' p o) := s.trans (same_new h o)
theorem _root_.L2.Same.tup {H H' : Hp} (s : Same H H') : TSame H H' := fun p xs h => s p _ h
/-- a list of ours at a new place is changed: what stood before stays -/
theorem _root_.L2.Same.upd_free {H H' : Hp} {p : Addr} (s : Same H H') (h : H p = none) (o : HO) : Same H (upd H' p o) := fun b u q => by
  rw [upd_ne (ne_of_none q h)]; exact s b u q
theorem ifb {b : Bool} {A B : Prop} (h1 : b = true → A) (h2 : b = false → B) : if b = true then A else B := by
  cases b
  · exact iteF (h2 rfl)
  · exact iteT (h1 rfl)
theorem ifF {b : Bool} {A B : Prop} (h : b = false) (hB : B) : if b = true then A else B := by subst h; exact iteF hB
theorem ifT {b : Bool} {A B : Prop} (h : b = true) (hA : A) : if b = true then A else B := by subst h; exact iteT hA
theorem le_line {n : Nat} (h : n ≤ 16000000) : n ≤ sizeLine := Nat.le_trans h (by rw [sizeLine_eq]; decide)
theorem lt_line {n : Nat} (h : n ≤ 16000000) : n < sizeLine := Nat.lt_of_le_of_lt h (by rw [sizeLine_eq]; decide)

/-! ### names -/
def SM : Str := "abcdefghijklmnopqrstuvwxyz"
def GR : Str := "ABCDEFGHIJKLMNOPQRSTUVWXYZ"
def FG : Str := "0123456789"
def begL (l : List Nat) (L : Str) : Bool := decide (l.headD 0 ∈ L.cps.toList) && (l.drop 1).all (fun c => decide (c ∈ FG.cps.toList))
def begB (z L : Str) : Bool := begL z.cps.toList L
theorem begS_pl : ∀ z ∈ pl4 ++ st4, begB z SM = plB z := by decide +kernel
theorem begG_pl : ∀ z ∈ pl4 ++ st4, begB z GR = !plB z := by decide +kernel
theorem nm_len : ∀ z ∈ pl4 ++ st4, 1 ≤ z.length ∧ z.length ≤ 4 := by decide +kernel

def spBeg : Sp := fun vs H Q _ => ∃ z L : Str, vs = [.str z, .str L] ∧ Nm z ∧ ∀ H', Same H H' → Q (.bl (begB z L)) H'
section
variable {P : Program} {w : World} {K : PySem.W.Frag} {mg : Str → Option Value} {base : Heap}
theorem cal_beg (T : Top K mg) : C8.Cal P w K mg base 1 "begins_among" spBeg [] := by
  refine cal_of T.d_begins_among fun f fd F => F.ok sc_begins_among (fun vs H Q E h => ?_) (fun cdv A outer s H vs Q E hr h => ?_)
  · obtain ⟨z, L, rfl, _⟩ := h
    rfl
  obtain ⟨z, L, rfl, hz, k⟩ := h
  obtain ⟨tF, mF⟩ := T.g_FIGURES
  refine ⟨_, pss_cons (ps_if (PW.pt (pw_or (pt_not (pt_val (pe_callB call_isi rfl T.b_isinstance (by decide +kernel) (pa_cons (pv 0) (pa_cons (pe_bltn rfl T.b_str (by decide +kernel) (v := .ty "str") rfl) pa_nil)))))
      (pw_or1 (pt_not (pt_chain op_le op_le pe_int (pe_callB call_len rfl T.b_len PySem.boot_len (pa_cons (pv 0) pa_nil)) pe_int)))))
      (pss_one (ps_ret pe_bl)) pss_nil)
    (pss_one (ps_ret (pe_and (pe_cmpR op_in_sign (pe_ix ix_str (pv 0) pe_int (fun _ _ => rfl)) (pv 1) (by rfl))
      (pe_one (pe_callB (cr_all rfl) rfl T.b_all (by decide +kernel) (pa_cons (pe_lc (own := [("sign", 2)]) (g := gName 2) (tt := tYes) rfl sc_begins_among.nd (pi_str (pe_slice sl_str (pv 0) (po_some pe_int) po_none))
        (blkOk_by (N := N_begins_among) (sc := defScope s_begins_among) (by decide +kernel)) (fun _ _ _ _ _ => pg_name (i := 2) sc_begins_among.nd rfl (Or.inl rfl)) (fun _ _ _ _ _ => pts_nil)
        (fun _ _ _ _ _ => pe_cmpR op_in_sign (pv 2) (pe_glob (v := .str FG) rfl mF ⟨_, rfl⟩) (by rfl))) pa_nil)))))), ?_⟩
  have hl := nm_len z hz
  have hl2 : z.length ≤ sizeLine := le_line (by omega)
  refine ⟨_, rfl, .str z, .ty "str", .type "str", .type "str", true, rfl, .ty _, .base (.str _), kit_ty (by decide +kernel), _, rfl, ?_⟩
  refine iteF ?_
  refine ⟨_, rfl, _, _, rfl, ⟨hl2, rfl⟩, _, _, rfl, rfl, _, rfl, ?_⟩
  refine ifT (decide_eq_true (by omega)) ?_
  refine ⟨_, _, rfl, rfl, _, rfl, ?_⟩
  refine ifF (by simp; omega) ?_
  -- the return
  obtain ⟨c, l, e⟩ : ∃ c l, z.cps.toList = c :: l := by
    cases h : z.cps.toList with
    | nil =>
      have : z.length = 0 := by simp [Str.length, ← Array.length_toList, h]
      omega
    | cons c l => exact ⟨c, l, rfl⟩
  refine ⟨_, rfl, z, 0, c, rfl, rfl, hl2, ?_, _, rfl, c, L, rfl, rfl, _, rfl, ?_⟩
  · rw [e]; exact atI_nat (j := 0) rfl
  have eb : begB z L = (decide (c ∈ L.cps.toList) && l.all (fun c => decide (c ∈ FG.cps.toList))) := by
    show begL z.cps.toList L = _
    rw [e]
    rfl
  refine ifb (fun hc => ?_) (fun hc => ?_)
  · -- all(..)
    have e2 : (cutS z (some 1) none).cps.toList = l := by
      have : z.length = l.length + 1 := by simp [Str.length, ← Array.length_toList, e]
      unfold cutS
      rw [show HT.sIx z.length 0 (some 1) = 1 from (HT.sIx_nat z.length 0 1).trans (by omega), HT.sIx_none, e, this]
      simp
    refine ⟨_, rfl, _, rfl, z, rfl, hl2, _, rfl, fun D nD => ?_⟩
    refine lc_it (walk_str (z := cutS z (some 1) none)) (fun i H' => H' = upd H D (.lst (((l.take i).map (fun c => decide (c ∈ FG.cps.toList))).map V.bl))) rfl (fun _ _ _ _ => trivial) (fun i x H1 H2 hi p y => ?_) (fun H1 p => ?_)
    · subst p
      obtain ⟨rfl, c1, hc1, rfl⟩ := y
      have hc2 : l[i]? = some c1 := by rw [← e2, ← hc1]; simp
      refine ⟨rfl, ?_⟩
      refine ⟨_, rfl, c1, FG, rfl, rfl, _, upd_same, ?_, ?_⟩
      · refine lt_line ?_
        have : l.length ≤ 4 := by
          have : z.length = l.length + 1 := by simp [Str.length, ← Array.length_toList, e]
          omega
        simp; omega
      · rw [upd_upd, List.take_add_one, hc2]
        simp
    · subst p
      have hn : (cutS z (some 1) none).cps.size = l.length := by rw [← Array.length_toList, e2]
      rw [hn, List.take_length]
      refine ⟨D, _, rfl, SqL.of upd_same, ?_⟩
      have hk := k (upd H D (.lst ((l.map (fun c => decide (c ∈ FG.cps.toList))).map V.bl))) (same_new nD _)
      rw [eb, hc, Bool.true_and] at hk
      rw [show (l.map (fun c => decide (c ∈ FG.cps.toList))).all id = l.all (fun c => decide (c ∈ FG.cps.toList)) from by rw [List.all_map]; rfl]
      exact hk
  · have hk := k H (Same.refl H)
    rw [eb, hc, Bool.false_and] at hk
    exact hk
end
end Sy

set_option Elab.async false
set_option linter.all false
set_option maxRecDepth 100000
set_option maxHeartbeats 4000000
namespace Sy
open PySem L2

theorem cut_to (xs : List V) (i : Nat) : cutV xs none (some (i : Int)) = xs.take i := by
  unfold cutV
  rw [HT.sIx_none, HT.sIx_nat, List.drop_zero, Nat.sub_zero, List.take_eq_take_iff]
  omega
theorem cut_from (xs : List V) (i : Nat) : cutV xs (some (i : Int)) none = xs.drop i := by
  unfold cutV
  rw [HT.sIx_none, HT.sIx_nat]
  by_cases h : i ≤ xs.length
  · rw [Nat.min_eq_left h]
    exact List.take_of_length_le (by rw [List.length_drop]; omega)
  · rw [Nat.min_eq_right (by omega), Nat.sub_self, List.take_zero, List.drop_eq_nil_of_le (by omega)]
theorem inV_str (n : Str) (ls : List Str) : inV (.str n) (ls.map V.str) = decide (n ∈ ls) := by
  rw [Bool.eq_iff_iff]
  unfold inV
  simp [List.any_eq_true, eqV]
theorem inV_int (n : Int) (ls : List Int) : inV (.int n) (ls.map V.int) = decide (n ∈ ls) := by
  rw [Bool.eq_iff_iff]
  unfold inV
  simp [List.any_eq_true, eqV]
theorem flat_str (ls : List Str) : (ls.map V.str).all flatV = true := by
  rw [List.all_map]; exact List.all_eq_true.mpr fun _ _ => rfl
theorem flat_int (ls : List Int) : (ls.map V.int).all flatV = true := by
  rw [List.all_map]; exact List.all_eq_true.mpr fun _ _ => rfl
theorem strD (a b : Str) : decide (V.str a = V.str b) = decide (a = b) := by
  rw [Bool.eq_iff_iff]; simp
theorem strT {a b : Str} (h : a = b) : decide (V.str a = V.str b) = true := by rw [strD]; exact decide_eq_true h
theorem strF {a b : Str} (h : ¬ a = b) : decide (V.str a = V.str b) = false := by rw [strD]; exact decide_eq_false h
theorem of_strT {a b : Str} (h : decide (V.str a = V.str b) = true) : a = b := by rw [strD] at h; exact of_decide_eq_true h
theorem of_strF {a b : Str} (h : decide (V.str a = V.str b) = false) : ¬ a = b := by rw [strD] at h; exact of_decide_eq_false h

def spIsP : Sp := fun vs H Q _ => ∃ z : Str, vs = [.str z] ∧ Nm z ∧ ∀ H', Same H H' → Q (.bl (plB z)) H'
def spIsS : Sp := fun vs H Q _ => ∃ z : Str, vs = [.str z] ∧ Nm z ∧ ∀ H', Same H H' → Q (.bl (!plB z)) H'
def spSuit : Sp := fun vs H Q _ => ∃ w a b : Str, vs = [.str w, .str a, .str b] ∧ Nm a ∧ Nm b ∧ ∀ H', Same H H' → Q (.bl (suitB w a b)) H'
def spIsF : Sp := fun vs H Q _ => ∃ (a : Addr) (ks : List Str), vs = [.ref a] ∧ H a = some (.lst (ks.map V.str)) ∧ FrOk ks ∧ ∀ H', Same H H' → Q (.bl true) H'
section
variable {P : Program} {w : World} {K : PySem.W.Frag} {mg : Str → Option Value} {base : Heap}
theorem cal_isP (T : Top K mg) : C8.Cal P w K mg base 2 "is_place" spIsP [] := by
  refine cal_of T.d_is_place fun f fd F => F.ok sc_is_place (fun vs H Q E h => ?_) (fun cdv A outer s H vs Q E hr h => ?_)
  · obtain ⟨z, rfl, _⟩ := h
    rfl
  obtain ⟨z, rfl, hz, k⟩ := h
  obtain ⟨tS, mS⟩ := T.g_SMALL
  refine ⟨_, pss_one (ps_ret (pe_d (cal_beg T) hr (pa_cons (pv 0) (pa_cons (pe_glob (v := .str SM) rfl mS ⟨_, rfl⟩) pa_nil)))), ?_⟩
  refine ⟨_, rfl, z, SM, rfl, hz, fun H' e => ?_⟩
  rw [begS_pl z hz]
  exact k H' e
theorem cal_isS (T : Top K mg) : C8.Cal P w K mg base 2 "is_set" spIsS [] := by
  refine cal_of T.d_is_set fun f fd F => F.ok sc_is_set (fun vs H Q E h => ?_) (fun cdv A outer s H vs Q E hr h => ?_)
  · obtain ⟨z, rfl, _⟩ := h
    rfl
  obtain ⟨z, rfl, hz, k⟩ := h
  obtain ⟨tS, mS⟩ := T.g_GREAT
  refine ⟨_, pss_one (ps_ret (pe_d (cal_beg T) hr (pa_cons (pv 0) (pa_cons (pe_glob (v := .str GR) rfl mS ⟨_, rfl⟩) pa_nil)))), ?_⟩
  refine ⟨_, rfl, z, GR, rfl, hz, fun H' e => ?_⟩
  rw [begG_pl z hz]
  exact k H' e
theorem cal_suit (T : Top K mg) : C8.Cal P w K mg base 3 "names_suit" spSuit [] := by
  refine cal_of T.d_names_suit fun f fd F => F.ok sc_names_suit (fun vs H Q E h => ?_) (fun cdv A outer s H vs Q E hr h => ?_)
  · obtain ⟨wd, a, b, rfl, _⟩ := h
    rfl
  obtain ⟨wd, a, b, rfl, ha, hb, k⟩ := h
  have GP : C8.Cal P w K mg base 2 "is_place" spIsP [] := cal_isP T
  have GS : C8.Cal P w K mg base 2 "is_set" spIsS [] := cal_isS T
  refine ⟨_, pss_cons (ps_if (pt_cmpR op_eq (pv 0) pe_str (nomark _)) (pss_one (ps_ret (pe_and (pe_d GP hr (pa_cons (pv 1) pa_nil)) (pe_one (pe_d GS hr (pa_cons (pv 2) pa_nil)))))) pss_nil)
    (pss_cons (ps_if (pt_cmpR op_eq (pv 0) pe_str (nomark _)) (pss_one (ps_ret (pe_and (pe_d GS hr (pa_cons (pv 1) pa_nil)) (pe_one (pe_d GS hr (pa_cons (pv 2) pa_nil)))))) pss_nil)
    (pss_one (ps_ret (pe_and (pe_d GP hr (pa_cons (pv 1) pa_nil)) (pe_one (pe_d GP hr (pa_cons (pv 2) pa_nil))))))), ?_⟩
  refine ⟨_, rfl, rfl, _, rfl, ?_⟩
  refine ifb (fun c => ?_) (fun c => ?_)
  · have e := of_strT c
    have es : suitB wd a b = (plB a && !plB b) := by unfold suitB; rw [if_pos e]
    rw [es] at k
    refine ⟨_, rfl, a, rfl, ha, fun H1 s1 => ⟨_, rfl, ?_⟩⟩
    refine ifb (fun c1 => ?_) (fun c1 => ?_)
    · refine ⟨_, rfl, b, rfl, hb, fun H2 s2 => ?_⟩
      have := k H2 (s1.trans s2)
      rw [c1, Bool.true_and] at this
      exact this
    · have := k H1 s1
      rw [c1, Bool.false_and] at this
      exact this
  refine ⟨_, rfl, rfl, _, rfl, ?_⟩
  have e0 := of_strF c
  refine ifb (fun c => ?_) (fun c => ?_)
  · have e := of_strT c
    have es : suitB wd a b = (!plB a && !plB b) := by unfold suitB; rw [if_neg e0, if_pos e]
    rw [es] at k
    refine ⟨_, rfl, a, rfl, ha, fun H1 s1 => ⟨_, rfl, ?_⟩⟩
    refine ifb (fun c1 => ?_) (fun c1 => ?_)
    · refine ⟨_, rfl, b, rfl, hb, fun H2 s2 => ?_⟩
      have := k H2 (s1.trans s2)
      rw [c1, Bool.true_and] at this
      exact this
    · have := k H1 s1
      rw [c1, Bool.false_and] at this
      exact this
  · have e := of_strF c
    have es : suitB wd a b = (plB a && plB b) := by unfold suitB; rw [if_neg e0, if_neg e]
    rw [es] at k
    refine ⟨_, rfl, a, rfl, ha, fun H1 s1 => ⟨_, rfl, ?_⟩⟩
    refine ifb (fun c1 => ?_) (fun c1 => ?_)
    · refine ⟨_, rfl, b, rfl, hb, fun H2 s2 => ?_⟩
      have := k H2 (s1.trans s2)
      rw [c1, Bool.true_and] at this
      exact this
    · have := k H1 s1
      rw [c1, Bool.false_and] at this
      exact this
theorem cal_isF (T : Top K mg) : C8.Cal P w K mg base 3 "is_frame" spIsF [] := by
  refine cal_of T.d_is_frame fun f fd F => F.ok sc_is_frame (fun vs H Q E h => ?_) (fun cdv A outer s H vs Q E hr h => ?_)
  · obtain ⟨a, ks, rfl, _⟩ := h
    rfl
  obtain ⟨a, ks, rfl, ha, fr, k⟩ := h
  obtain ⟨tM, mM⟩ := T.g_MOST_NAMES
  have GP : C8.Cal P w K mg base 2 "is_place" spIsP [] := cal_isP T
  have GS : C8.Cal P w K mg base 2 "is_set" spIsS [] := cal_isS T
  refine ⟨_, pss_cons (ps_if (PW.pt (pw_or (pt_not (pt_val (pe_callB call_isi rfl T.b_isinstance (by decide +kernel) (pa_cons (pv 0) (pa_cons (pe_bltn rfl T.b_list (by decide +kernel) (v := .ty "list") rfl) pa_nil)))))
      (pw_or1 (pt_cmpR op_gt (pe_callB call_len_seq rfl T.b_len PySem.boot_len (pa_cons (pv 0) pa_nil)) (pe_glob (v := .int 4) rfl mM ⟨_, rfl⟩) (nomark _)))))
      (pss_one (ps_ret pe_bl)) pss_nil)
    (pss_cons (ps_for PassesOwn.never rfl (pi_enum rfl T.b_enumerate (pa_cons (pv 0) pa_nil)) (pg_tup rfl (pgs_cons (pg_name (i := 1) sc_is_frame.nd rfl (Or.inl rfl)) (pgs_cons (pg_name (i := 2) sc_is_frame.nd rfl (Or.inl rfl)) pgs_nil)))
      (pss_cons (ps_if (PW.pt (pw_and (pt_not (pt_val (pe_d GP hr (pa_cons (pv 2) pa_nil)))) (pw_and1 (pt_not (pt_val (pe_d GS hr (pa_cons (pv 2) pa_nil))))))) (pss_one (ps_ret pe_bl)) pss_nil)
        (pss_one (ps_if (pt_cmpR op_in_seq (pv 2) (pe_slice sl_list (pv 0) po_none (po_some (pv 1))) (by rfl)) (pss_one (ps_ret pe_bl)) pss_nil))))
      (pss_one (ps_ret pe_bl))), ?_⟩
  have hl : (ks.map V.str).length = ks.length := List.length_map _
  refine ⟨_, rfl, .ref a, .ty "list", .type "list", .type "list", true, rfl, .ty _, .base (.lst ha), kit_ty (by decide +kernel), _, rfl, ?_⟩
  refine iteF ?_
  refine ⟨_, rfl, a, _, rfl, .inl (SqL.of ha), _, _, rfl, rfl, _, rfl, ?_⟩
  refine ifF (decide_eq_false (by have := fr.len; rw [hl]; omega)) ?_
  refine ⟨_, rfl, a, _, rfl, SqL.of ha, for_it (walk_enum (xs := ks.map V.str)) (fun i σ H' => ∃ v1 v2, σ = [some (.ref a), v1, v2] ∧ Same H H') ⟨_, _, rfl, Same.refl H⟩
    (fun i σ H' _ ⟨_, _, _, e⟩ => SqL.of (e _ _ ha)) (fun i x σ H1 H2 hi p y => ?_) (fun σ H1 p => ?_)⟩
  · obtain ⟨v1, v2, rfl, e1⟩ := p
    obtain ⟨t, x1, x2, rfl, nt, rfl, hx1, hx2⟩ := y
    have hx1' : V.int ((i : Nat) : Int) = x1 := Option.some.inj hx1
    subst hx1'
    have hx2 : (ks.map V.str)[i]? = some x2 := hx2
    rw [List.getElem?_map] at hx2
    obtain ⟨n, hn, rfl⟩ := Option.map_eq_some_iff.mp hx2
    have hnm : n ∈ ks := List.mem_of_getElem? hn
    have e2 : Same H (upd H1 t (.tup [.int ((i : Nat) : Int), .str n])) := e1.new nt _
    refine ⟨t, _, rfl, SqT.of upd_same, rfl, _, _, rfl, _, _, rfl, rfl, ?_⟩
    refine ⟨_, rfl, n, rfl, fr.nm n hnm, fun H3 e3 => ⟨_, rfl, ?_⟩⟩
    have fin : ∀ H4, Same H H4 → tIfS (tTest (tOp (rIn K false) (tVar 2) (tSl (rSlL K) (tVar 0) tNoPart (tPart (tVar 1))))) (tRet (tC (.bl false))) tNext
        { nx := fun σ H' => ∃ v1 v2, σ = [some (.ref a), v1, v2] ∧ Same H H', rt := Q, ct := fun σ H' => ∃ v1 v2, σ = [some (.ref a), v1, v2] ∧ Same H H', bk := fun σ H' => tRet (tC (.bl true)) { nx := fun _ H' => Q .non H', rt := Q } σ H' }
        [some (.ref a), some (.int ((i : Nat) : Int)), some (.str n)] H4 := by
      intro H4 e4
      refine ⟨_, rfl, _, rfl, _, rfl, _, rfl, a, _, rfl, SqL.of (e4 _ _ ha), fun p np => ?_⟩
      refine ⟨p, _, rfl, .inl (SqL.of upd_same), rfl, ?_, _, rfl, ?_⟩
      · rw [cut_to, ← List.map_take]
        exact flat_str _
      · rw [cut_to, ← List.map_take]
        refine ifF ?_ ⟨_, _, rfl, e4.new np _⟩
        show inV _ _ = false
        rw [inV_str]
        refine decide_eq_false fun hm => ?_
        obtain ⟨j, hj⟩ := List.mem_iff_getElem?.mp hm
        have hj2 : j < i := by
          have h1 := (List.getElem?_eq_some_iff.mp hj).1
          rw [List.length_take] at h1
          omega
        rw [List.getElem?_take_of_lt hj2] at hj
        have := nd_ix fr.nd hj hn
        omega
    cases hp : plB n with
    | true => exact fin H3 (e2.trans e3)
    | false =>
      refine ⟨_, rfl, n, rfl, fr.nm n hnm, fun H4 e4 => ⟨_, rfl, ?_⟩⟩
      rw [hp]
      exact fin H4 ((e2.trans e3).trans e4)
  · obtain ⟨v1, v2, rfl, e1⟩ := p
    exact k H1 e1
end
end Sy

set_option Elab.async false
set_option linter.all false
set_option maxRecDepth 100000
set_option maxHeartbeats 4000000
namespace Sy
open PySem L2

theorem intD (a b : Int) : decide (V.int a = V.int b) = decide (a = b) := by
  rw [Bool.eq_iff_iff]; simp
/-- the numbers below i of which f is true -/
def accF (f : Nat → Bool) (i : Nat) : List Int := ((List.range i).filter f).map (fun p => ((p : Nat) : Int))
theorem accF_succ (f : Nat → Bool) (i : Nat) : accF f (i + 1) = accF f i ++ (if f i = true then [((i : Nat) : Int)] else []) := by
  unfold accF
  rw [List.range_succ, List.filter_append, List.map_append]
  congr 1
  by_cases h : f i = true
  · rw [if_pos h]; simp [h]
  · rw [if_neg h]; simp [h]
theorem accF_len (f : Nat → Bool) (i : Nat) : (accF f i).length ≤ i := by
  unfold accF
  rw [List.length_map]
  exact Nat.le_trans (List.length_filter_le _ _) (by rw [List.length_range]; exact Nat.le_refl _)
theorem pw_acc (row : List Int) (t : Nat) : pw row t = accF (fun i => trk (row.getD i 0) t) row.length := rfl
theorem bits_acc (i k : Nat) : bits i k = accF (fun p => trk (i : Int) p) k := rfl

def StandAt (H : Hp) (d : Addr) (ks : List Str) (e : Env) : Prop :=
  ∃ kvs : List (Key × V), H d = some (.dK kvs) ∧ kvs.length ≤ ks.length ∧ ∀ n ∈ ks, ∃ l, valV kvs (Sum.inr n) = some (.ref l) ∧ H l = some (.lst ((e n).map V.int))
theorem StandAt.keep {H H' : Hp} {d : Addr} {ks : List Str} {e : Env} (h : StandAt H d ks e) (s : Same H H') : StandAt H' d ks e := by
  obtain ⟨kvs, h1, h2, h3⟩ := h
  refine ⟨kvs, s _ _ h1, h2, fun n hn => ?_⟩
  obtain ⟨l, h4, h5⟩ := h3 n hn
  exact ⟨l, h4, s _ _ h5⟩
theorem StandAt.get {H : Hp} {d : Addr} {ks : List Str} {e : Env} (h : StandAt H d ks e) {n : Str} (hn : n ∈ ks) : ∃ l, DGet H d (.str n) (some (.ref l)) ∧ H l = some (.lst ((e n).map V.int)) := by
  obtain ⟨kvs, h1, h2, h3⟩ := h
  obtain ⟨l, h4, h5⟩ := h3 n hn
  refine ⟨l, ?_, h5⟩
  have := DGet.k (k := Sum.inr n) h1
  rw [h4] at this
  exact this

def spTrk : Sp := fun vs H Q _ => ∃ (i : Int) (t : Nat), vs = [.int i, .int (t : Int)] ∧ ∀ H', Same H H' → Q (.bl (trk i t)) H'
def spPw : Sp := fun vs H Q _ => ∃ (a : Addr) (row : List Int) (t : Nat), vs = [.ref a, .int (t : Int)] ∧ H a = some (.lst (row.map V.int)) ∧ row.length ≤ 100 ∧
  ∀ H' p, Same H H' → H p = none → H' p = some (.lst ((pw row t).map V.int)) → Q (.ref p) H'
def spPby : Sp := fun vs H Q _ => ∃ (n : Str) (k i : Nat), vs = [.str n, .int (k : Int), .int (i : Int)] ∧ Nm n ∧ k ≤ 100 ∧
  ∀ H' p, Same H H' → H p = none → H' p = some (.lst ((cAt n k i).map V.int)) → Q (.ref p) H'
def spBare : Sp := fun vs H Q _ => ∃ (p d : Addr) (w a b : Str) (ks : List Str) (e : Env), vs = [.ref p, .ref d] ∧ H p = some (.tup [.str w, .str a, .str b]) ∧ StandAt H d ks e ∧ Let (.bare w a b) ks ∧ POk e ks ∧ (∀ n ∈ ks, (e n).length ≤ 100) ∧
  ∀ H', Same H H' → Q (.bl (bareS w (e a) (e b))) H'
section
variable {P : Program} {w : World} {K : PySem.W.Frag} {mg : Str → Option Value} {base : Heap}
theorem cal_trk (T : Top K mg) : C8.Cal P w K mg base 1 "has_track" spTrk [] := by
  refine cal_of T.d_has_track fun f fd F => F.ok sc_has_track (fun vs H Q E h => ?_) (fun cdv A outer s H vs Q E hr h => ?_)
  · obtain ⟨i, t, rfl, _⟩ := h
    rfl
  obtain ⟨i, t, rfl, k⟩ := h
  refine ⟨_, pss_one (ps_ret (pe_cmpR op_eq (pe_op op_and (pe_op op_shr (pv 0) (pv 1)) pe_int) pe_int (nomark _))), ?_⟩
  refine ⟨_, rfl, _, rfl, _, _, rfl, rfl, Int.natCast_nonneg _, _, _, rfl, rfl, rfl, ?_⟩
  have := k H (Same.refl H)
  unfold trk at this
  rw [← intD] at this
  exact this
theorem cal_pw (T : Top K mg) : C8.Cal P w K mg base 2 "places_with" spPw [] := by
  refine cal_of T.d_places_with fun f fd F => F.ok sc_places_with (fun vs H Q E h => ?_) (fun cdv A outer s H vs Q E hr h => ?_)
  · obtain ⟨a, row, t, rfl, _⟩ := h
    rfl
  obtain ⟨a, row, t, rfl, ha, hl, k⟩ := h
  have GT : C8.Cal P w K mg base 1 "has_track" spTrk [] := cal_trk T
  refine ⟨_, pss_one (ps_ret (pe_lc (own := [("place", 2)]) (g := gName 2) rfl sc_places_with.nd (pi_range1 rfl T.b_range (pa_cons (pe_callB call_len_seq rfl T.b_len PySem.boot_len (pa_cons (pv 0) pa_nil)) pa_nil))
      (blkOk_by (N := N_places_with) (sc := defScope s_places_with) (by decide +kernel)) (fun _ _ _ _ _ => pg_name (i := 2) sc_places_with.nd rfl (Or.inl rfl))
      (fun _ _ _ _ _ => pts_one (pt_val (pe_d GT hr (pa_cons (pe_ix (r := rIxL K) ix_list (pv 0) (pv 2) (fun _ _ => rfl)) (pa_cons (pv 1) pa_nil))))) (fun _ _ _ _ _ => pv 2))), ?_⟩
  have hl2 : (row.map V.int).length = row.length := List.length_map _
  refine ⟨_, rfl, a, _, rfl, .inl (SqL.of ha), _, rfl, by rw [hl2]; omega, by rw [hl2]; omega, fun D nD => ?_⟩
  refine lc_range (lo := 0) (n := _) (fun i H' => Same H H' ∧ H' D = some (.lst ((accF (fun i => trk (row.getD i 0) t) i).map V.int))) ⟨same_new nD _, upd_same⟩ (fun i H1 hi p => ?_) (fun H1 p => ?_)
  · obtain ⟨e1, hD⟩ := p
    have hi' : i < row.length := by
      rw [hl2] at hi
      simpa using hi
    refine ⟨rfl, _, rfl, _, rfl, a, _, _, _, rfl, rfl, SqL.of (e1 _ _ ha), at_of (j := i) (Int.zero_add _) (by rw [List.getElem?_map, List.getElem?_eq_getElem hi']; rfl), _, rfl, row[i], t, rfl, fun H2 e2 => ⟨_, rfl, ?_⟩⟩
    have eg : row[i] = row.getD i 0 := by rw [List.getD_eq_getElem?_getD, List.getElem?_eq_getElem hi']; rfl
    have hD2 := e2 _ _ hD
    refine ifb (fun c => ?_) (fun c => ?_)
    · refine ⟨_, rfl, _, hD2, lt_line (by rw [List.length_map]; have := accF_len (fun i => trk (row.getD i 0) t) i; omega), ?_, ?_⟩
      · exact (e1.trans e2).upd_free nD _
      · rw [upd_same, accF_succ, ← eg, if_pos c, List.map_append, Int.zero_add]
        rfl
    · refine ⟨e1.trans e2, ?_⟩
      rw [accF_succ, ← eg, if_neg (by rw [c]; exact Bool.false_ne_true), List.append_nil]
      exact hD2
  · obtain ⟨e1, hD⟩ := p
    refine k H1 D e1 nD ?_
    rw [hD, hl2]
    rfl
theorem cal_pby (T : Top K mg) : C8.Cal P w K mg base 3 "places_by" spPby [] := by
  refine cal_of T.d_places_by fun f fd F => F.ok sc_places_by (fun vs H Q E h => ?_) (fun cdv A outer s H vs Q E hr h => ?_)
  · obtain ⟨n, sz, j, rfl, _⟩ := h
    rfl
  obtain ⟨n, sz, j, rfl, hn, hl, k⟩ := h
  have GT : C8.Cal P w K mg base 1 "has_track" spTrk [] := cal_trk T
  have GP : C8.Cal P w K mg base 2 "is_place" spIsP [] := cal_isP T
  refine ⟨_, pss_cons (ps_if (pt_val (pe_d GP hr (pa_cons (pv 0) pa_nil))) (pss_one (ps_ret (pe_lst (pa_cons (pv 2) pa_nil)))) pss_nil)
    (pss_one (ps_ret (pe_lc (own := [("place", 3)]) (g := gName 3) rfl sc_places_by.nd (pi_range1 rfl T.b_range (pa_cons (pv 1) pa_nil))
      (blkOk_by (N := N_places_by) (sc := defScope s_places_by) (by decide +kernel)) (fun _ _ _ _ _ => pg_name (i := 3) sc_places_by.nd rfl (Or.inl rfl))
      (fun _ _ _ _ _ => pts_one (pt_val (pe_d GT hr (pa_cons (pv 2) (pa_cons (pv 3) pa_nil))))) (fun _ _ _ _ _ => pv 3)))), ?_⟩
  refine ⟨_, rfl, n, rfl, hn, fun H1 e1 => ⟨_, rfl, ?_⟩⟩
  refine ifb (fun c => ?_) (fun c => ?_)
  · refine ⟨_, rfl, by show 1 ≤ sizeLine; decide, fun p np => ?_⟩
    refine k _ p (e1.new np _) (e1.free np) ?_
    rw [upd_same]
    unfold cAt
    rw [if_pos c]
    rfl
  · refine ⟨_, rfl, _, rfl, by omega, by omega, fun D nD => ?_⟩
    have nD0 := e1.free nD
    refine lc_range (lo := 0) (n := _) (fun i H' => Same H H' ∧ H' D = some (.lst ((accF (fun i => trk (j : Int) i) i).map V.int))) ⟨e1.new nD _, upd_same⟩ (fun i H1 hi p => ?_) (fun H1 p => ?_)
    · obtain ⟨e1, hD⟩ := p
      have hi' : i < sz := by simpa using hi
      refine ⟨rfl, _, rfl, _, rfl, (j : Int), i, by rw [Int.zero_add]; rfl, fun H2 e2 => ⟨_, rfl, ?_⟩⟩
      have hD2 := e2 _ _ hD
      refine ifb (fun c => ?_) (fun c => ?_)
      · refine ⟨_, rfl, _, hD2, lt_line (by rw [List.length_map]; have := accF_len (fun i => trk (j : Int) i) i; omega), ?_, ?_⟩
        · exact (e1.trans e2).upd_free nD0 _
        · rw [upd_same, accF_succ, if_pos c, List.map_append, Int.zero_add]
          rfl
      · refine ⟨e1.trans e2, ?_⟩
        rw [accF_succ, if_neg (by rw [c]; exact Bool.false_ne_true), List.append_nil]
        exact hD2
    · obtain ⟨e1, hD⟩ := p
      refine k H1 D e1 nD0 ?_
      rw [hD]
      unfold cAt
      rw [if_neg (by rw [c]; exact Bool.false_ne_true)]
      rfl
end
end Sy

set_option Elab.async false
set_option linter.all false
set_option maxRecDepth 100000
set_option maxHeartbeats 4000000
namespace Sy
open PySem L2

theorem shaped1 (p : Int) : SeqAt.shaped (.list [.int p]) = true := by rfl
theorem eqv1 (p q : Int) : PyData.eqv (.list [.int p]) (.list [.int q]) = decide ([p] = [q]) := by
  rw [Bool.eq_iff_iff]
  simp [PyData.eqv, PyData.eqvAll]
theorem suit_same {a b : Str} (h : suitB "same" a b = true) : plB a = true ∧ plB b = true := by
  unfold suitB at h
  rw [if_neg (by decide +kernel), if_neg (by decide +kernel), Bool.and_eq_true] at h
  exact h
theorem suit_ahead {a b : Str} (h : suitB "ahead" a b = true) : plB a = true ∧ plB b = true := by
  unfold suitB at h
  rw [if_neg (by decide +kernel), if_neg (by decide +kernel), Bool.and_eq_true] at h
  exact h
theorem suit_next {a b : Str} (h : suitB "next" a b = true) : plB a = true ∧ plB b = true := by
  unfold suitB at h
  rw [if_neg (by decide +kernel), if_neg (by decide +kernel), Bool.and_eq_true] at h
  exact h
theorem suit_in {a b : Str} (h : suitB "in" a b = true) : plB a = true := by
  unfold suitB at h
  rw [if_pos rfl, Bool.and_eq_true] at h
  exact h.1
theorem bareS_in (o t : List Int) : bareS "in" o t = o.all (fun p => decide (p ∈ t)) := by
  unfold bareS; rw [if_pos (Or.inl rfl)]
theorem bareS_within (o t : List Int) : bareS "within" o t = o.all (fun p => decide (p ∈ t)) := by
  unfold bareS; rw [if_pos (Or.inr rfl)]
theorem bareS_same (o t : List Int) : bareS "same" o t = decide (o = t) := by
  unfold bareS; rw [if_neg (by decide +kernel), if_pos rfl]
theorem bareS_ahead (p q : Int) : bareS "ahead" [p] [q] = decide (p < q) := by
  unfold bareS; rw [if_neg (by decide +kernel), if_neg (by decide +kernel), if_pos rfl]; rfl
theorem bareS_next (p q : Int) : bareS "next" [p] [q] = decide (p = q - 1) := by
  unfold bareS; rw [if_neg (by decide +kernel), if_neg (by decide +kernel), if_neg (by decide +kernel)]; rfl
theorem word5 {w : Str} (h : w ∈ rowWords) : w = "in" ∨ w = "same" ∨ w = "within" ∨ w = "ahead" ∨ w = "next" := by
  unfold rowWords at h
  simpa using h
section
variable {P : Program} {w : World} {K : PySem.W.Frag} {mg : Str → Option Value} {base : Heap}
theorem cal_bare (T : Top K mg) : C8.Cal P w K mg base 1 "bare_holds" spBare [] := by
  refine cal_of T.d_bare_holds fun f fd F => F.ok sc_bare_holds (fun vs H Q E h => ?_) (fun cdv A outer s H vs Q E hr h => ?_)
  · obtain ⟨p, d, wd, a, b, ks, e, rfl, _⟩ := h
    rfl
  obtain ⟨p, d, wd, a, b, ks, e, rfl, hp, hd, ⟨hw, hs, ma, mb⟩, hpo, hlen, k⟩ := h
  have nd := sc_bare_holds.nd
  refine ⟨_, pss_cons (ps_set (i := 2) nd rfl (Or.inl rfl) (pe_ix ix_tup (pv 0) pe_int (fun _ _ => rfl)))
    (pss_cons (ps_set (i := 3) nd rfl (Or.inl rfl) (pe_dget (hu_of hr) (pv 1) (pe_ix ix_tup (pv 0) pe_int (fun _ _ => rfl)) (fun _ _ => rfl)))
    (pss_cons (ps_set (i := 4) nd rfl (Or.inr rfl) (pe_dget (hu_of hr) (pv 1) (pe_ix ix_tup (pv 0) pe_int (fun _ _ => rfl)) (fun _ _ => rfl)))
    (pss_cons (ps_if (pt_cmpR op_eq (pv 2) pe_str (nomark _)) (pss_one (ps_ret (pe_cmpR op_in_seq (pe_ix ix_list (pv 3) pe_int (fun _ _ => rfl)) (pv 4) (by rfl)))) pss_nil)
    (pss_cons (ps_if (pt_cmpR op_eq (pv 2) pe_str (nomark _)) (pss_one (ps_ret (pe_cmpR (op_eqD hr.units) (pv 3) (pv 4) (nomark _)))) pss_nil)
    (pss_cons (ps_if (pt_cmpR op_eq (pv 2) pe_str (nomark _)) (pss_one (ps_ret (pe_callB (cr_all rfl) rfl T.b_all (by decide +kernel) (pa_cons (pe_lc (own := [("place", 5)]) (g := gName 5) (tt := tYes) rfl nd (pi_list (pv 3))
        (blkOk_by (N := N_bare_holds) (sc := defScope s_bare_holds) (by decide +kernel)) (fun _ _ _ _ _ => pg_name (i := 5) nd rfl (Or.inl rfl)) (fun _ _ _ _ _ => pts_nil)
        (fun _ _ _ _ _ => pe_cmpR (r := rIn K false) op_in_seq (pv 5) (pv 4) (by rfl))) pa_nil)))) pss_nil)
    (pss_cons (ps_if (pt_cmpR op_eq (pv 2) pe_str (nomark _)) (pss_one (ps_ret (pe_cmpR op_lt (pe_ix ix_list (pv 3) pe_int (fun _ _ => rfl)) (pe_ix ix_list (pv 4) pe_int (fun _ _ => rfl)) (nomark _)))) pss_nil)
    (pss_one (ps_ret (pe_cmpR op_eq (pe_op op_add (pe_ix ix_list (pv 3) pe_int (fun _ _ => rfl)) pe_int) (pe_ix ix_list (pv 4) pe_int (fun _ _ => rfl)) (nomark _)))))))))), ?_⟩
  obtain ⟨la, ga, ea⟩ := hd.get ma
  obtain ⟨lb, gb, eb⟩ := hd.get mb
  refine ⟨_, rfl, p, _, _, _, rfl, rfl, SqT.of hp, atI_nat (j := 0) rfl, ?_⟩
  refine ⟨_, rfl, _, rfl, p, _, _, _, rfl, rfl, SqT.of hp, atI_nat (j := 1) rfl, d, _, rfl, ga, ?_⟩
  refine ⟨_, rfl, _, rfl, p, _, _, _, rfl, rfl, SqT.of hp, atI_nat (j := 2) rfl, d, _, rfl, gb, ?_⟩
  refine ⟨_, rfl, rfl, _, rfl, ?_⟩
  rcases word5 hw with rfl | rfl | rfl | rfl | rfl
  · refine ifT (by decide +kernel) ?_
    obtain ⟨x, hx⟩ := hpo a ma (suit_in hs)
    rw [hx] at ea k
    refine ⟨_, rfl, la, _, _, _, rfl, rfl, SqL.of ea, atI_nat (j := 0) rfl, _, rfl, lb, _, rfl, .inl (SqL.of eb), rfl, flat_int _, ?_⟩
    have := k H (Same.refl H)
    rw [bareS_in] at this
    show Q (.bl (inV (.int x) ((e b).map V.int))) H
    rw [inV_int]
    simpa using this
  · refine ifF (by decide +kernel) ?_
    refine ⟨_, rfl, rfl, _, rfl, ifT (by decide +kernel) ?_⟩
    obtain ⟨x, hx⟩ := hpo a ma (suit_same hs).1
    obtain ⟨y, hy⟩ := hpo b mb (suit_same hs).2
    rw [hx] at ea k
    rw [hy] at eb k
    refine ⟨_, rfl, _, rfl, .list [.int x], .list [.int y], .lst (SqL.of ea) (.cons (.int x) .nil), .lst (SqL.of eb) (.cons (.int y) .nil), shaped1 x, shaped1 y, ?_⟩
    have := k H (Same.refl H)
    rw [bareS_same, ← eqv1] at this
    exact this
  · refine ifF (by decide +kernel) ?_
    refine ⟨_, rfl, rfl, _, rfl, ifF (by decide +kernel) ?_⟩
    refine ⟨_, rfl, rfl, _, rfl, ifT (by decide +kernel) ?_⟩
    refine ⟨_, rfl, la, rfl, ⟨_, SqL.of ea⟩, fun D nD => ?_⟩
    refine lc_list (K := K) (a := la) (xs := (e a).map V.int) (fun i H' => H' = upd H D (.lst ((((e a).take i).map (fun p => decide (p ∈ e b))).map V.bl))) rfl
      (fun i H1 _ p => by subst p; exact SqL.of (by rw [upd_ne (ne_of_none ea nD)]; exact ea)) (fun i x H1 hx p => ?_) (fun H1 p => ?_)
    · subst p
      rw [List.getElem?_map] at hx
      obtain ⟨n, hn, rfl⟩ := Option.map_eq_some_iff.mp hx
      have hi := (List.getElem?_eq_some_iff.mp hn).1
      have h100 := hlen a ma
      refine ⟨rfl, _, rfl, _, rfl, lb, _, rfl, .inl (SqL.of (by rw [upd_ne (ne_of_none eb nD)]; exact eb)), rfl, flat_int _, _, upd_same, ?_, ?_⟩
      · refine lt_line ?_
        rw [List.length_map, List.length_map, List.length_take]
        omega
      · rw [upd_upd, List.take_add_one, hn, show (if false = true then !inV (V.int n) ((e b).map V.int) else inV (V.int n) ((e b).map V.int)) = decide (n ∈ e b) from inV_int n (e b)]
        simp
    · subst p
      rw [List.length_map, List.take_length]
      refine ⟨D, _, rfl, SqL.of upd_same, ?_⟩
      have hk := k (upd H D (.lst (((e a).map (fun p => decide (p ∈ e b))).map V.bl))) (same_new nD _)
      rw [bareS_within] at hk
      rw [show ((e a).map (fun p => decide (p ∈ e b))).all id = (e a).all (fun p => decide (p ∈ e b)) from by rw [List.all_map]; rfl]
      exact hk
  · refine ifF (by decide +kernel) ?_
    refine ⟨_, rfl, rfl, _, rfl, ifF (by decide +kernel) ?_⟩
    refine ⟨_, rfl, rfl, _, rfl, ifF (by decide +kernel) ?_⟩
    refine ⟨_, rfl, rfl, _, rfl, ifT (by decide +kernel) ?_⟩
    obtain ⟨x, hx⟩ := hpo a ma (suit_ahead hs).1
    obtain ⟨y, hy⟩ := hpo b mb (suit_ahead hs).2
    rw [hx] at ea k
    rw [hy] at eb k
    refine ⟨_, rfl, la, _, _, _, rfl, rfl, SqL.of ea, atI_nat (j := 0) rfl, _, rfl, lb, _, _, _, rfl, rfl, SqL.of eb, atI_nat (j := 0) rfl, _, _, rfl, rfl, ?_⟩
    have := k H (Same.refl H)
    rw [bareS_ahead] at this
    exact this
  · refine ifF (by decide +kernel) ?_
    refine ⟨_, rfl, rfl, _, rfl, ifF (by decide +kernel) ?_⟩
    refine ⟨_, rfl, rfl, _, rfl, ifF (by decide +kernel) ?_⟩
    refine ⟨_, rfl, rfl, _, rfl, ifF (by decide +kernel) ?_⟩
    obtain ⟨x, hx⟩ := hpo a ma (suit_next hs).1
    obtain ⟨y, hy⟩ := hpo b mb (suit_next hs).2
    rw [hx] at ea k
    rw [hy] at eb k
    refine ⟨_, rfl, la, _, _, _, rfl, rfl, SqL.of ea, atI_nat (j := 0) rfl, _, _, rfl, rfl, _, rfl, lb, _, _, _, rfl, rfl, SqL.of eb, atI_nat (j := 0) rfl, rfl, ?_⟩
    have := k H (Same.refl H)
    rw [bareS_next] at this
    rw [intD]
    have e2 : decide (x + 1 = y) = decide (x = y - 1) := by
      rw [Bool.eq_iff_iff]; simp only [decide_eq_true_eq]; omega
    rw [e2]
    exact this
end
end Sy

set_option Elab.async false
set_option linter.all false
set_option maxRecDepth 100000
set_option maxHeartbeats 4000000
namespace Sy
open PySem L2

theorem none_ok {P : Program} {w : World} {K : PySem.W.Frag} {mg : Str → Option Value} {base : Heap} {k : Nat} {x : Str} {st : Stmt} {ps : List Str} {sp : Sp} (D : DefOk K mg x st ps) (no : ∀ vs H Q E, ¬ sp vs H Q E) : C8.Cal P w K mg base k x sp [] :=
  cal_of D fun f fd F => ⟨fun vs H Q E h => absurd h (no vs H Q E), fun A outer s H args us vs Q E _ _ _ _ h => absurd h (no vs H Q E)⟩
/-- the tuple of a saying begins with its word -/
theorem SayAt.head {H : Hp} {s : Say} {v : V} (h : SayAt H s v) : ∃ p r, v = .ref p ∧ H p = some (.tup (.str s.word :: r)) := by
  cases s with
  | bare w a b => obtain ⟨p, h1, h2⟩ := h; exact ⟨p, _, h1, h2⟩
  | neg s => obtain ⟨p, u, h1, h2, _⟩ := h; exact ⟨p, _, h1, h2⟩
  | con s t => obtain ⟨p, u, u', h1, h2, _⟩ := h; exact ⟨p, _, h1, h2⟩
  | dis s t => obtain ⟨p, u, u', h1, h2, _⟩ := h; exact ⟨p, _, h1, h2⟩
  | ex n s => obtain ⟨p, u, h1, h2, _⟩ := h; exact ⟨p, _, h1, h2⟩
  | al n s => obtain ⟨p, u, h1, h2, _⟩ := h; exact ⟨p, _, h1, h2⟩
theorem rw_ne : ∀ w ∈ rowWords, w ≠ "not" ∧ w ≠ "and" ∧ w ≠ "or" ∧ w ≠ "some" ∧ w ≠ "all" := by decide +kernel
theorem dpt_pos (s : Say) : 1 ≤ dpt s := by cases s <;> simp [dpt]

def spParts (n : Nat) : Sp := fun vs H Q _ => ∃ (v : V) (s : Say) (ks : List Str), vs = [v] ∧ SayAt H s v ∧ Let s ks ∧ dpt s ≤ n ∧ ∀ H', Same H H' → Q (.int (parts s : Nat)) H'
section
variable {P : Program} {w : World} {K : PySem.W.Frag} {mg : Str → Option Value} {base : Heap}
theorem cal_parts (T : Top K mg) : ∀ n, C8.Cal P w K mg base n "many_parts" (spParts n) []
  | 0 => none_ok T.d_many_parts fun vs H Q E ⟨v, s, ks, _, _, _, h, _⟩ => by have := dpt_pos s; omega
  | n + 1 => by
    have G : C8.Cal P w K mg base n "many_parts" (spParts n) [] := cal_parts T n
    refine cal_of T.d_many_parts fun f fd F => F.ok sc_many_parts (fun vs H Q E h => ?_) (fun cdv A outer s H vs Q E hr h => ?_)
    · obtain ⟨v, s, ks, rfl, _⟩ := h
      rfl
    obtain ⟨v, sy, ks, rfl, hs, hl, hd, k⟩ := h
    refine ⟨_, pss_cons (ps_if (pt_cmpR op_eq (pe_ix ix_tup (pv 0) pe_int (fun _ _ => rfl)) pe_str (nomark _)) (pss_one (ps_ret (pe_op op_add pe_int (pe_d G hr (pa_cons (pe_ix ix_tup (pv 0) pe_int (fun _ _ => rfl)) pa_nil))))) pss_nil)
      (pss_cons (ps_if (PW.pt (pw_or (pt_cmpR op_eq (pe_ix ix_tup (pv 0) pe_int (fun _ _ => rfl)) pe_str (nomark _)) (pw_or1 (pt_cmpR op_eq (pe_ix ix_tup (pv 0) pe_int (fun _ _ => rfl)) pe_str (nomark _)))))
        (pss_one (ps_ret (pe_op op_add (pe_op op_add pe_int (pe_d G hr (pa_cons (pe_ix ix_tup (pv 0) pe_int (fun _ _ => rfl)) pa_nil))) (pe_d G hr (pa_cons (pe_ix ix_tup (pv 0) pe_int (fun _ _ => rfl)) pa_nil))))) pss_nil)
      (pss_cons (ps_if (PW.pt (pw_or (pt_cmpR op_eq (pe_ix ix_tup (pv 0) pe_int (fun _ _ => rfl)) pe_str (nomark _)) (pw_or1 (pt_cmpR op_eq (pe_ix ix_tup (pv 0) pe_int (fun _ _ => rfl)) pe_str (nomark _)))))
        (pss_one (ps_ret (pe_op op_add pe_int (pe_d G hr (pa_cons (pe_ix ix_tup (pv 0) pe_int (fun _ _ => rfl)) pa_nil))))) pss_nil)
      (pss_one (ps_ret pe_int)))), ?_⟩
    cases sy with
    | bare wd a b =>
      obtain ⟨p, rfl, hp⟩ := hs
      obtain ⟨n1, n2, n3, n4, n5⟩ := rw_ne wd hl.1
      refine ⟨_, rfl, p, _, _, _, rfl, rfl, SqT.of hp, atI_nat (j := 0) rfl, rfl, _, rfl, ifF (strF n1) ?_⟩
      refine ⟨_, rfl, p, _, _, _, rfl, rfl, SqT.of hp, atI_nat (j := 0) rfl, rfl, _, rfl, ifF (strF n2) ?_⟩
      refine ⟨_, rfl, p, _, _, _, rfl, rfl, SqT.of hp, atI_nat (j := 0) rfl, rfl, _, rfl, ifF (strF n3) ?_⟩
      refine ⟨_, rfl, p, _, _, _, rfl, rfl, SqT.of hp, atI_nat (j := 0) rfl, rfl, _, rfl, ifF (strF n4) ?_⟩
      refine ⟨_, rfl, p, _, _, _, rfl, rfl, SqT.of hp, atI_nat (j := 0) rfl, rfl, _, rfl, ifF (strF n5) ?_⟩
      exact k H (Same.refl H)
    | neg s =>
      obtain ⟨p, u, rfl, hp, h1⟩ := hs
      refine ⟨_, rfl, p, _, _, _, rfl, rfl, SqT.of hp, atI_nat (j := 0) rfl, rfl, _, rfl, ifT (strT rfl) ?_⟩
      refine ⟨_, rfl, p, _, _, _, rfl, rfl, SqT.of hp, atI_nat (j := 1) rfl, u, s, ks, rfl, h1, hl, by simp [dpt] at hd; omega, fun H1 e1 => ⟨_, _, rfl, rfl, ?_⟩⟩
      exact k H1 e1
    | con s t =>
      obtain ⟨p, u, u', rfl, hp, h1, h2⟩ := hs
      refine ⟨_, rfl, p, _, _, _, rfl, rfl, SqT.of hp, atI_nat (j := 0) rfl, rfl, _, rfl, ifF (by decide +kernel) ?_⟩
      refine ⟨_, rfl, p, _, _, _, rfl, rfl, SqT.of hp, atI_nat (j := 0) rfl, rfl, _, rfl, ifT (by decide +kernel) (ifT rfl ?_)⟩
      refine ⟨_, rfl, p, _, _, _, rfl, rfl, SqT.of hp, atI_nat (j := 1) rfl, u, s, ks, rfl, h1, hl.1, by simp [dpt] at hd; omega, fun H1 e1 => ⟨_, _, rfl, rfl, ?_⟩⟩
      refine ⟨_, rfl, p, _, _, _, rfl, rfl, SqT.of (e1 _ _ hp), atI_nat (j := 2) rfl, u', t, ks, rfl, h2.keep e1.tup, hl.2, by simp [dpt] at hd; omega, fun H2 e2 => ⟨_, _, rfl, rfl, ?_⟩⟩
      exact k H2 (e1.trans e2)
    | dis s t =>
      obtain ⟨p, u, u', rfl, hp, h1, h2⟩ := hs
      refine ⟨_, rfl, p, _, _, _, rfl, rfl, SqT.of hp, atI_nat (j := 0) rfl, rfl, _, rfl, ifF (by decide +kernel) ?_⟩
      refine ⟨_, rfl, p, _, _, _, rfl, rfl, SqT.of hp, atI_nat (j := 0) rfl, rfl, _, rfl, ifF (by decide +kernel) ?_⟩
      refine ⟨_, rfl, p, _, _, _, rfl, rfl, SqT.of hp, atI_nat (j := 0) rfl, rfl, _, rfl, ifT (by decide +kernel) ?_⟩
      refine ⟨_, rfl, p, _, _, _, rfl, rfl, SqT.of hp, atI_nat (j := 1) rfl, u, s, ks, rfl, h1, hl.1, by simp [dpt] at hd; omega, fun H1 e1 => ⟨_, _, rfl, rfl, ?_⟩⟩
      refine ⟨_, rfl, p, _, _, _, rfl, rfl, SqT.of (e1 _ _ hp), atI_nat (j := 2) rfl, u', t, ks, rfl, h2.keep e1.tup, hl.2, by simp [dpt] at hd; omega, fun H2 e2 => ⟨_, _, rfl, rfl, ?_⟩⟩
      exact k H2 (e1.trans e2)
    | ex n s =>
      obtain ⟨p, u, rfl, hp, h1⟩ := hs
      refine ⟨_, rfl, p, _, _, _, rfl, rfl, SqT.of hp, atI_nat (j := 0) rfl, rfl, _, rfl, ifF (by decide +kernel) ?_⟩
      refine ⟨_, rfl, p, _, _, _, rfl, rfl, SqT.of hp, atI_nat (j := 0) rfl, rfl, _, rfl, ifF (by decide +kernel) ?_⟩
      refine ⟨_, rfl, p, _, _, _, rfl, rfl, SqT.of hp, atI_nat (j := 0) rfl, rfl, _, rfl, ifF (by decide +kernel) ?_⟩
      refine ⟨_, rfl, p, _, _, _, rfl, rfl, SqT.of hp, atI_nat (j := 0) rfl, rfl, _, rfl, ifT (by decide +kernel) (ifT rfl ?_)⟩
      refine ⟨_, rfl, p, _, _, _, rfl, rfl, SqT.of hp, atI_nat (j := 2) rfl, u, s, _, rfl, h1, hl.2.2.2, by simp [dpt] at hd; omega, fun H1 e1 => ⟨_, _, rfl, rfl, ?_⟩⟩
      exact k H1 e1
    | al n s =>
      obtain ⟨p, u, rfl, hp, h1⟩ := hs
      refine ⟨_, rfl, p, _, _, _, rfl, rfl, SqT.of hp, atI_nat (j := 0) rfl, rfl, _, rfl, ifF (by decide +kernel) ?_⟩
      refine ⟨_, rfl, p, _, _, _, rfl, rfl, SqT.of hp, atI_nat (j := 0) rfl, rfl, _, rfl, ifF (by decide +kernel) ?_⟩
      refine ⟨_, rfl, p, _, _, _, rfl, rfl, SqT.of hp, atI_nat (j := 0) rfl, rfl, _, rfl, ifF (by decide +kernel) ?_⟩
      refine ⟨_, rfl, p, _, _, _, rfl, rfl, SqT.of hp, atI_nat (j := 0) rfl, rfl, _, rfl, ifF (by decide +kernel) ?_⟩
      refine ⟨_, rfl, p, _, _, _, rfl, rfl, SqT.of hp, atI_nat (j := 0) rfl, rfl, _, rfl, ifT (by decide +kernel) ?_⟩
      refine ⟨_, rfl, p, _, _, _, rfl, rfl, SqT.of hp, atI_nat (j := 2) rfl, u, s, _, rfl, h1, hl.2.2.2, by simp [dpt] at hd; omega, fun H1 e1 => ⟨_, _, rfl, rfl, ?_⟩⟩
      exact k H1 e1
end
end Sy

set_option Elab.async false
set_option linter.all false
set_option maxRecDepth 100000
set_option maxHeartbeats 4000000
namespace Sy
open PySem L2

def spLet (K : PySem.W.Frag) (n : Nat) : Sp := fun vs H Q _ => ∃ (v : V) (s : Say) (aw ak : Addr) (ks : List Str) (left : Int), vs = [v, .ref aw, .ref ak, .int 4, .int left] ∧ SayAt H s v ∧ Let s ks ∧ FrOk ks ∧
  H ak = some (.lst (ks.map V.str)) ∧ (∀ H, SqT K H aw (rowWords.map V.str)) ∧ (dpt s : Int) ≤ left ∧ dpt s ≤ n ∧ ∀ H', Same H H' → Q (.bl true) H'
section
variable {P : Program} {w : World} {K : PySem.W.Frag} {mg : Str → Option Value} {base : Heap}
theorem cal_let (T : Top K mg) : ∀ n, C8.Cal P w K mg base (n + 3) "is_let" (spLet K n) []
  | 0 => none_ok T.d_is_let fun vs H Q E ⟨v, s, _, _, _, _, _, _, _, _, _, _, _, h, _⟩ => by have := dpt_pos s; omega
  | n + 1 => by
    have G : C8.Cal P w K mg base (n + 3) "is_let" (spLet K n) [] := cal_let T n
    have GP : C8.Cal P w K mg base 2 "is_place" spIsP [] := cal_isP T
    have GS : C8.Cal P w K mg base 2 "is_set" spIsS [] := cal_isS T
    have GU : C8.Cal P w K mg base 3 "names_suit" spSuit [] := cal_suit T
    refine cal_of T.d_is_let fun f fd F => F.ok sc_is_let (fun vs H Q E h => ?_) (fun cdv A outer s H vs Q E hr h => ?_)
    · obtain ⟨v, s, _, _, _, _, rfl, _⟩ := h
      rfl
    obtain ⟨v, sy, aw, ak, ks, left, rfl, hs, hl, fr, hk, hW, hd, hn, k⟩ := h
    have nd := sc_is_let.nd
    refine ⟨_, (pss_cons (ps_if (PW.pt (pw_or (pt_cmpR op_lt (pv 4) pe_int (nomark _)) (pw_or (pt_not (pt_val (pe_callB call_isi rfl T.b_isinstance (by decide +kernel) (pa_cons (pv 0) (pa_cons (pe_bltn rfl T.b_tuple (by decide +kernel) (v := .ty "tuple") rfl) pa_nil))))) (pw_or (pt_cmpR op_lt (pe_callB call_len_seq rfl T.b_len PySem.boot_len (pa_cons (pv 0) pa_nil)) pe_int (nomark _)) (pw_or1 (pt_not (pt_val (pe_callB call_isi rfl T.b_isinstance (by decide +kernel) (pa_cons (pe_ix ix_tup (pv 0) pe_int (fun _ _ => rfl)) (pa_cons (pe_bltn rfl T.b_str (by decide +kernel) (v := .ty "str") rfl) pa_nil)))))))))) (pss_one (ps_ret pe_bl)) pss_nil)
      (pss_cons (ps_set (i := 5) nd rfl (Or.inl rfl) (pe_ix ix_tup (pv 0) pe_int (fun _ _ => rfl)))
      (pss_cons (ps_if (pt_cmpR op_eq (pv 5) pe_str (nomark _)) (pss_one (ps_ret (pe_and (pe_cmpR op_eq (pe_callB call_len_seq rfl T.b_len PySem.boot_len (pa_cons (pv 0) pa_nil)) pe_int (nomark _)) (pe_one (pe_d G hr (pa_cons (pe_ix ix_tup (pv 0) pe_int (fun _ _ => rfl)) (pa_cons (pv 1) (pa_cons (pv 2) (pa_cons (pv 3) (pa_cons (pe_op op_sub (pv 4) pe_int) pa_nil)))))))))) pss_nil)
      (pss_cons (ps_if (pt_cmpR op_ne (pe_callB call_len_seq rfl T.b_len PySem.boot_len (pa_cons (pv 0) pa_nil)) pe_int (nomark _)) (pss_one (ps_ret pe_bl)) pss_nil)
      (pss_cons (ps_if (PW.pt (pw_or (pt_cmpR op_eq (pv 5) pe_str (nomark _)) (pw_or1 (pt_cmpR op_eq (pv 5) pe_str (nomark _))))) (pss_one (ps_ret (pe_and (pe_d G hr (pa_cons (pe_ix ix_tup (pv 0) pe_int (fun _ _ => rfl)) (pa_cons (pv 1) (pa_cons (pv 2) (pa_cons (pv 3) (pa_cons (pe_op op_sub (pv 4) pe_int) pa_nil)))))) (pe_one (pe_d G hr (pa_cons (pe_ix ix_tup (pv 0) pe_int (fun _ _ => rfl)) (pa_cons (pv 1) (pa_cons (pv 2) (pa_cons (pv 3) (pa_cons (pe_op op_sub (pv 4) pe_int) pa_nil)))))))))) pss_nil)
      (pss_cons (ps_if (PW.pt (pw_or (pt_cmpR op_eq (pv 5) pe_str (nomark _)) (pw_or1 (pt_cmpR op_eq (pv 5) pe_str (nomark _))))) (pss_cons (ps_if (PW.pt (pw_and (pt_not (pt_val (pe_d GP hr (pa_cons (pe_ix ix_tup (pv 0) pe_int (fun _ _ => rfl)) pa_nil)))) (pw_and1 (pt_not (pt_val (pe_d GS hr (pa_cons (pe_ix ix_tup (pv 0) pe_int (fun _ _ => rfl)) pa_nil))))))) (pss_one (ps_ret pe_bl)) pss_nil)
      (pss_cons (ps_if (PW.pt (pw_or (pt_cmpR op_in_seq (pe_ix ix_tup (pv 0) pe_int (fun _ _ => rfl)) (pv 2) (by rfl)) (pw_or1 (pt_cmpR op_ge (pe_callB call_len_seq rfl T.b_len PySem.boot_len (pa_cons (pv 2) pa_nil)) (pv 3) (nomark _))))) (pss_one (ps_ret pe_bl)) pss_nil)
      (pss_one (ps_ret (pe_d G hr (pa_cons (pe_ix ix_tup (pv 0) pe_int (fun _ _ => rfl)) (pa_cons (pv 1) (pa_cons (pe_op op_cat (pv 2) (pe_lst (pa_cons (pe_ix ix_tup (pv 0) pe_int (fun _ _ => rfl)) pa_nil))) (pa_cons (pv 3) (pa_cons (pe_op op_sub (pv 4) pe_int) pa_nil)))))))))) pss_nil)
      (pss_one (ps_ret (pe_and (pe_cmpR op_in_seq (pv 5) (pv 1) (by rfl)) (pe_and (pe_d GU hr (pa_cons (pv 5) (pa_cons (pe_ix ix_tup (pv 0) pe_int (fun _ _ => rfl)) (pa_cons (pe_ix ix_tup (pv 0) pe_int (fun _ _ => rfl)) pa_nil)))) (pe_and (pe_cmpR op_in_seq (pe_ix ix_tup (pv 0) pe_int (fun _ _ => rfl)) (pv 2) (by rfl)) (pe_one (pe_cmpR op_in_seq (pe_ix ix_tup (pv 0) pe_int (fun _ _ => rfl)) (pv 2) (by rfl)))))))))))))), ?_⟩
    have h1 : (1 : Int) ≤ left := by have := dpt_pos sy; omega
    cases sy with
    | bare wd a b =>
      obtain ⟨p, rfl, hp⟩ := hs
      obtain ⟨hw, hsu, ma, mb⟩ := hl
      obtain ⟨n1, n2, n3, n4, n5⟩ := rw_ne wd hw
      refine ⟨_, rfl, _, _, rfl, rfl, _, rfl, ifF (decide_eq_false (by omega)) ?_⟩
      refine ⟨_, rfl, .ref p, .ty "tuple", .type "tuple", .type "tuple", true, rfl, .ty _, .base (.tup hp), kit_ty (by decide +kernel), _, rfl, iteF ?_⟩
      refine ⟨_, rfl, p, _, rfl, .inr (SqT.of hp), _, _, rfl, rfl, _, rfl, ifF (by rfl) ?_⟩
      refine ⟨_, rfl, p, _, _, _, rfl, rfl, SqT.of hp, atI_nat (j := 0) rfl, .str _, .ty "str", .type "str", .type "str", true, rfl, .ty _, .base (.str _), kit_ty (by decide +kernel), _, rfl, iteF ?_⟩
      refine ⟨_, rfl, p, _, _, _, rfl, rfl, SqT.of hp, atI_nat (j := 0) rfl, ?_⟩
      refine ⟨_, rfl, rfl, _, rfl, ifF (strF n1) ?_⟩
      refine ⟨_, rfl, p, _, rfl, .inr (SqT.of hp), rfl, _, rfl, ifF (by rfl) ?_⟩
      refine ⟨_, rfl, rfl, _, rfl, ifF (strF n2) ?_⟩
      refine ⟨_, rfl, rfl, _, rfl, ifF (strF n3) ?_⟩
      refine ⟨_, rfl, rfl, _, rfl, ifF (strF n4) ?_⟩
      refine ⟨_, rfl, rfl, _, rfl, ifF (strF n5) ?_⟩
      refine ⟨_, rfl, _, rfl, aw, _, rfl, .inr (hW H), rfl, flat_str _, true, ?_, iteT ?_⟩
      · show V.bl (inV (.str wd) (rowWords.map V.str)) = _
        rw [inV_str, decide_eq_true hw]
      refine ⟨_, rfl, _, rfl, p, _, _, _, rfl, rfl, SqT.of hp, atI_nat (j := 1) rfl, _, rfl, p, _, _, _, rfl, rfl, SqT.of hp, atI_nat (j := 2) rfl, wd, a, b, rfl, fr.nm a ma, fr.nm b mb, fun H1 e1 => ⟨true, by rw [hsu], iteT ?_⟩⟩
      refine ⟨_, rfl, p, _, _, _, rfl, rfl, SqT.of (e1 _ _ hp), atI_nat (j := 1) rfl, _, rfl, ak, _, rfl, .inl (SqL.of (e1 _ _ hk)), rfl, flat_str _, true, ?_, iteT ?_⟩
      · show V.bl (inV (.str a) (ks.map V.str)) = _
        rw [inV_str, decide_eq_true ma]
      refine ⟨_, rfl, p, _, _, _, rfl, rfl, SqT.of (e1 _ _ hp), atI_nat (j := 2) rfl, _, rfl, ak, _, rfl, .inl (SqL.of (e1 _ _ hk)), rfl, flat_str _, ?_⟩
      show Q (V.bl (inV (.str b) (ks.map V.str))) H1
      rw [inV_str, decide_eq_true mb]
      exact k H1 e1
    | neg s =>
      obtain ⟨p, u, rfl, hp, hs1⟩ := hs
      refine ⟨_, rfl, _, _, rfl, rfl, _, rfl, ifF (decide_eq_false (by omega)) ?_⟩
      refine ⟨_, rfl, .ref p, .ty "tuple", .type "tuple", .type "tuple", true, rfl, .ty _, .base (.tup hp), kit_ty (by decide +kernel), _, rfl, iteF ?_⟩
      refine ⟨_, rfl, p, _, rfl, .inr (SqT.of hp), _, _, rfl, rfl, _, rfl, ifF (by rfl) ?_⟩
      refine ⟨_, rfl, p, _, _, _, rfl, rfl, SqT.of hp, atI_nat (j := 0) rfl, .str _, .ty "str", .type "str", .type "str", true, rfl, .ty _, .base (.str _), kit_ty (by decide +kernel), _, rfl, iteF ?_⟩
      refine ⟨_, rfl, p, _, _, _, rfl, rfl, SqT.of hp, atI_nat (j := 0) rfl, ?_⟩
      refine ⟨_, rfl, rfl, _, rfl, ifT (strT rfl) ?_⟩
      refine ⟨_, rfl, p, _, rfl, .inr (SqT.of hp), rfl, true, rfl, iteT ?_⟩
      refine ⟨_, rfl, p, _, _, _, rfl, rfl, SqT.of hp, atI_nat (j := 1) rfl, _, rfl, _, rfl, _, rfl, _, rfl, _, _, rfl, rfl, u, s, aw, ak, ks, left - 1, rfl, hs1, hl, fr, hk, hW, by simp [dpt] at hd; omega, by simp [dpt] at hn; omega, fun H1 e1 => ?_⟩
      exact k H1 e1
    | con s t =>
      obtain ⟨p, u, u', rfl, hp, hs1, hs2⟩ := hs
      refine ⟨_, rfl, _, _, rfl, rfl, _, rfl, ifF (decide_eq_false (by omega)) ?_⟩
      refine ⟨_, rfl, .ref p, .ty "tuple", .type "tuple", .type "tuple", true, rfl, .ty _, .base (.tup hp), kit_ty (by decide +kernel), _, rfl, iteF ?_⟩
      refine ⟨_, rfl, p, _, rfl, .inr (SqT.of hp), _, _, rfl, rfl, _, rfl, ifF (by rfl) ?_⟩
      refine ⟨_, rfl, p, _, _, _, rfl, rfl, SqT.of hp, atI_nat (j := 0) rfl, .str _, .ty "str", .type "str", .type "str", true, rfl, .ty _, .base (.str _), kit_ty (by decide +kernel), _, rfl, iteF ?_⟩
      refine ⟨_, rfl, p, _, _, _, rfl, rfl, SqT.of hp, atI_nat (j := 0) rfl, ?_⟩
      refine ⟨_, rfl, rfl, _, rfl, ifF (by decide +kernel) ?_⟩
      refine ⟨_, rfl, p, _, rfl, .inr (SqT.of hp), rfl, _, rfl, ifF (by rfl) ?_⟩
      refine ⟨_, rfl, rfl, _, rfl, ifT (by decide +kernel) (ifT rfl ?_)⟩
      refine ⟨_, rfl, p, _, _, _, rfl, rfl, SqT.of hp, atI_nat (j := 1) rfl, _, rfl, _, rfl, _, rfl, _, rfl, _, _, rfl, rfl, u, s, aw, ak, ks, left - 1, rfl, hs1, hl.1, fr, hk, hW, by simp [dpt] at hd; omega, by simp [dpt] at hn; omega, fun H1 e1 => ⟨true, rfl, iteT ?_⟩⟩
      refine ⟨_, rfl, p, _, _, _, rfl, rfl, SqT.of (e1 _ _ hp), atI_nat (j := 2) rfl, _, rfl, _, rfl, _, rfl, _, rfl, _, _, rfl, rfl, u', t, aw, ak, ks, left - 1, rfl, hs2.keep e1.tup, hl.2, fr, e1 _ _ hk, hW, by simp [dpt] at hd; omega, by simp [dpt] at hn; omega, fun H2 e2 => ?_⟩
      exact k H2 (e1.trans e2)
    | dis s t =>
      obtain ⟨p, u, u', rfl, hp, hs1, hs2⟩ := hs
      refine ⟨_, rfl, _, _, rfl, rfl, _, rfl, ifF (decide_eq_false (by omega)) ?_⟩
      refine ⟨_, rfl, .ref p, .ty "tuple", .type "tuple", .type "tuple", true, rfl, .ty _, .base (.tup hp), kit_ty (by decide +kernel), _, rfl, iteF ?_⟩
      refine ⟨_, rfl, p, _, rfl, .inr (SqT.of hp), _, _, rfl, rfl, _, rfl, ifF (by rfl) ?_⟩
      refine ⟨_, rfl, p, _, _, _, rfl, rfl, SqT.of hp, atI_nat (j := 0) rfl, .str _, .ty "str", .type "str", .type "str", true, rfl, .ty _, .base (.str _), kit_ty (by decide +kernel), _, rfl, iteF ?_⟩
      refine ⟨_, rfl, p, _, _, _, rfl, rfl, SqT.of hp, atI_nat (j := 0) rfl, ?_⟩
      refine ⟨_, rfl, rfl, _, rfl, ifF (by decide +kernel) ?_⟩
      refine ⟨_, rfl, p, _, rfl, .inr (SqT.of hp), rfl, _, rfl, ifF (by rfl) ?_⟩
      refine ⟨_, rfl, rfl, _, rfl, ifF (by decide +kernel) ?_⟩
      refine ⟨_, rfl, rfl, _, rfl, ifT (by decide +kernel) ?_⟩
      refine ⟨_, rfl, p, _, _, _, rfl, rfl, SqT.of hp, atI_nat (j := 1) rfl, _, rfl, _, rfl, _, rfl, _, rfl, _, _, rfl, rfl, u, s, aw, ak, ks, left - 1, rfl, hs1, hl.1, fr, hk, hW, by simp [dpt] at hd; omega, by simp [dpt] at hn; omega, fun H1 e1 => ⟨true, rfl, iteT ?_⟩⟩
      refine ⟨_, rfl, p, _, _, _, rfl, rfl, SqT.of (e1 _ _ hp), atI_nat (j := 2) rfl, _, rfl, _, rfl, _, rfl, _, rfl, _, _, rfl, rfl, u', t, aw, ak, ks, left - 1, rfl, hs2.keep e1.tup, hl.2, fr, e1 _ _ hk, hW, by simp [dpt] at hd; omega, by simp [dpt] at hn; omega, fun H2 e2 => ?_⟩
      exact k H2 (e1.trans e2)
    | ex m s =>
      obtain ⟨p, u, rfl, hp, hs1⟩ := hs
      obtain ⟨hm, hmk, hlen, hl⟩ := hl
      refine ⟨_, rfl, _, _, rfl, rfl, _, rfl, ifF (decide_eq_false (by omega)) ?_⟩
      refine ⟨_, rfl, .ref p, .ty "tuple", .type "tuple", .type "tuple", true, rfl, .ty _, .base (.tup hp), kit_ty (by decide +kernel), _, rfl, iteF ?_⟩
      refine ⟨_, rfl, p, _, rfl, .inr (SqT.of hp), _, _, rfl, rfl, _, rfl, ifF (by rfl) ?_⟩
      refine ⟨_, rfl, p, _, _, _, rfl, rfl, SqT.of hp, atI_nat (j := 0) rfl, .str _, .ty "str", .type "str", .type "str", true, rfl, .ty _, .base (.str _), kit_ty (by decide +kernel), _, rfl, iteF ?_⟩
      refine ⟨_, rfl, p, _, _, _, rfl, rfl, SqT.of hp, atI_nat (j := 0) rfl, ?_⟩
      refine ⟨_, rfl, rfl, _, rfl, ifF (by decide +kernel) ?_⟩
      refine ⟨_, rfl, p, _, rfl, .inr (SqT.of hp), rfl, _, rfl, ifF (by rfl) ?_⟩
      refine ⟨_, rfl, rfl, _, rfl, ifF (by decide +kernel) ?_⟩
      refine ⟨_, rfl, rfl, _, rfl, ifF (by decide +kernel) ?_⟩
      refine ⟨_, rfl, rfl, _, rfl, ifT (by decide +kernel) (ifT rfl ?_)⟩
      have fin : ∀ H1, Same H H1 → tSeq (tIfS (tOr (tTest (tOp (rIn K false) (tOp (rIxT K) (tVar 0) (tC (.int 1))) (tVar 2))) (tTest (tOp (rI0 fun i j => .bl (decide (j ≤ i))) (tCB (fun xs H Q => ∃ p ys, xs = [.ref p] ∧ (SqL K H p ys ∨ SqT K H p ys) ∧ Q (.int ys.length) H) (tCons (tVar 2) tNil)) (tVar 3)))) (tRet (tC (.bl false))) tNext)
          (tRet (tCall (spLet K n) [] E0 (tCons (tOp (rIxT K) (tVar 0) (tC (.int 2))) (tCons (tVar 1) (tCons (tOp rCat (tVar 2) (tLst (tCons (tOp (rIxT K) (tVar 0) (tC (.int 1))) tNil))) (tCons (tVar 3) (tCons (tOp (rI0 fun i j => .int (i - j)) (tVar 4) (tC (.int 1))) tNil)))))))
          { nx := fun _ _ => False, rt := Q } [some (.ref p), some (.ref aw), some (.ref ak), some (.int 4), some (.int left), some (.str "some")] H1 := by
        intro H1 e1
        have hp1 := e1 _ _ hp
        have hk1 := e1 _ _ hk
        refine ⟨_, rfl, p, _, _, _, rfl, rfl, SqT.of hp1, atI_nat (j := 1) rfl, _, rfl, ak, _, rfl, .inl (SqL.of hk1), rfl, flat_str _, _, rfl, ifF ?_ ?_⟩
        · show inV (.str m) (ks.map V.str) = false
          rw [inV_str]
          exact decide_eq_false hmk
        refine ⟨_, rfl, ak, _, rfl, .inl (SqL.of hk1), _, rfl, _, _, rfl, rfl, _, rfl, ifF (decide_eq_false (by rw [List.length_map]; omega)) ?_⟩
        refine ⟨_, rfl, p, _, _, _, rfl, rfl, SqT.of hp1, atI_nat (j := 2) rfl, _, rfl, _, rfl, _, rfl, p, _, _, _, rfl, rfl, SqT.of hp1, atI_nat (j := 1) rfl, le_line (by show 1 ≤ 16000000; decide), fun q nq => ?_⟩
        refine ⟨ak, q, _, _, rfl, rfl, by rw [upd_ne (ne_of_none hk1 nq)]; exact hk1, upd_same, le_line (by rw [List.length_map]; show ks.length + 1 ≤ _; omega), fun q2 nq2 => ?_⟩
        have e2 : Same H (upd (upd H1 q (.lst [.str m])) q2 (.lst (ks.map V.str ++ [.str m]))) := (e1.new nq _).new nq2 _
        refine ⟨_, rfl, _, rfl, _, _, rfl, rfl, u, s, aw, q2, ks ++ [m], left - 1, rfl, hs1.keep e2.tup, hl, fr.more hm hmk hlen, ?_, hW, by simp [dpt] at hd; omega, by simp [dpt] at hn; omega, fun H2 e3 => k H2 (e2.trans e3)⟩
        rw [upd_same, List.map_append]
        rfl
      refine ⟨_, rfl, p, _, _, _, rfl, rfl, SqT.of hp, atI_nat (j := 1) rfl, m, rfl, hm, fun H1 e1 => ⟨_, rfl, ?_⟩⟩
      cases hpl : plB m with
      | true => exact fin H1 e1
      | false =>
        refine ⟨_, rfl, p, _, _, _, rfl, rfl, SqT.of (e1 _ _ hp), atI_nat (j := 1) rfl, m, rfl, hm, fun H2 e2 => ⟨_, rfl, ?_⟩⟩
        rw [hpl]
        exact fin H2 (e1.trans e2)
    | al m s =>
      obtain ⟨p, u, rfl, hp, hs1⟩ := hs
      obtain ⟨hm, hmk, hlen, hl⟩ := hl
      refine ⟨_, rfl, _, _, rfl, rfl, _, rfl, ifF (decide_eq_false (by omega)) ?_⟩
      refine ⟨_, rfl, .ref p, .ty "tuple", .type "tuple", .type "tuple", true, rfl, .ty _, .base (.tup hp), kit_ty (by decide +kernel), _, rfl, iteF ?_⟩
      refine ⟨_, rfl, p, _, rfl, .inr (SqT.of hp), _, _, rfl, rfl, _, rfl, ifF (by rfl) ?_⟩
      refine ⟨_, rfl, p, _, _, _, rfl, rfl, SqT.of hp, atI_nat (j := 0) rfl, .str _, .ty "str", .type "str", .type "str", true, rfl, .ty _, .base (.str _), kit_ty (by decide +kernel), _, rfl, iteF ?_⟩
      refine ⟨_, rfl, p, _, _, _, rfl, rfl, SqT.of hp, atI_nat (j := 0) rfl, ?_⟩
      refine ⟨_, rfl, rfl, _, rfl, ifF (by decide +kernel) ?_⟩
      refine ⟨_, rfl, p, _, rfl, .inr (SqT.of hp), rfl, _, rfl, ifF (by rfl) ?_⟩
      refine ⟨_, rfl, rfl, _, rfl, ifF (by decide +kernel) ?_⟩
      refine ⟨_, rfl, rfl, _, rfl, ifF (by decide +kernel) ?_⟩
      refine ⟨_, rfl, rfl, _, rfl, ifF (by decide +kernel) ?_⟩
      refine ⟨_, rfl, rfl, _, rfl, ifT (by decide +kernel) ?_⟩
      have fin : ∀ H1, Same H H1 → tSeq (tIfS (tOr (tTest (tOp (rIn K false) (tOp (rIxT K) (tVar 0) (tC (.int 1))) (tVar 2))) (tTest (tOp (rI0 fun i j => .bl (decide (j ≤ i))) (tCB (fun xs H Q => ∃ p ys, xs = [.ref p] ∧ (SqL K H p ys ∨ SqT K H p ys) ∧ Q (.int ys.length) H) (tCons (tVar 2) tNil)) (tVar 3)))) (tRet (tC (.bl false))) tNext)
          (tRet (tCall (spLet K n) [] E0 (tCons (tOp (rIxT K) (tVar 0) (tC (.int 2))) (tCons (tVar 1) (tCons (tOp rCat (tVar 2) (tLst (tCons (tOp (rIxT K) (tVar 0) (tC (.int 1))) tNil))) (tCons (tVar 3) (tCons (tOp (rI0 fun i j => .int (i - j)) (tVar 4) (tC (.int 1))) tNil)))))))
          { nx := fun _ _ => False, rt := Q } [some (.ref p), some (.ref aw), some (.ref ak), some (.int 4), some (.int left), some (.str "all")] H1 := by
        intro H1 e1
        have hp1 := e1 _ _ hp
        have hk1 := e1 _ _ hk
        refine ⟨_, rfl, p, _, _, _, rfl, rfl, SqT.of hp1, atI_nat (j := 1) rfl, _, rfl, ak, _, rfl, .inl (SqL.of hk1), rfl, flat_str _, _, rfl, ifF ?_ ?_⟩
        · show inV (.str m) (ks.map V.str) = false
          rw [inV_str]
          exact decide_eq_false hmk
        refine ⟨_, rfl, ak, _, rfl, .inl (SqL.of hk1), _, rfl, _, _, rfl, rfl, _, rfl, ifF (decide_eq_false (by rw [List.length_map]; omega)) ?_⟩
        refine ⟨_, rfl, p, _, _, _, rfl, rfl, SqT.of hp1, atI_nat (j := 2) rfl, _, rfl, _, rfl, _, rfl, p, _, _, _, rfl, rfl, SqT.of hp1, atI_nat (j := 1) rfl, le_line (by show 1 ≤ 16000000; decide), fun q nq => ?_⟩
        refine ⟨ak, q, _, _, rfl, rfl, by rw [upd_ne (ne_of_none hk1 nq)]; exact hk1, upd_same, le_line (by rw [List.length_map]; show ks.length + 1 ≤ _; omega), fun q2 nq2 => ?_⟩
        have e2 : Same H (upd (upd H1 q (.lst [.str m])) q2 (.lst (ks.map V.str ++ [.str m]))) := (e1.new nq _).new nq2 _
        refine ⟨_, rfl, _, rfl, _, _, rfl, rfl, u, s, aw, q2, ks ++ [m], left - 1, rfl, hs1.keep e2.tup, hl, fr.more hm hmk hlen, ?_, hW, by simp [dpt] at hd; omega, by simp [dpt] at hn; omega, fun H2 e3 => k H2 (e2.trans e3)⟩
        rw [upd_same, List.map_append]
        rfl
      refine ⟨_, rfl, p, _, _, _, rfl, rfl, SqT.of hp, atI_nat (j := 1) rfl, m, rfl, hm, fun H1 e1 => ⟨_, rfl, ?_⟩⟩
      cases hpl : plB m with
      | true => exact fin H1 e1
      | false =>
        refine ⟨_, rfl, p, _, _, _, rfl, rfl, SqT.of (e1 _ _ hp), atI_nat (j := 1) rfl, m, rfl, hm, fun H2 e2 => ⟨_, rfl, ?_⟩⟩
        rw [hpl]
        exact fin H2 (e1.trans e2)
end
end Sy

set_option Elab.async false
set_option linter.all false
set_option maxRecDepth 100000
set_option maxHeartbeats 4000000
namespace Sy
open PySem L2

def spIsSay : Sp := fun vs H Q _ => ∃ (v : V) (s : Say) (a : Addr) (ks : List Str), vs = [v, .ref a] ∧ SayAt H s v ∧ Let s ks ∧ FrOk ks ∧ H a = some (.lst (ks.map V.str)) ∧ dpt s ≤ 12 ∧ parts s ≤ 60 ∧ ∀ H', Same H H' → Q (.bl true) H'
def spLook : Sp := fun vs H Q _ => ∃ (v : V) (s : Say) (a : Addr) (ks : List Str), vs = [v, .ref a] ∧ SayAt H s v ∧ Let s ks ∧ FrOk ks ∧ H a = some (.lst (ks.map V.str)) ∧ dpt s ≤ 12 ∧ parts s ≤ 60 ∧ ∀ H', Same H H' → Q .non H'
def spFits : Sp := fun vs H Q _ => ∃ (a b : Addr) (ks : List Str) (row : List Int), vs = [.ref a, .ref b] ∧ H a = some (.lst (ks.map V.str)) ∧ FrOk ks ∧ H b = some (.lst (row.map V.int)) ∧ InR ks.length row ∧ row.length ≤ 100 ∧
  ∀ H', Same H H' → Q (.bl (fitB ks row)) H'
section
variable {P : Program} {w : World} {K : PySem.W.Frag} {mg : Str → Option Value} {base : Heap}
theorem cal_isSay (T : Top K mg) : C8.Cal P w K mg base 16 "is_saying" spIsSay [] := by
  refine cal_of T.d_is_saying fun f fd F => F.ok sc_is_saying (fun vs H Q E h => ?_) (fun cdv A outer s H vs Q E hr h => ?_)
  · obtain ⟨v, s, a, ks, rfl, _⟩ := h
    rfl
  obtain ⟨v, sy, a, ks, rfl, hs, hl, fr, ha, hd, hp, k⟩ := h
  have nd := sc_is_saying.nd
  have GL : C8.Cal P w K mg base 15 "is_let" (spLet K 12) [] := cal_let T 12
  have GM : C8.Cal P w K mg base 12 "many_parts" (spParts 12) [] := cal_parts T 12
  obtain ⟨aW, mW, hW⟩ := T.g_WORDS
  obtain ⟨t1, m1⟩ := T.g_MOST_DEEP
  obtain ⟨t2, m2⟩ := T.g_MOST_PARTS
  refine ⟨_, (pss_one (ps_ret (pe_and (pe_d GL hr (pa_cons (pv 0) (pa_cons (pe_glob (v := .ref aW) rfl mW rfl) (pa_cons (pe_callTy call_list_of rfl T.b_list (by decide +kernel) (pa_cons (pv 1) pa_nil)) (pa_cons pe_int (pa_cons (pe_glob (v := .int 12) rfl m1 ⟨_, rfl⟩) pa_nil)))))) (pe_one (pe_cmpR op_le (pe_d GM hr (pa_cons (pv 0) pa_nil)) (pe_glob (v := .int 60) rfl m2 ⟨_, rfl⟩) (nomark _)))))), ?_⟩
  refine ⟨_, rfl, _, rfl, a, _, rfl, .inl (SqL.of ha), fun l nl => ?_⟩
  have e0 := same_new nl (.lst (ks.map V.str))
  refine ⟨v, sy, aW, l, ks, 12, rfl, hs.keep e0.tup, hl, fr, upd_same, hW, by omega, hd, fun H1 e1 => ⟨true, rfl, iteT ?_⟩⟩
  refine ⟨_, rfl, v, sy, ks, rfl, (hs.keep e0.tup).keep e1.tup, hl, hd, fun H2 e2 => ?_⟩
  refine ⟨_, _, rfl, rfl, ?_⟩
  show Q (.bl (decide (((parts sy : Nat) : Int) ≤ 60))) H2
  rw [show decide (((parts sy : Nat) : Int) ≤ 60) = true from decide_eq_true (by omega)]
  exact k H2 (e0.trans (e1.trans e2))
theorem cal_look (T : Top K mg) : C8.Cal P w K mg base 17 "look_at_asking" spLook [] := by
  refine cal_of T.d_look_at_asking fun f fd F => F.ok sc_look_at_asking (fun vs H Q E h => ?_) (fun cdv A outer s H vs Q E hr h => ?_)
  · obtain ⟨v, s, a, ks, rfl, _⟩ := h
    rfl
  obtain ⟨v, sy, a, ks, rfl, hs, hl, fr, ha, hd, hp, k⟩ := h
  have nd := sc_look_at_asking.nd
  have GF : C8.Cal P w K mg base 3 "is_frame" spIsF [] := cal_isF T
  have GI : C8.Cal P w K mg base 16 "is_saying" spIsSay [] := cal_isSay T
  refine ⟨_, (pss_cons (ps_if (pt_not (pt_val (pe_d GF hr (pa_cons (pv 1) pa_nil)))) (pss_one ps_never) pss_nil)
      (pss_one (ps_if (pt_not (pt_val (pe_d GI hr (pa_cons (pv 0) (pa_cons (pv 1) pa_nil))))) (pss_one ps_never) pss_nil))), ?_⟩
  refine ⟨_, rfl, a, ks, rfl, ha, fr, fun H1 e1 => ⟨_, rfl, iteF ?_⟩⟩
  refine ⟨_, rfl, _, rfl, v, sy, a, ks, rfl, hs.keep e1.tup, hl, fr, e1 _ _ ha, hd, hp, fun H2 e2 => ⟨_, rfl, iteF ?_⟩⟩
  exact k H2 (e1.trans e2)
theorem cal_fits (T : Top K mg) : C8.Cal P w K mg base 3 "fits" spFits [] := by
  refine cal_of T.d_fits fun f fd F => F.ok sc_fits (fun vs H Q E h => ?_) (fun cdv A outer s H vs Q E hr h => ?_)
  · obtain ⟨a, b, ks, row, rfl, _⟩ := h
    rfl
  obtain ⟨a, b, ks, row, rfl, ha, fr, hb, hin, hlen, k⟩ := h
  have nd := sc_fits.nd
  have GP : C8.Cal P w K mg base 2 "is_place" spIsP [] := cal_isP T
  have GW : C8.Cal P w K mg base 2 "places_with" spPw [] := cal_pw T
  refine ⟨_, (pss_cons (ps_for PassesOwn.never rfl (pi_list (pv 1)) (pg_name (i := 2) nd rfl (Or.inl rfl)) (pss_one (ps_if (pt_not (pt_chain op_le op_lt pe_int (pv 2) (pe_op op_shl pe_int (pe_callB call_len_seq rfl T.b_len PySem.boot_len (pa_cons (pv 0) pa_nil))))) (pss_one ps_never) pss_nil)))
      (pss_cons (ps_for PassesOwn.never rfl (pi_enum rfl T.b_enumerate (pa_cons (pv 0) pa_nil)) (pg_tup rfl (pgs_cons (pg_name (i := 3) nd rfl (Or.inl rfl)) (pgs_cons (pg_name (i := 4) nd rfl (Or.inl rfl)) pgs_nil))) (pss_one (ps_if (PW.pt (pw_and (pt_val (pe_d GP hr (pa_cons (pv 4) pa_nil))) (pw_and1 (pt_cmpR op_ne (pe_callB call_len_seq rfl T.b_len PySem.boot_len (pa_cons (pe_d GW hr (pa_cons (pv 1) (pa_cons (pv 3) pa_nil))) pa_nil)) pe_int (nomark _))))) (pss_one (ps_ret pe_bl)) pss_nil)))
      (pss_one (ps_ret pe_bl)))), ?_⟩
  have hkl : (ks.map V.str).length = ks.length := List.length_map _
  refine ⟨_, rfl, b, rfl, ⟨_, SqL.of hb⟩, for_list (K := K) (a := b) (xs := row.map V.int) (fun i σ H' => H' = H ∧ ∃ v2, σ = [some (.ref a), some (.ref b), v2, none, none]) ⟨rfl, _, rfl⟩
    (fun i σ H' _ ⟨e, _⟩ => by subst e; exact SqL.of hb) (fun i x σ H' hi p => ?_) (fun σ H' p => ?_)⟩
  · obtain ⟨rfl, v2, rfl⟩ := p
    rw [List.getElem?_map] at hi
    obtain ⟨z, hz, rfl⟩ := Option.map_eq_some_iff.mp hi
    obtain ⟨h0, h1⟩ := hin z (List.mem_of_getElem? hz)
    have h2 : z < 1 * 2 ^ ((((ks.map V.str).length : Nat) : Int)).toNat := by rw [Int.one_mul, Int.toNat_natCast, hkl]; exact h1
    refine ⟨_, rfl, _, _, rfl, rfl, _, rfl, ifT (decide_eq_true h0) ?_⟩
    refine ⟨_, rfl, a, _, rfl, .inl (SqL.of ha), _, _, rfl, rfl, ⟨Int.natCast_nonneg _, by rw [hkl]; have := fr.len; omega, by decide⟩, _, _, rfl, rfl, _, rfl, ?_⟩
    refine ifF (by rw [decide_eq_true h2]; rfl) ?_
    exact ⟨rfl, _, rfl⟩
  obtain ⟨rfl, v2, rfl⟩ := p
  refine ⟨_, rfl, a, _, rfl, SqL.of ha, for_it (walk_enum (xs := ks.map V.str)) (fun i σ H1 => (∃ v3 v4, σ = [some (.ref a), some (.ref b), v2, v3, v4]) ∧ Same H' H1 ∧ fitF (ks.drop i) i row = fitB ks row) ⟨⟨_, _, rfl⟩, Same.refl H', rfl⟩
    (fun i σ H1 _ ⟨_, e, _⟩ => SqL.of (e _ _ ha)) (fun i x σ H1 H2 hi p y => ?_) (fun σ H1 p => ?_)⟩
  · obtain ⟨⟨v3, v4, rfl⟩, e1, hf⟩ := p
    obtain ⟨t, x1, x2, rfl, nt, rfl, hx1, hx2⟩ := y
    have hx1' : V.int ((i : Nat) : Int) = x1 := Option.some.inj hx1
    subst hx1'
    have hx2 : (ks.map V.str)[i]? = some x2 := hx2
    rw [List.getElem?_map] at hx2
    obtain ⟨m, hm, rfl⟩ := Option.map_eq_some_iff.mp hx2
    have hil := (List.getElem?_eq_some_iff.mp hm).1
    have hde : ks.drop i = m :: ks.drop (i + 1) := by
      rw [List.drop_eq_getElem_cons hil]
      rw [List.getElem?_eq_getElem hil] at hm
      rw [Option.some.inj hm]
    rw [hde] at hf
    unfold fitF at hf
    have e2 : Same H' (upd H1 t (.tup [.int ((i : Nat) : Int), .str m])) := e1.new nt _
    refine ⟨t, _, rfl, SqT.of upd_same, rfl, _, _, rfl, _, _, rfl, rfl, ?_⟩
    refine ⟨_, rfl, m, rfl, fr.nm m (List.mem_of_getElem? hm), fun H3 e3 => ⟨_, rfl, ?_⟩⟩
    have e4 := e2.trans e3
    refine ifb (fun c => ?_) (fun c => ?_)
    · refine ⟨_, rfl, _, rfl, b, row, i, rfl, e4 _ _ hb, hlen, fun H4 p e5 np hp => ?_⟩
      refine ⟨p, _, rfl, .inl (SqL.of hp), rfl, _, rfl, ?_⟩
      rw [intD, List.length_map]
      refine ifb (fun c2 => ?_) (fun c2 => ?_)
      · have c3 : (pw row i).length ≠ 1 := by
          intro q
          rw [q] at c2
          exact absurd c2 (by decide)
        rw [if_pos ⟨c, c3⟩] at hf
        have := k H4 (e4.trans e5)
        rw [← hf] at this
        exact this
      · have c3 : (pw row i).length = 1 := by
          have c4 : decide ((((pw row i).length : Nat) : Int) = 1) = true := by
            cases h : decide ((((pw row i).length : Nat) : Int) = 1) with
            | true => rfl
            | false => rw [h] at c2; cases c2
          have := of_decide_eq_true c4
          omega
        rw [if_neg (fun q => q.2 c3)] at hf
        exact ⟨⟨_, _, rfl⟩, e4.trans e5, hf⟩
    · rw [if_neg (fun q => by rw [c] at q; cases q.1)] at hf
      exact ⟨⟨_, _, rfl⟩, e4, hf⟩
  · obtain ⟨⟨v3, v4, rfl⟩, e1, hf⟩ := p
    rw [hkl, List.drop_length] at hf
    have := k H1 e1
    rw [← hf] at this
    exact this
end
end Sy

set_option Elab.async false
set_option linter.all false
set_option maxRecDepth 100000
set_option maxHeartbeats 4000000
namespace Sy
open PySem L2

def lv : Say → Nat
  | .bare _ _ _ => 1
  | .neg s => lv s + 1
  | .con s t => max (lv s) (lv t) + 1
  | .dis s t => max (lv s) (lv t) + 1
  | .ex _ s => lv s + 2
  | .al _ s => lv s + 3
theorem lv_pos (s : Say) : 1 ≤ lv s := by cases s <;> simp [lv]
theorem lv_dpt : ∀ s : Say, lv s ≤ 3 * dpt s
  | .bare _ _ _ => by simp [lv, dpt]
  | .neg s => by have := lv_dpt s; simp [lv, dpt]; omega
  | .con s t => by have := lv_dpt s; have := lv_dpt t; simp [lv, dpt]; omega
  | .dis s t => by have := lv_dpt s; have := lv_dpt t; simp [lv, dpt]; omega
  | .ex _ s => by have := lv_dpt s; simp [lv, dpt]; omega
  | .al _ s => by have := lv_dpt s; simp [lv, dpt]; omega
theorem cAt_len {n : Str} {k i : Nat} (hk : k ≤ 20) : (cAt n k i).length ≤ 100 := by
  unfold cAt
  by_cases h : plB n = true
  · rw [if_pos h]; simp
  · rw [if_neg h]; have := bits_len i k; omega
theorem cAt_mem {n : Str} {k i : Nat} (hi : i < most n k) : cAt n k i ∈ choices n k := by
  rw [choices_eq]
  exact List.mem_map.mpr ⟨i, List.mem_range.mpr hi, rfl⟩
/-- what the walk over a saying asks of its place: the names, what they stand for -/
structure At (H : Hp) (s : Say) (v : V) (k : Nat) (d : Addr) (ks : List Str) (e : Env) : Prop where
  say : SayAt H s v
  let_ : Let s ks
  std : StandAt H d ks e
  pok : POk e ks
  small : ∀ n ∈ ks, (e n).length ≤ 100
  size : k ≤ 20
  few : ks.length ≤ 4
/-- the inner dict: a copy with one name more -/
theorem stand_put {H H1 : Hp} {q l : Addr} {ks : List Str} {e : Env} {n : Str} {c : List Int} {kvs : List (Key × V)} (hl : kvs.length ≤ ks.length) (hg : ∀ m ∈ ks, ∃ l, valV kvs (Sum.inr m) = some (.ref l) ∧ H l = some (.lst ((e m).map V.int)))
    (e1 : Same H H1) (hc : H1 l = some (.lst (c.map V.int))) (hq : H1 q = some (.dK kvs)) :
    StandAt (upd H1 q (.dK (putK kvs (Sum.inr n) (.ref l)))) q (ks ++ [n]) (eput e n c) := by
  refine ⟨_, upd_same, ?_, fun m hm => ?_⟩
  · have := length_putK kvs (Sum.inr n) (V.ref l)
    rw [List.length_append, List.length_singleton]
    omega
  by_cases h : m = n
  · subst h
    refine ⟨l, by rw [valV_put, if_pos rfl], ?_⟩
    rw [eput_same, upd_ne (ne_of hc hq (by intro z; cases z))]
    exact hc
  · have hm' : m ∈ ks := by
      rcases List.mem_append.mp hm with z | z
      · exact z
      · exact absurd (List.mem_singleton.mp z) h
    obtain ⟨l2, h1, h2⟩ := hg m hm'
    refine ⟨l2, ?_, ?_⟩
    · rw [valV_put, if_neg (fun z => h (Sum.inr.inj z))]
      exact h1
    · have h3 := e1 _ _ h2
      rw [eput_ne h, upd_ne (ne_of h3 hq (by intro z; cases z))]
      exact h3
theorem At.put {H' : Hp} {s : Say} {u : V} {k : Nat} {q : Addr} {ks : List Str} {e : Env} {n : Str} {c : List Int} (hs : SayAt H' s u) (hl : Let s (ks ++ [n])) (hlt : ks.length < 4) (hp : POk e ks) (hsm : ∀ n ∈ ks, (e n).length ≤ 100) (hk : k ≤ 20)
    (hc : c ∈ choices n k) (hcl : c.length ≤ 100) (hst : StandAt H' q (ks ++ [n]) (eput e n c)) : At H' s u k q (ks ++ [n]) (eput e n c) := by
  refine ⟨hs, hl, hst, hp.put hc, fun m hm => ?_, hk, by rw [List.length_append, List.length_singleton]; omega⟩
  by_cases h : m = n
  · subst h; rw [eput_same]; exact hcl
  · rw [eput_ne h]
    rcases List.mem_append.mp hm with z | z
    · exact hsm m z
    · exact absurd (List.mem_singleton.mp z) h
theorem At.keep {H H' : Hp} {s : Say} {v : V} {k : Nat} {d : Addr} {ks : List Str} {e : Env} (a : At H s v k d ks e) (h : Same H H') : At H' s v k d ks e :=
  ⟨a.say.keep h.tup, a.let_, a.std.keep h, a.pok, a.small, a.size, a.few⟩

def spHB (n : Nat) : Sp := fun vs H Q _ => ∃ (v : V) (s : Say) (k : Nat) (d : Addr) (ks : List Str) (e : Env), vs = [v, .int (k : Int), .ref d] ∧ At H s v k d ks e ∧ lv s ≤ n ∧ ∀ H', Same H H' → Q (.bl (sem s k e)) H'
def spSH (n : Nat) : Sp := fun vs H Q _ => ∃ (v : V) (m : Str) (s : Say) (k : Nat) (d : Addr) (ks : List Str) (e : Env), vs = [v, .int (k : Int), .ref d] ∧ At H (.ex m s) v k d ks e ∧ lv s + 1 ≤ n ∧ ∀ H', Same H H' → Q (.bl (sem (.ex m s) k e)) H'
section
variable {P : Program} {w : World} {K : PySem.W.Frag} {mg : Str → Option Value} {base : Heap}
theorem cal_SH (T : Top K mg) {n : Nat} (G : C8.Cal P w K mg base (n + 3) "holds_by" (spHB n) []) : C8.Cal P w K mg base (n + 4) "some_holds" (spSH (n + 1)) [] := by
  refine cal_of T.d_some_holds fun f fd F => F.ok sc_some_holds (fun vs H Q E h => ?_) (fun cdv A outer s H vs Q E hr h => ?_)
  · obtain ⟨v, m, sy, k, d, ks, e, rfl, _⟩ := h
    rfl
  obtain ⟨v, m, sy, k, d, ks, e, rfl, a, hlv, kk⟩ := h
  have nd := sc_some_holds.nd
  have GP : C8.Cal P w K mg base 2 "is_place" spIsP [] := cal_isP T
  have GY : C8.Cal P w K mg base 3 "places_by" spPby [] := cal_pby T
  refine ⟨_, (pss_cons (ps_set (i := 3) nd rfl (Or.inl rfl) (pe_ix ix_tup (pv 0) pe_int (fun _ _ => rfl)))
      (pss_cons (ps_set (i := 4) nd rfl (Or.inl rfl) (pv 1))
      (C8.pss_cut (ps_if (pt_not (pt_val (pe_d GP hr (pa_cons (pv 3) pa_nil)))) (pss_one (ps_set (i := 4) nd rfl (Or.inl rfl) (pe_op op_shl pe_int (pv 1)))) pss_nil)
      (pss_cons (ps_set (i := 5) nd rfl (Or.inl rfl) pe_int)
      (pss_cons (ps_while PassesOwn.never (pt_cmpR op_lt (pv 5) (pv 4) (nomark _)) (pss_cons (ps_set (i := 6) nd rfl (Or.inl rfl) (pe_callTy call_dictD rfl T.b_dict (by decide +kernel) (pa_cons (pv 2) pa_nil)))
      (pss_cons (ps_dput (hu_of hr) (pv 6) (pv 3) (pe_d GY hr (pa_cons (pv 3) (pa_cons (pv 1) (pa_cons (pv 5) pa_nil)))) rfl)
      (pss_cons (ps_if (pt_val (pe_d G hr (pa_cons (pe_ix ix_tup (pv 0) pe_int (fun _ _ => rfl)) (pa_cons (pv 1) (pa_cons (pv 6) pa_nil))))) (pss_one (ps_ret pe_bl)) pss_nil)
      (pss_one (ps_aug (i := 5) nd rfl (.inl rfl) pe_int ip_add))))))
      (pss_one (ps_ret pe_bl))))))), ?_⟩
  obtain ⟨p, u, rfl, hp, hs⟩ := a.say
  obtain ⟨hm, hmk, hlt, hl⟩ := a.let_
  refine ⟨_, rfl, p, _, _, _, rfl, rfl, SqT.of hp, atI_nat (j := 1) rfl, ?_⟩
  refine ⟨_, rfl, ?_⟩
  refine ⟨fun σ H' => σ = [some (.ref p), some (.int (k : Int)), some (.ref d), some (.str m), some (.int (most m k : Nat)), none, none] ∧ Same H H', ?_, ?_⟩
  · refine ⟨_, rfl, m, rfl, hm, fun H1 e1 => ⟨_, rfl, ?_⟩⟩
    cases hpl : plB m with
    | true =>
      refine ⟨?_, e1⟩
      unfold most
      rw [if_pos hpl]
      rfl
    | false =>
      refine ⟨_, rfl, _, _, rfl, rfl, ⟨Int.natCast_nonneg _, by have := a.size; omega, by decide⟩, ?_, e1⟩
      unfold most
      rw [if_neg (by rw [hpl]; exact Bool.false_ne_true)]
      show [_, _, _, _, some (V.int (1 * 2 ^ ((k : Int)).toNat)), _, _] = _
      rw [Int.one_mul, Int.toNat_natCast, Int.natCast_pow]
      rfl
  rintro σ H0 ⟨rfl, e0⟩
  refine ⟨fun M σ H' => ∃ (j : Nat) (v6 : Option V), M = most m k - j ∧ j ≤ most m k ∧ σ = [some (.ref p), some (.int (k : Int)), some (.ref d), some (.str m), some (.int (most m k : Nat)), some (.int (j : Nat)), v6] ∧ Same H H' ∧
    ∀ i, i < j → sem sy k (eput e m (cAt m k i)) = false, ⟨_, 0, _, rfl, Nat.zero_le _, rfl, e0, fun i hi => absurd hi (Nat.not_lt_zero _)⟩, ?_⟩
  rintro M σ H1 ⟨j, v6, rfl, hj, rfl, e1, hno⟩
  refine ⟨_, rfl, _, rfl, _, _, rfl, rfl, _, rfl, ?_⟩
  refine ifb (fun c => ?_) (fun c => ?_)
  · have hjm : j < most m k := by have := of_decide_eq_true c; omega
    refine ⟨fun σ H' => ∃ (v6 : Option V), σ = [some (.ref p), some (.int (k : Int)), some (.ref d), some (.str m), some (.int (most m k : Nat)), some (.int ((j + 1 : Nat) : Int)), v6] ∧ Same H H' ∧ sem sy k (eput e m (cAt m k j)) = false,
      fun σ' H' ⟨v6, h1, h2, h3⟩ => ⟨_, by omega, j + 1, v6, rfl, hjm, h1, h2, fun i hi => ?_⟩, ?_⟩
    · by_cases hij : i = j
      · subst hij; exact h3
      · exact hno i (by omega)
    obtain ⟨kvs, hd1, hd2, hd3⟩ := a.std
    refine ⟨_, rfl, d, kvs, rfl, .inl (e1 _ _ hd1), fun q nq => ?_⟩
    have nq0 := e1.free nq
    have e2 : Same H (upd H1 q (.dK kvs)) := e1.new nq _
    refine ⟨_, rfl, _, rfl, _, rfl, m, k, j, rfl, hm, by have := a.size; omega, fun H2 l e3 nl hc => ?_⟩
    have hq2 : H2 q = some (.dK kvs) := e3 _ _ upd_same
    refine ⟨_, rfl, _, rfl, q, _, rfl, DPut.k (k := Sum.inr m) hq2 (lt_line (by have := a.few; omega)), ?_⟩
    have e4 : Same H (upd H2 q (.dK (putK kvs (Sum.inr m) (.ref l)))) := (e2.trans e3).upd_free nq0 _
    have st := stand_put (n := m) hd2 hd3 (e2.trans e3) hc hq2
    have at2 := At.put (hs.keep e4.tup) hl hlt a.pok a.small a.size (cAt_mem hjm) (cAt_len a.size) st
    refine ⟨_, rfl, p, _, _, _, rfl, rfl, SqT.of (e4 _ _ hp), atI_nat (j := 2) rfl, _, rfl, _, rfl, u, sy, k, q, _, _, rfl, at2, by omega, fun H3 e5 => ⟨_, rfl, ?_⟩⟩
    refine ifb (fun c2 => ?_) (fun c2 => ?_)
    · have := kk H3 (e4.trans e5)
      rw [sem_ex, show (List.range (most m k)).any (fun i => sem sy k (eput e m (cAt m k i))) = true from List.any_eq_true.mpr ⟨j, List.mem_range.mpr hjm, c2⟩] at this
      exact this
    · refine ⟨_, rfl, _, _, rfl, rfl, ?_⟩
      exact ⟨_, rfl, e4.trans e5, c2⟩
  · have hjm : j = most m k := by have := of_decide_eq_false c; omega
    have := kk H1 e1
    rw [sem_ex, show (List.range (most m k)).any (fun i => sem sy k (eput e m (cAt m k i))) = false from List.any_eq_false.mpr fun i hi => by
      rw [hno i (by rw [hjm]; exact List.mem_range.mp hi)]; exact Bool.false_ne_true] at this
    exact this
end
end Sy

set_option Elab.async false
set_option linter.all false
set_option maxRecDepth 100000
set_option maxHeartbeats 4000000
namespace Sy
open PySem L2

theorem At.sub {H : Hp} {s t : Say} {v u : V} {k : Nat} {d : Addr} {ks : List Str} {e : Env} (a : At H s v k d ks e) (h1 : SayAt H t u) (h2 : Let t ks) : At H t u k d ks e :=
  ⟨h1, h2, a.std, a.pok, a.small, a.size, a.few⟩
section
variable {P : Program} {w : World} {K : PySem.W.Frag} {mg : Str → Option Value} {base : Heap}
theorem cal_HB1 (T : Top K mg) {n : Nat} (G : C8.Cal P w K mg base (n + 3) "holds_by" (spHB n) []) (GS : C8.Cal P w K mg base (n + 3) "some_holds" (spSH n) []) : C8.Cal P w K mg base (n + 4) "holds_by" (spHB (n + 1)) [] := by
  refine cal_of T.d_holds_by fun f fd F => F.ok sc_holds_by (fun vs H Q E h => ?_) (fun cdv A outer s H vs Q E hr h => ?_)
  · obtain ⟨v, sy, k, d, ks, e, rfl, _⟩ := h
    rfl
  obtain ⟨v, sy, k, d, ks, e, rfl, a, hlv, kk⟩ := h
  have nd := sc_holds_by.nd
  have GB : C8.Cal P w K mg base 1 "bare_holds" spBare [] := cal_bare T
  refine ⟨_, (pss_cons (ps_set (i := 3) nd rfl (Or.inl rfl) (pe_ix ix_tup (pv 0) pe_int (fun _ _ => rfl)))
      (pss_cons (ps_if (pt_cmpR op_eq (pv 3) pe_str (nomark _)) (pss_one (ps_ret (pe_not (pe_d G hr (pa_cons (pe_ix ix_tup (pv 0) pe_int (fun _ _ => rfl)) (pa_cons (pv 1) (pa_cons (pv 2) pa_nil))))))) pss_nil)
      (pss_cons (ps_if (pt_cmpR op_eq (pv 3) pe_str (nomark _)) (pss_one (ps_ret (pe_and (pe_d G hr (pa_cons (pe_ix ix_tup (pv 0) pe_int (fun _ _ => rfl)) (pa_cons (pv 1) (pa_cons (pv 2) pa_nil)))) (pe_one (pe_d G hr (pa_cons (pe_ix ix_tup (pv 0) pe_int (fun _ _ => rfl)) (pa_cons (pv 1) (pa_cons (pv 2) pa_nil)))))))) pss_nil)
      (pss_cons (ps_if (pt_cmpR op_eq (pv 3) pe_str (nomark _)) (pss_one (ps_ret (pe_or (pe_d G hr (pa_cons (pe_ix ix_tup (pv 0) pe_int (fun _ _ => rfl)) (pa_cons (pv 1) (pa_cons (pv 2) pa_nil)))) (pe_one (pe_d G hr (pa_cons (pe_ix ix_tup (pv 0) pe_int (fun _ _ => rfl)) (pa_cons (pv 1) (pa_cons (pv 2) pa_nil)))))))) pss_nil)
      (pss_cons (ps_if (pt_cmpR op_eq (pv 3) pe_str (nomark _)) (pss_one (ps_ret (pe_d GS hr (pa_cons (pv 0) (pa_cons (pv 1) (pa_cons (pv 2) pa_nil)))))) pss_nil)
      (pss_cons (ps_if (pt_cmpR op_eq (pv 3) pe_str (nomark _)) (pss_one (ps_ret (pe_not (pe_d GS hr (pa_cons (pe_tup (pa_cons pe_str (pa_cons (pe_ix ix_tup (pv 0) pe_int (fun _ _ => rfl)) (pa_cons (pe_tup (pa_cons pe_str (pa_cons (pe_ix ix_tup (pv 0) pe_int (fun _ _ => rfl)) pa_nil))) pa_nil)))) (pa_cons (pv 1) (pa_cons (pv 2) pa_nil))))))) pss_nil)
      (pss_one (ps_ret (pe_d GB hr (pa_cons (pv 0) (pa_cons (pv 2) pa_nil))))))))))), ?_⟩
  cases sy with
  | bare wd x y =>
    obtain ⟨p, rfl, hp⟩ := a.say
    obtain ⟨n1, n2, n3, n4, n5⟩ := rw_ne wd a.let_.1
    refine ⟨_, rfl, p, _, _, _, rfl, rfl, SqT.of hp, atI_nat (j := 0) rfl, ?_⟩
    refine ⟨_, rfl, rfl, _, rfl, ifF (strF n1) ?_⟩
    refine ⟨_, rfl, rfl, _, rfl, ifF (strF n2) ?_⟩
    refine ⟨_, rfl, rfl, _, rfl, ifF (strF n3) ?_⟩
    refine ⟨_, rfl, rfl, _, rfl, ifF (strF n4) ?_⟩
    refine ⟨_, rfl, rfl, _, rfl, ifF (strF n5) ?_⟩
    exact ⟨_, rfl, _, rfl, p, d, wd, x, y, ks, e, rfl, hp, a.std, a.let_, a.pok, a.small, kk⟩
  | neg s =>
    obtain ⟨p, u, rfl, hp, h1⟩ := a.say
    refine ⟨_, rfl, p, _, _, _, rfl, rfl, SqT.of hp, atI_nat (j := 0) rfl, ?_⟩
    refine ⟨_, rfl, rfl, _, rfl, ifT (by decide +kernel) ?_⟩
    refine ⟨_, rfl, p, _, _, _, rfl, rfl, SqT.of hp, atI_nat (j := 1) rfl, _, rfl, _, rfl, u, s, k, d, ks, e, rfl, a.sub h1 a.let_, by simp [lv] at hlv; omega, fun H1 e1 => ⟨_, rfl, ?_⟩⟩
    exact kk H1 e1
  | con s t =>
    obtain ⟨p, u, u', rfl, hp, h1, h2⟩ := a.say
    refine ⟨_, rfl, p, _, _, _, rfl, rfl, SqT.of hp, atI_nat (j := 0) rfl, ?_⟩
    refine ⟨_, rfl, rfl, _, rfl, ifF (by decide +kernel) ?_⟩
    refine ⟨_, rfl, rfl, _, rfl, ifT (by decide +kernel) ?_⟩
    refine ⟨_, rfl, p, _, _, _, rfl, rfl, SqT.of hp, atI_nat (j := 1) rfl, _, rfl, _, rfl, u, s, k, d, ks, e, rfl, a.sub h1 a.let_.1, by simp [lv] at hlv; omega, fun H1 e1 => ⟨_, rfl, ?_⟩⟩
    refine ifb (fun c => ?_) (fun c => ?_)
    · refine ⟨_, rfl, p, _, _, _, rfl, rfl, SqT.of (e1 _ _ hp), atI_nat (j := 2) rfl, _, rfl, _, rfl, u', t, k, d, ks, e, rfl, (a.sub h2 a.let_.2).keep e1, by simp [lv] at hlv; omega, fun H2 e2 => ?_⟩
      have := kk H2 (e1.trans e2)
      rw [sem, c, Bool.true_and] at this
      exact this
    · have := kk H1 e1
      rw [sem, c, Bool.false_and] at this
      exact this
  | dis s t =>
    obtain ⟨p, u, u', rfl, hp, h1, h2⟩ := a.say
    refine ⟨_, rfl, p, _, _, _, rfl, rfl, SqT.of hp, atI_nat (j := 0) rfl, ?_⟩
    refine ⟨_, rfl, rfl, _, rfl, ifF (by decide +kernel) ?_⟩
    refine ⟨_, rfl, rfl, _, rfl, ifF (by decide +kernel) ?_⟩
    refine ⟨_, rfl, rfl, _, rfl, ifT (by decide +kernel) ?_⟩
    refine ⟨_, rfl, p, _, _, _, rfl, rfl, SqT.of hp, atI_nat (j := 1) rfl, _, rfl, _, rfl, u, s, k, d, ks, e, rfl, a.sub h1 a.let_.1, by simp [lv] at hlv; omega, fun H1 e1 => ⟨_, rfl, ?_⟩⟩
    refine ifb (fun c => ?_) (fun c => ?_)
    · have := kk H1 e1
      rw [sem, c, Bool.true_or] at this
      exact this
    · refine ⟨_, rfl, p, _, _, _, rfl, rfl, SqT.of (e1 _ _ hp), atI_nat (j := 2) rfl, _, rfl, _, rfl, u', t, k, d, ks, e, rfl, (a.sub h2 a.let_.2).keep e1, by simp [lv] at hlv; omega, fun H2 e2 => ?_⟩
      have := kk H2 (e1.trans e2)
      rw [sem, c, Bool.false_or] at this
      exact this
  | ex m s =>
    obtain ⟨p, u, rfl, hp, h1⟩ := id a.say
    refine ⟨_, rfl, p, _, _, _, rfl, rfl, SqT.of hp, atI_nat (j := 0) rfl, ?_⟩
    refine ⟨_, rfl, rfl, _, rfl, ifF (by decide +kernel) ?_⟩
    refine ⟨_, rfl, rfl, _, rfl, ifF (by decide +kernel) ?_⟩
    refine ⟨_, rfl, rfl, _, rfl, ifF (by decide +kernel) ?_⟩
    refine ⟨_, rfl, rfl, _, rfl, ifT (by decide +kernel) ?_⟩
    exact ⟨_, rfl, _, rfl, _, rfl, _, m, s, k, d, ks, e, rfl, a, by simp [lv] at hlv; omega, kk⟩
  | al m s =>
    obtain ⟨p, u, rfl, hp, h1⟩ := id a.say
    refine ⟨_, rfl, p, _, _, _, rfl, rfl, SqT.of hp, atI_nat (j := 0) rfl, ?_⟩
    refine ⟨_, rfl, rfl, _, rfl, ifF (by decide +kernel) ?_⟩
    refine ⟨_, rfl, rfl, _, rfl, ifF (by decide +kernel) ?_⟩
    refine ⟨_, rfl, rfl, _, rfl, ifF (by decide +kernel) ?_⟩
    refine ⟨_, rfl, rfl, _, rfl, ifF (by decide +kernel) ?_⟩
    refine ⟨_, rfl, rfl, _, rfl, ifT (by decide +kernel) ?_⟩
    refine ⟨_, rfl, p, _, _, _, rfl, rfl, SqT.of hp, atI_nat (j := 1) rfl, _, rfl, p, _, _, _, rfl, rfl, SqT.of hp, atI_nat (j := 2) rfl, le_line (by show 2 ≤ 16000000; decide), fun q nq => ?_⟩
    refine ⟨le_line (by show 3 ≤ 16000000; decide), fun q2 nq2 => ?_⟩
    have e2 : Same H (upd (upd H q (.tup [.str "not", u])) q2 (.tup [.str "some", .str m, .ref q])) := (same_new nq _).new nq2 _
    have qn : q ≠ q2 := ne_of_none upd_same nq2
    refine ⟨_, rfl, _, rfl, _, m, .neg s, k, d, ks, e, rfl, (a.keep e2).sub ⟨q2, .ref q, rfl, upd_same, q, u, rfl, ?_, h1.keep e2.tup⟩ a.let_, by simp [lv] at hlv ⊢; omega, fun H1 e1 => ⟨_, rfl, ?_⟩⟩
    · rw [upd_ne qn]
      exact upd_same
    have := kk H1 (e2.trans e1)
    rw [sem_al] at this
    exact this
theorem cal_HBS (T : Top K mg) : ∀ n, C8.Cal P w K mg base (n + 3) "holds_by" (spHB n) [] ∧ C8.Cal P w K mg base (n + 3) "some_holds" (spSH n) []
  | 0 => ⟨none_ok T.d_holds_by fun vs H Q E ⟨v, s, _, _, _, _, _, _, h, _⟩ => by have := lv_pos s; omega, none_ok T.d_some_holds fun vs H Q E ⟨_, _, _, _, _, _, _, _, _, h, _⟩ => by omega⟩
  | n + 1 => ⟨cal_HB1 T (cal_HBS T n).1 (cal_HBS T n).2, cal_SH T (cal_HBS T n).1⟩
end
end Sy

set_option Elab.async false
set_option linter.all false
set_option maxRecDepth 100000
set_option maxHeartbeats 4000000
namespace Sy
open PySem L2

def StandTo (H : Hp) (q : Addr) (ks : List Str) (row : List Int) (i : Nat) : Prop :=
  ∃ kvs : List (Key × V), H q = some (.dK kvs) ∧ kvs.length ≤ i ∧ ∀ (j : Nat) (n : Str), j < i → ks[j]? = some n → ∃ l, valV kvs (Sum.inr n) = some (.ref l) ∧ H l = some (.lst ((pw row j).map V.int))
theorem StandTo.put {H H1 : Hp} {q l : Addr} {ks : List Str} {row : List Int} {i : Nat} {m : Str} (h : StandTo H q ks row i) (nd : ks.Nodup) (hm : ks[i]? = some m) (s : Same H H1) (hl : H1 l = some (.lst ((pw row i).map V.int))) :
    ∃ kvs : List (Key × V), H1 q = some (.dK kvs) ∧ kvs.length ≤ i ∧ StandTo (upd H1 q (.dK (putK kvs (Sum.inr m) (.ref l)))) q ks row (i + 1) := by
  obtain ⟨kvs, h1, h2, h3⟩ := h
  have hq := s _ _ h1
  refine ⟨kvs, hq, h2, _, upd_same, ?_, fun j n hj hn => ?_⟩
  · have := length_putK kvs (Sum.inr m) (V.ref l)
    omega
  by_cases e : j = i
  · subst e
    rw [hm] at hn
    cases Option.some.inj hn
    refine ⟨l, by rw [valV_put, if_pos rfl], ?_⟩
    rw [upd_ne (ne_of hl hq (by intro z; cases z))]
    exact hl
  · obtain ⟨l2, h4, h5⟩ := h3 j n (by omega) hn
    have hne : ¬ (Sum.inr n : Key) = Sum.inr m := fun z => by
      cases Sum.inr.inj z
      exact e (nd_ix nd hn hm)
    refine ⟨l2, by rw [valV_put, if_neg hne]; exact h4, ?_⟩
    have h6 := s _ _ h5
    rw [upd_ne (ne_of h6 hq (by intro z; cases z))]
    exact h6
theorem StandTo.done {H : Hp} {q : Addr} {ks : List Str} {row : List Int} (h : StandTo H q ks row ks.length) (nd : ks.Nodup) : StandAt H q ks (env0 ks row) := by
  obtain ⟨kvs, h1, h2, h3⟩ := h
  refine ⟨kvs, h1, h2, fun n hn => ?_⟩
  obtain ⟨j, hj⟩ := List.mem_iff_getElem?.mp hn
  rw [env0_at nd hj]
  exact h3 j n (List.getElem?_eq_some_iff.mp hj).1 hj
theorem env0_small (ks : List Str) {row : List Int} (h : row.length ≤ 20) : ∀ n ∈ ks, (env0 ks row n).length ≤ 100 := fun n _ => by
  have := pw_len row (ks.idxOf n)
  unfold env0
  omega

def spHolds : Sp := fun vs H Q _ => ∃ (v : V) (s : Say) (a b : Addr) (ks : List Str) (row : List Int), vs = [v, .ref a, .ref b] ∧ SayAt H s v ∧ Let s ks ∧ FrOk ks ∧ H a = some (.lst (ks.map V.str)) ∧ H b = some (.lst (row.map V.int)) ∧
  InR ks.length row ∧ row.length ≤ 20 ∧ dpt s ≤ 12 ∧ parts s ≤ 60 ∧ ∀ H', Same H H' → Q (.bl (verd s ks row)) H'
section
variable {P : Program} {w : World} {K : PySem.W.Frag} {mg : Str → Option Value} {base : Heap}
theorem cal_holds (T : Top K mg) : C8.Cal P w K mg base 40 "holds" spHolds [] := by
  refine cal_of T.d_holds fun f fd F => F.ok sc_holds (fun vs H Q E h => ?_) (fun cdv A outer s H vs Q E hr h => ?_)
  · obtain ⟨v, s, a, b, ks, row, rfl, _⟩ := h
    rfl
  obtain ⟨v, sy, a, b, ks, row, rfl, hs, hl, fr, ha, hb, hin, hrl, hd, hp, kk⟩ := h
  have nd := sc_holds.nd
  have GK : C8.Cal P w K mg base 17 "look_at_asking" spLook [] := cal_look T
  have GF : C8.Cal P w K mg base 3 "fits" spFits [] := cal_fits T
  have GW : C8.Cal P w K mg base 2 "places_with" spPw [] := cal_pw T
  have GH : C8.Cal P w K mg base 39 "holds_by" (spHB 36) [] := (cal_HBS T 36).1
  refine ⟨_, (pss_cons (ps_expr (pe_d GK hr (pa_cons (pv 0) (pa_cons (pv 1) pa_nil))))
      (pss_cons (ps_if (pt_not (pt_val (pe_d GF hr (pa_cons (pv 1) (pa_cons (pv 2) pa_nil))))) (pss_one (ps_ret pe_bl)) pss_nil)
      (pss_cons (ps_set (i := 3) nd rfl (Or.inl rfl) pe_dnewK)
      (pss_cons (ps_for PassesOwn.never rfl (pi_enum rfl T.b_enumerate (pa_cons (pv 1) pa_nil)) (pg_tup rfl (pgs_cons (pg_name (i := 4) nd rfl (Or.inl rfl)) (pgs_cons (pg_name (i := 5) nd rfl (Or.inl rfl)) pgs_nil))) (pss_one (ps_dput (hu_of hr) (pv 3) (pv 5) (pe_d GW hr (pa_cons (pv 2) (pa_cons (pv 4) pa_nil))) rfl)))
      (pss_one (ps_ret (pe_d GH hr (pa_cons (pv 0) (pa_cons (pe_callB call_len_seq rfl T.b_len PySem.boot_len (pa_cons (pv 2) pa_nil)) (pa_cons (pv 3) pa_nil)))))))))), ?_⟩
  have hkl : (ks.map V.str).length = ks.length := List.length_map _
  refine ⟨_, rfl, _, rfl, v, sy, a, ks, rfl, hs, hl, fr, ha, hd, hp, fun H1 e1 => ?_⟩
  refine ⟨_, rfl, _, rfl, a, b, ks, row, rfl, e1 _ _ ha, fr, e1 _ _ hb, hin, by omega, fun H2 e2 => ⟨_, rfl, ?_⟩⟩
  have e12 := e1.trans e2
  cases hf : fitB ks row with
  | false =>
    have := kk H2 e12
    unfold verd at this
    rw [hf, Bool.false_and] at this
    exact this
  | true =>
    refine fun q nq => ?_
    have nq0 := e12.free nq
    have e3 : Same H (upd H2 q (.dK [])) := e12.new nq _
    refine ⟨_, rfl, a, _, rfl, SqL.of (e3 _ _ ha), for_it (walk_enum (xs := ks.map V.str)) (fun i σ H' => (∃ v4 v5, σ = [some v, some (.ref a), some (.ref b), some (.ref q), v4, v5]) ∧ Same H H' ∧ StandTo H' q ks row i)
      ⟨⟨_, _, rfl⟩, e3, [], upd_same, Nat.le_refl _, fun j n hj => absurd hj (Nat.not_lt_zero _)⟩ (fun i σ H1 _ ⟨_, e, _⟩ => SqL.of (e _ _ ha)) (fun i x σ H3 H4 hi p y => ?_) (fun σ H3 p => ?_)⟩
    · obtain ⟨⟨v4, v5, rfl⟩, e4, hto⟩ := p
      obtain ⟨t, x1, x2, rfl, nt, rfl, hx1, hx2⟩ := y
      have hx1' : V.int ((i : Nat) : Int) = x1 := Option.some.inj hx1
      subst hx1'
      have hx2 : (ks.map V.str)[i]? = some x2 := hx2
      rw [List.getElem?_map] at hx2
      obtain ⟨m, hm, rfl⟩ := Option.map_eq_some_iff.mp hx2
      have e5 : Same H3 (upd H3 t (.tup [.int ((i : Nat) : Int), .str m])) := same_new nt _
      refine ⟨t, _, rfl, SqT.of upd_same, rfl, _, _, rfl, _, _, rfl, rfl, ?_⟩
      refine ⟨_, rfl, _, rfl, b, row, i, rfl, (e4.trans e5) _ _ hb, by omega, fun H5 l e6 nl hl => ?_⟩
      obtain ⟨kvs, hq, hkv, hto2⟩ := hto.put fr.nd hm (e5.trans e6) hl
      have hil := (List.getElem?_eq_some_iff.mp hm).1
      refine ⟨_, rfl, _, rfl, q, _, rfl, DPut.k (k := Sum.inr m) hq (lt_line (by have := fr.len; omega)), ?_⟩
      exact ⟨⟨_, _, rfl⟩, (e4.trans (e5.trans e6)).upd_free nq0 _, hto2⟩
    · obtain ⟨⟨v4, v5, rfl⟩, e4, hto⟩ := p
      rw [hkl] at hto
      refine ⟨_, rfl, _, rfl, b, _, rfl, .inl (SqL.of (e4 _ _ hb)), _, rfl, v, sy, row.length, q, ks, env0 ks row, by rw [List.length_map]; rfl,
        ⟨hs.keep e4.tup, hl, hto.done fr.nd, env0_ok hf, env0_small ks hrl, hrl, fr.len⟩, Nat.le_trans (lv_dpt sy) (by omega), fun H5 e5 => ?_⟩
      have := kk H5 (e4.trans e5)
      unfold verd at this
      rw [hf, Bool.true_and] at this
      exact this
end
end Sy

set_option Elab.async false
set_option linter.all false
set_option maxRecDepth 100000
set_option maxHeartbeats 4000000
namespace Sy
open PySem L2

/-! ### lists of lists of ints -/
def LLs (H : Hp) : List Addr → List (List Int) → Prop
  | [], [] => True
  | q :: qs, c :: cs => H q = some (.lst (c.map V.int)) ∧ LLs H qs cs
  | _, _ => False
theorem LLs.len {H : Hp} : ∀ {qs : List Addr} {cs : List (List Int)}, LLs H qs cs → qs.length = cs.length
  | [], [], _ => rfl
  | q :: qs, c :: cs, h => congrArg (· + 1) (LLs.len h.2)
theorem LLs.app {H : Hp} : ∀ {qs rs : List Addr} {cs ds : List (List Int)}, LLs H qs cs → LLs H rs ds → LLs H (qs ++ rs) (cs ++ ds)
  | [], _, [], _, _, h => h
  | _ :: _, _, _ :: _, _, h, h' => ⟨h.1, LLs.app h.2 h'⟩
theorem LLs.keepOn {H H' : Hp} : ∀ {qs : List Addr} {cs : List (List Int)}, LLs H qs cs → (∀ q ∈ qs, ∀ o, H q = some o → H' q = some o) → LLs H' qs cs
  | [], [], _, _ => trivial
  | q :: qs, c :: cs, h, k => ⟨k q List.mem_cons_self _ h.1, LLs.keepOn h.2 fun q' hq => k q' (List.mem_cons_of_mem _ hq)⟩
theorem LLs.keep {H H' : Hp} {qs : List Addr} {cs : List (List Int)} (h : LLs H qs cs) (s : Same H H') : LLs H' qs cs := h.keepOn fun q _ o e => s q o e
theorem LLs.get {H : Hp} : ∀ {qs : List Addr} {cs : List (List Int)} {i : Nat} {q : Addr}, LLs H qs cs → qs[i]? = some q → ∃ c, cs[i]? = some c ∧ H q = some (.lst (c.map V.int))
  | q :: qs, c :: cs, 0, q', h, e => by
    have e' : q = q' := by simpa using e
    subst e'
    exact ⟨c, rfl, h.1⟩
  | q :: qs, c :: cs, i + 1, q', h, e => by
    obtain ⟨c', h1, h2⟩ := LLs.get (i := i) h.2 (by simpa using e)
    exact ⟨c', by simpa using h1, h2⟩
/-- a list of new lists that is being made at D -/
def Col (H0 : Hp) (D : Addr) (H : Hp) (cs : List (List Int)) : Prop :=
  Same H0 H ∧ ∃ qs : List Addr, H D = some (.lst (qs.map V.ref)) ∧ LLs H qs cs ∧ D ∉ qs
theorem Col.start {H0 H1 : Hp} {D : Addr} (s : Same H0 H1) (n : H1 D = none) : Col H0 D (upd H1 D (.lst [])) [] :=
  ⟨s.new n _, [], upd_same, trivial, List.not_mem_nil⟩
theorem Col.step {H0 H1 H2 : Hp} {D p : Addr} {cs : List (List Int)} {c : List Int} (h : Col H0 D H1 cs) (nD : H0 D = none) (s : Same H1 H2) (np : H2 p = none) :
    ∃ acc, upd H2 p (.lst (c.map V.int)) D = some (.lst acc) ∧ acc.length = cs.length ∧ Col H0 D (upd (upd H2 p (.lst (c.map V.int))) D (.lst (acc ++ [.ref p]))) (cs ++ [c]) := by
  obtain ⟨e0, qs, hD, hq, nd⟩ := h
  have hD2 := s _ _ hD
  have ne : D ≠ p := ne_of_none hD2 np
  refine ⟨qs.map V.ref, by rw [upd_ne ne]; exact hD2, by rw [List.length_map]; exact hq.len, ?_, qs ++ [p], ?_, ?_, ?_⟩
  · exact ((e0.trans s).new np _).upd_free nD _
  · rw [upd_same, List.map_append]
    rfl
  · refine LLs.app (hq.keepOn fun q hm o e => ?_) ⟨?_, trivial⟩
    · have e2 := s _ _ e
      rw [upd_ne (fun (z : q = D) => nd (z ▸ hm)), upd_ne (ne_of_none e2 np)]
      exact e2
    · rw [upd_ne ne.symm, upd_same]
  · intro hm
    rcases List.mem_append.mp hm with z | z
    · exact nd z
    · exact ne (List.mem_singleton.mp z)

def frames8 : List (List Str) := [[], ["x"], ["X"], ["x", "X"], ["X1", "x"], ["x", "x1"], ["X"], ["x12", "X"]]
theorem frames8_ok : ∀ ks ∈ frames8, ks.Nodup ∧ (∀ n ∈ ks, n ∈ pl4 ++ st4) ∧ ks.length ≤ 2 := by decide +kernel
theorem low_pl : ∀ z ∈ pl4, (!decide ([z.cps.toList.headD 0] < ("a" : Str).cps.toList)) = true ∧ (!decide (("z" : Str).cps.toList < [z.cps.toList.headD 0])) = true := by decide +kernel
theorem low_st : ∀ z ∈ st4, (!decide ([z.cps.toList.headD 0] < ("a" : Str).cps.toList)) = false := by decide +kernel
/-- the first sign of a name -/
theorem nm_at {z : Str} (h : Nm z) : atI z.cps.toList 0 = some (z.cps.toList.headD 0) ∧ z.length ≤ sizeLine := by
  have hl := nm_len z h
  refine ⟨?_, le_line (by omega)⟩
  cases e : z.cps.toList with
  | nil =>
    have : z.length = 0 := by simp [Str.length, ← Array.length_toList, e]
    omega
  | cons c l => exact atI_nat (j := 0) rfl
theorem nm_low {z : Str} (h : Nm z) (hp : plB z = true) : (!decide ([z.cps.toList.headD 0] < ("a" : Str).cps.toList)) = true ∧ (!decide (("z" : Str).cps.toList < [z.cps.toList.headD 0])) = true := by
  rcases h.cases with z1 | z1
  · exact low_pl z z1
  · rw [st4_pl z z1] at hp; cases hp
theorem nm_high {z : Str} (h : Nm z) (hp : plB z = false) : (!decide ([z.cps.toList.headD 0] < ("a" : Str).cps.toList)) = false := by
  rcases h.cases with z1 | z1
  · rw [pl4_pl z z1] at hp; cases hp
  · exact low_st z z1

def spCell (K : PySem.W.Frag) : Sp := fun vs H Q _ => ∃ (a : Addr) (ns : List Int), vs = [.ref a, .int 0] ∧ SqL K H a (ns.map V.int) ∧ ∀ x H', Same H H' → Q (.int x) H'
def spMix : Sp := fun vs H Q _ => ∃ c : Int, vs = [.int c] ∧ ∀ x H', 0 ≤ x → Same H H' → Q (.int x) H'
def spFrm : Sp := fun vs H Q _ => ∃ c : Int, vs = [.int c] ∧ ∀ a ks H', Same H H' → H' a = some (.lst (ks.map V.str)) → FrOk ks → ks.length ≤ 2 → Q (.ref a) H'
def spCho : Sp := fun vs H Q _ => ∃ (m : Str) (k : Nat), vs = [.str m, .int (k : Int)] ∧ Nm m ∧ k ≤ 20 ∧ ∀ H' p qs, Same H H' → H' p = some (.lst (qs.map V.ref)) → LLs H' qs (choices m k) → Q (.ref p) H'
section
variable {P : Program} {w : World} {K : PySem.W.Frag} {mg : Str → Option Value} {base : Heap}
theorem cal_cell (T : Top K mg) : C8.Cal P w K mg base 1 "_law_cell_at" (spCell K) [] := by
  refine cal_of T.d_Lcell_at fun f fd F => F.ok sc_Lcell_at (fun vs H Q E h => ?_) (fun cdv A outer s H vs Q E hr h => ?_)
  · obtain ⟨a, ns, rfl, _⟩ := h
    rfl
  obtain ⟨a, ns, rfl, ha, kk⟩ := h
  refine ⟨_, (pss_cons (ps_if (pt_cmpR op_lt (pv 1) (pe_callB call_len_seq rfl T.b_len PySem.boot_len (pa_cons (pv 0) pa_nil)) (nomark _)) (pss_one (ps_ret (pe_ix ix_list (pv 0) (pv 1) (fun _ _ => rfl)))) pss_nil)
      (pss_one (ps_ret pe_int))), ?_⟩
  refine ⟨_, rfl, _, rfl, a, _, rfl, .inl ha, _, _, rfl, rfl, _, rfl, ?_⟩
  refine ifb (fun c => ?_) (fun c => kk _ _ (Same.refl H))
  have hn : 0 < ns.length := by
    have := of_decide_eq_true c
    rw [List.length_map] at this
    omega
  exact ⟨_, rfl, _, rfl, a, _, _, .int ns[0], rfl, rfl, ha, atI_nat (j := 0) (by rw [List.getElem?_map, List.getElem?_eq_getElem hn]; rfl), kk _ _ (Same.refl H)⟩
theorem cal_mix (T : Top K mg) : C8.Cal P w K mg base 1 "_law_mixed" spMix [] := by
  refine cal_of T.d_Lmixed fun f fd F => F.ok sc_Lmixed (fun vs H Q E h => ?_) (fun cdv A outer s H vs Q E hr h => ?_)
  · obtain ⟨c, rfl, _⟩ := h
    rfl
  obtain ⟨c, rfl, kk⟩ := h
  refine ⟨_, (pss_one (ps_ret (pe_op op_mod (pe_op op_mul (pv 0) pe_int) pe_int))), ?_⟩
  refine ⟨_, rfl, _, _, rfl, rfl, .inr ⟨by decide, by decide⟩, _, _, rfl, rfl, by show (0 : Int) < 999999999989; decide, ?_⟩
  exact kk _ _ (Int.emod_nonneg _ (by decide)) (Same.refl H)
theorem cal_frm (T : Top K mg) : C8.Cal P w K mg base 2 "_law_frame" spFrm [] := by
  refine cal_of T.d_Lframe fun f fd F => F.ok sc_Lframe (fun vs H Q E h => ?_) (fun cdv A outer s H vs Q E hr h => ?_)
  · obtain ⟨c, rfl, _⟩ := h
    rfl
  obtain ⟨c, rfl, kk⟩ := h
  have nd := sc_Lframe.nd
  have GM : C8.Cal P w K mg base 1 "_law_mixed" spMix [] := cal_mix T
  refine ⟨_, (pss_cons (ps_set (i := 1) nd rfl (Or.inl rfl) (pe_d GM hr (pa_cons (pv 0) pa_nil)))
      (pss_one (ps_ret (pe_ix ix_list (pe_lst (pa_cons (pe_lst pa_nil) (pa_cons (pe_lst (pa_cons pe_str pa_nil)) (pa_cons (pe_lst (pa_cons pe_str pa_nil)) (pa_cons (pe_lst (pa_cons pe_str (pa_cons pe_str pa_nil))) (pa_cons (pe_lst (pa_cons pe_str (pa_cons pe_str pa_nil))) (pa_cons (pe_lst (pa_cons pe_str (pa_cons pe_str pa_nil))) (pa_cons (pe_lst (pa_cons pe_str pa_nil)) (pa_cons (pe_lst (pa_cons pe_str (pa_cons pe_str pa_nil))) pa_nil))))))))) (pe_op op_mod (pv 1) pe_int) (fun _ _ => rfl))))), ?_⟩
  refine ⟨_, rfl, c, rfl, fun x H1 h0 e1 => ?_⟩
  have l8 : ∀ {k : Nat}, k ≤ 8 → k ≤ sizeLine := fun h => le_line (by omega)
  refine ⟨l8 (Nat.zero_le _), fun p0 n0 => ?_⟩
  refine ⟨l8 (show 1 ≤ 8 by decide), fun p1 n1 => ?_⟩
  refine ⟨l8 (show 1 ≤ 8 by decide), fun p2 n2 => ?_⟩
  refine ⟨l8 (show 2 ≤ 8 by decide), fun p3 n3 => ?_⟩
  refine ⟨l8 (show 2 ≤ 8 by decide), fun p4 n4 => ?_⟩
  refine ⟨l8 (show 2 ≤ 8 by decide), fun p5 n5 => ?_⟩
  refine ⟨l8 (show 1 ≤ 8 by decide), fun p6 n6 => ?_⟩
  refine ⟨l8 (show 2 ≤ 8 by decide), fun p7 n7 => ?_⟩
  refine ⟨l8 (show 8 ≤ 8 by decide), fun p8 n8 => ?_⟩
  have s0 := e1.new n0 (.lst [])
  have a1 := same_new n1 (.lst [V.str "x"])
  have a2 := same_new n2 (.lst [V.str "X"])
  have a3 := same_new n3 (.lst [V.str "x", V.str "X"])
  have a4 := same_new n4 (.lst [V.str "X1", V.str "x"])
  have a5 := same_new n5 (.lst [V.str "x", V.str "x1"])
  have a6 := same_new n6 (.lst [V.str "X"])
  have a7 := same_new n7 (.lst [V.str "x12", V.str "X"])
  have a8 := same_new n8 (.lst [V.ref p0, V.ref p1, V.ref p2, V.ref p3, V.ref p4, V.ref p5, V.ref p6, V.ref p7])
  have b7 := a8
  have b6 := a7.trans b7
  have b5 := a6.trans b6
  have b4 := a5.trans b5
  have b3 := a4.trans b4
  have b2 := a3.trans b3
  have b1 := a2.trans b2
  have b0 := a1.trans b1
  have eAll := s0.trans b0
  have hx0 : 0 ≤ x % 8 := Int.emod_nonneg _ (by decide)
  have hx8 : x % 8 < 8 := Int.emod_lt_of_pos _ (by decide)
  have key : ∀ HF : Hp, Same H HF → HF p0 = some (.lst []) → HF p1 = some (.lst [V.str "x"]) → HF p2 = some (.lst [V.str "X"]) → HF p3 = some (.lst [V.str "x", V.str "X"]) → HF p4 = some (.lst [V.str "X1", V.str "x"]) → HF p5 = some (.lst [V.str "x", V.str "x1"]) → HF p6 = some (.lst [V.str "X"]) → HF p7 = some (.lst [V.str "x12", V.str "X"]) →
      ∃ p, atI [V.ref p0, V.ref p1, V.ref p2, V.ref p3, V.ref p4, V.ref p5, V.ref p6, V.ref p7] (x % 8) = some (.ref p) ∧ Q (.ref p) HF := by
    intro HF eA c0 c1 c2 c3 c4 c5 c6 c7
    have fin : ∀ (p : Addr) (ks : List Str), ks ∈ frames8 → HF p = some (.lst (ks.map V.str)) → Q (.ref p) HF := fun p ks hk hp => by
      obtain ⟨q1, q2, q3⟩ := frames8_ok ks hk
      exact kk p ks _ eA hp ⟨q1, q2, by omega⟩ q3
    obtain ⟨j, hj⟩ : ∃ j : Nat, x % 8 = (j : Int) := ⟨(x % 8).toNat, by omega⟩
    have hj8 : j < 8 := by omega
    rw [hj]
    match j, hj8 with
    | 0, _ => exact ⟨p0, atI_nat (j := 0) rfl, fin p0 [] (by decide +kernel) c0⟩
    | 1, _ => exact ⟨p1, atI_nat (j := 1) rfl, fin p1 ["x"] (by decide +kernel) c1⟩
    | 2, _ => exact ⟨p2, atI_nat (j := 2) rfl, fin p2 ["X"] (by decide +kernel) c2⟩
    | 3, _ => exact ⟨p3, atI_nat (j := 3) rfl, fin p3 ["x", "X"] (by decide +kernel) c3⟩
    | 4, _ => exact ⟨p4, atI_nat (j := 4) rfl, fin p4 ["X1", "x"] (by decide +kernel) c4⟩
    | 5, _ => exact ⟨p5, atI_nat (j := 5) rfl, fin p5 ["x", "x1"] (by decide +kernel) c5⟩
    | 6, _ => exact ⟨p6, atI_nat (j := 6) rfl, fin p6 ["X"] (by decide +kernel) c6⟩
    | 7, _ => exact ⟨p7, atI_nat (j := 7) rfl, fin p7 ["x12", "X"] (by decide +kernel) c7⟩
  obtain ⟨p, k1, k2⟩ := key _ eAll (b0 _ _ upd_same) (b1 _ _ upd_same) (b2 _ _ upd_same) (b3 _ _ upd_same) (b4 _ _ upd_same) (b5 _ _ upd_same) (b6 _ _ upd_same) (b7 _ _ upd_same)
  exact ⟨_, rfl, _, _, rfl, rfl, by show (0 : Int) < 8; decide, p8, _, _, _, rfl, rfl, SqL.of upd_same, k1, k2⟩
theorem cal_cho (T : Top K mg) : C8.Cal P w K mg base 1 "_law_choices" spCho [] := by
  refine cal_of T.d_Lchoices fun f fd F => F.ok sc_Lchoices (fun vs H Q E h => ?_) (fun cdv A outer s H vs Q E hr h => ?_)
  · obtain ⟨m, k, rfl, _⟩ := h
    rfl
  obtain ⟨m, k, rfl, hm, hk, kk⟩ := h
  have nd := sc_Lchoices.nd
  refine ⟨_, (pss_cons (ps_if (pt_chain op_le_str op_le_str pe_str (pe_ix ix_str (pv 0) pe_int (fun _ _ => rfl)) pe_str) (pss_one (ps_ret (pe_lc (own := [("_law_place", 3)]) (g := gName 3) (tt := tYes) rfl nd (pi_range1 rfl T.b_range (pa_cons (pv 1) pa_nil)) (blkOk_by (N := N_Lchoices) (sc := defScope s_Lchoices) (by decide +kernel)) (fun _ _ _ _ _ => pg_name (i := 3) nd rfl (Or.inl rfl)) (fun _ _ _ _ _ => pts_nil) (fun _ _ _ _ _ => (pe_lst (pa_cons (pv 3) pa_nil)))))) pss_nil)
      (pss_cons (ps_set (i := 2) nd rfl (Or.inl rfl) (pe_lst (pa_cons (pe_lst pa_nil) pa_nil)))
      (pss_cons (ps_for PassesOwn.never rfl (pi_range1 rfl T.b_range (pa_cons (pv 1) pa_nil)) (pg_name (i := 3) nd rfl (Or.inr rfl)) (pss_one (ps_set (i := 2) nd rfl (Or.inl rfl) (pe_op op_cat (pv 2) (pe_lc (own := [("_law_some", 4)]) (g := gName 4) (tt := tYes) rfl nd (pi_list (pv 2)) (blkOk_by (N := N_Lchoices) (sc := defScope s_Lchoices) (by decide +kernel)) (fun _ _ _ _ _ => pg_name (i := 4) nd rfl (Or.inl rfl)) (fun _ _ _ _ _ => pts_nil) (fun _ _ _ _ _ => (pe_op op_cat (pv 4) (pe_lst (pa_cons (pv 3) pa_nil)))))))))
      (pss_one (ps_ret (pv 2)))))), ?_⟩
  obtain ⟨hat, hzl⟩ := nm_at hm
  refine ⟨_, rfl, m, 0, _, rfl, rfl, hzl, hat, _, _, rfl, rfl, _, rfl, ?_⟩
  cases hpl : plB m with
  | true =>
    obtain ⟨g1, g2⟩ := nm_low hm hpl
    refine ifT g1 ⟨_, _, rfl, rfl, true, congrArg V.bl g2, ?_⟩
    have ec : choices m k = (List.range k).map (fun i => [((i : Nat) : Int)]) := by unfold choices; rw [if_pos hpl]
    refine ⟨_, rfl, _, rfl, by omega, by omega, fun D nD => ?_⟩
    refine lc_range (lo := 0) (n := _) (fun i H' => Col H D H' ((List.range i).map (fun i => [((i : Nat) : Int)]))) (Col.start (Same.refl H) nD) (fun i H1 hi p => ?_) (fun H1 p => ?_)
    · have hi' : i < k := by simpa using hi
      refine ⟨rfl, _, rfl, le_line (by show 1 ≤ 16000000; decide), fun q nq => ?_⟩
      obtain ⟨acc, h1, h2, h3⟩ := p.step (c := [((i : Nat) : Int)]) nD (Same.refl H1) nq
      rw [show (0 : Int) + ((i : Nat) : Int) = ((i : Nat) : Int) from Int.zero_add _]
      refine ⟨acc, h1, lt_line (by rw [h2, List.length_map, List.length_range]; omega), ?_⟩
      rw [List.range_succ, List.map_append]
      exact h3
    · obtain ⟨e1, qs, hD, hq, _⟩ := p
      refine kk H1 D qs e1 hD ?_
      rw [ec]
      exact hq
  | false =>
    have g1 := nm_high hm hpl
    refine ifF g1 ⟨false, rfl, ?_⟩
    have ec : choices m k = subs k := by unfold choices; rw [if_neg (by rw [hpl]; exact Bool.false_ne_true)]
    refine ⟨le_line (by show 0 ≤ 16000000; decide), fun q0 n0 => ⟨le_line (by show 1 ≤ 16000000; decide), fun q1 n1 => ?_⟩⟩
    refine ⟨_, rfl, _, rfl, by omega, by omega, for_range (lo := 0) (n := _) (fun i σ H' => ∃ (fa : Addr) (qs : List Addr) (v3 : Option V), σ = [some (.str m), some (.int (k : Int)), some (.ref fa), v3, none] ∧ Same H H' ∧ H' fa = some (.lst (qs.map V.ref)) ∧ LLs H' qs (subs i))
      ⟨q1, [q0], none, rfl, (same_new n0 _).new n1 _, upd_same, ?_, trivial⟩ (fun i σ H1 hi p => ?_) (fun σ H1 p => ?_)⟩
    · exact (upd_ne (ne_of_none upd_same n1)).trans upd_same
    · obtain ⟨fa, qs, v3, rfl, e1, hfa, hq⟩ := p
      have hi' : i < k := by simpa using hi
      have hp2 : 2 ^ i ≤ 1048576 := Nat.pow_le_pow_right (n := 2) (by decide) (show i ≤ 20 by omega)
      have hql := hq.len
      rw [subs_len] at hql
      refine ⟨_, rfl, _, rfl, fa, rfl, ⟨_, SqL.of hfa⟩, fun D nD => ?_⟩
      refine lc_list (K := K) (a := fa) (xs := qs.map V.ref) (fun j H' => Col H1 D H' (((subs i).take j).map (fun c => c ++ [(i : Int)]))) (Col.start (Same.refl H1) nD)
        (fun j H2 _ p => SqL.of (p.1 _ _ hfa)) (fun j x H2 hx p => ?_) (fun H2 p => ?_)
      · rw [List.getElem?_map] at hx
        obtain ⟨q, hqj, rfl⟩ := Option.map_eq_some_iff.mp hx
        obtain ⟨c, hc, hHq⟩ := hq.get hqj
        have hHq2 := p.1 _ _ hHq
        have hcl : c.length ≤ 1000 := by
          have : c ∈ choices m i := by
            unfold choices
            rw [if_neg (by rw [hpl]; exact Bool.false_ne_true)]
            exact List.mem_of_getElem? hc
          rw [choices_eq] at this
          obtain ⟨i2, _, rfl⟩ := List.mem_map.mp this
          have := cAt_len (n := m) (k := i) (i := i2) (by omega)
          omega
        refine ⟨rfl, _, rfl, _, rfl, le_line (by show 1 ≤ 16000000; decide), fun p1 np1 => ?_⟩
        have s1 := same_new np1 (.lst [V.int (0 + ((i : Nat) : Int))])
        refine ⟨q, p1, _, _, rfl, rfl, s1 _ _ hHq2, upd_same, le_line (by rw [List.length_map]; show c.length + 1 ≤ _; omega), fun p2 np2 => ?_⟩
        obtain ⟨acc, h1, h2, h3⟩ := p.step (c := c ++ [(i : Int)]) nD s1 np2
        have ee : c.map V.int ++ [V.int (0 + ((i : Nat) : Int))] = (c ++ [(i : Int)]).map V.int := by rw [List.map_append, Int.zero_add]; rfl
        rw [ee]
        refine ⟨acc, h1, lt_line (by rw [h2, List.length_map, List.length_take, subs_len]; omega), ?_⟩
        rw [List.take_add_one, hc, show ((subs i).take j ++ (some c).toList).map (fun c => c ++ [(i : Int)]) = ((subs i).take j).map (fun c => c ++ [(i : Int)]) ++ [c ++ [(i : Int)]] from by rw [List.map_append]; rfl]
        exact h3
      · obtain ⟨e2, rs, hD, hr2, _⟩ := p
        rw [List.length_map, hq.len, List.take_length] at hr2
        have hrl := hr2.len
        rw [List.length_map, subs_len] at hrl
        refine ⟨fa, D, _, _, rfl, rfl, e2 _ _ hfa, hD, le_line (by rw [List.length_map, List.length_map]; omega), fun p3 np3 => ?_⟩
        refine ⟨p3, qs ++ rs, _, rfl, (e1.trans e2).new np3 _, by rw [upd_same, List.map_append], ?_⟩
        exact (LLs.app (hq.keep e2) hr2).keep (same_new np3 _)
    · obtain ⟨fa, qs, v3, rfl, e1, hfa, hq⟩ := p
      refine ⟨_, rfl, ?_⟩
      refine kk H1 fa qs e1 hfa ?_
      rw [ec]
      exact hq
end
end Sy

set_option Elab.async false
set_option linter.all false
set_option maxRecDepth 100000
set_option maxHeartbeats 4000000
namespace Sy
open PySem L2

def spStd : Sp := fun vs H Q _ => ∃ (a b : Addr) (ks : List Str) (row : List Int), vs = [.ref a, .ref b] ∧ H a = some (.lst (ks.map V.str)) ∧ FrOk ks ∧ H b = some (.lst (row.map V.int)) ∧ row.length ≤ 20 ∧
  (fitB ks row = false → ∀ H', Same H H' → Q .non H') ∧ (fitB ks row = true → ∀ d H', Same H H' → StandAt H' d ks (env0 ks row) → Q (.ref d) H')
def spLH (n : Nat) : Sp := fun vs H Q _ => ∃ (v : V) (s : Say) (k : Nat) (d : Addr) (ks : List Str) (e : Env), vs = [v, .int (k : Int), .ref d] ∧ At H s v k d ks e ∧ dpt s ≤ n ∧ ∀ H', Same H H' → Q (.bl (sem s k e)) H'
def spDue : Sp := fun vs H Q _ => ∃ (v : V) (s : Say) (a b : Addr) (ks : List Str) (row : List Int), vs = [v, .ref a, .ref b] ∧ SayAt H s v ∧ Let s ks ∧ FrOk ks ∧ H a = some (.lst (ks.map V.str)) ∧ H b = some (.lst (row.map V.int)) ∧
  row.length ≤ 20 ∧ dpt s ≤ 12 ∧ ∀ H', Same H H' → Q (.bl (verd s ks row)) H'
section
variable {P : Program} {w : World} {K : PySem.W.Frag} {mg : Str → Option Value} {base : Heap}
theorem cal_std (T : Top K mg) : C8.Cal P w K mg base 1 "_law_stand" spStd [] := by
  refine cal_of T.d_Lstand fun f fd F => F.ok sc_Lstand (fun vs H Q E h => ?_) (fun cdv A outer s H vs Q E hr h => ?_)
  · obtain ⟨a, b, ks, row, rfl, _⟩ := h
    rfl
  obtain ⟨a, b, ks, row, rfl, ha, fr, hb, hrl, kF, kT⟩ := h
  have nd := sc_Lstand.nd
  refine ⟨_, (pss_cons (ps_set (i := 2) nd rfl (Or.inl rfl) pe_dnewK)
      (pss_cons (ps_for PassesOwn.never rfl (pi_range1 rfl T.b_range (pa_cons (pe_callB call_len_seq rfl T.b_len PySem.boot_len (pa_cons (pv 0) pa_nil)) pa_nil)) (pg_name (i := 3) nd rfl (Or.inr rfl)) (pss_cons (ps_dput (hu_of hr) (pv 2) (pe_ix ix_list (pv 0) (pv 3) (fun _ _ => rfl)) (pe_lc (own := [("_law_place", 4)]) (g := gName 4) rfl nd (pi_range1 rfl T.b_range (pa_cons (pe_callB call_len_seq rfl T.b_len PySem.boot_len (pa_cons (pv 1) pa_nil)) pa_nil)) (blkOk_by (N := N_Lstand) (sc := defScope s_Lstand) (by decide +kernel)) (fun _ _ _ _ _ => pg_name (i := 4) nd rfl (Or.inl rfl)) (fun _ _ _ _ _ => pts_one (pt_cmpR op_eq (pe_op op_and (pe_op op_shr (pe_ix (r := rIxL K) ix_list (pv 1) (pv 4) (fun _ _ => rfl)) (pv 3)) pe_int) pe_int (nomark _))) (fun _ _ _ _ _ => (pv 4))) rfl)
      (pss_one (ps_if (PW.pt (pw_and (pt_chain op_le_str op_le_str pe_str (pe_ix ix_str (pe_ix ix_list (pv 0) (pv 3) (fun _ _ => rfl)) pe_int (fun _ _ => rfl)) pe_str) (pw_and1 (pt_cmpR op_ne (pe_callB call_len_seq rfl T.b_len PySem.boot_len (pa_cons (pe_dget (hu_of hr) (pv 2) (pe_ix ix_list (pv 0) (pv 3) (fun _ _ => rfl)) (fun _ _ => rfl)) pa_nil)) pe_int (nomark _))))) (pss_one (ps_ret pe_non)) pss_nil))))
      (pss_one (ps_ret (pv 2))))), ?_⟩
  have hkl : (ks.map V.str).length = ks.length := List.length_map _
  have hrl2 : (row.map V.int).length = row.length := List.length_map _
  refine fun q nq => ?_
  refine ⟨_, rfl, a, _, rfl, .inl (SqL.of (same_new nq _ _ _ ha)), _, rfl, by have := fr.len; rw [hkl]; omega, by have := fr.len; rw [hkl]; omega, ?_⟩
  refine for_range (lo := 0) (n := _) (fun i σ H' => (∃ v3, σ = [some (.ref a), some (.ref b), some (.ref q), v3, none]) ∧ Same H H' ∧ StandTo H' q ks row i ∧ fitF (ks.drop i) i row = fitB ks row)
    ⟨⟨_, rfl⟩, same_new nq _, ⟨[], upd_same, Nat.le_refl _, fun j n hj => absurd hj (Nat.not_lt_zero _)⟩, rfl⟩ (fun i σ H1 hi p => ?_) (fun σ H1 p => ?_)
  · obtain ⟨⟨v3, rfl⟩, e1, hto, hf⟩ := p
    have hi' : i < ks.length := by rw [hkl] at hi; simpa using hi
    have hm : ks[i]? = some ks[i] := List.getElem?_eq_getElem hi'
    have hmN : Nm ks[i] := fr.nm _ (List.mem_of_getElem? hm)
    have hat : atI (ks.map V.str) (0 + (i : Int)) = some (.str ks[i]) := at_of (j := i) (Int.zero_add _) (by rw [List.getElem?_map, hm]; rfl)
    rw [List.drop_eq_getElem_cons hi'] at hf
    unfold fitF at hf
    refine ⟨_, rfl, b, _, rfl, .inl (SqL.of (e1 _ _ hb)), _, rfl, by rw [hrl2]; omega, by rw [hrl2]; omega, fun D nD => ?_⟩
    have nD0 := e1.free nD
    have hq0 : H1 q ≠ none := fun z => by obtain ⟨kvs, h1, _⟩ := hto; rw [h1] at z; cases z
    refine lc_range (lo := 0) (n := _) (fun j H' => H' = upd H1 D (.lst ((accF (fun p => trk (row.getD p 0) i) j).map V.int))) rfl (fun j H2 hj p => ?_) (fun H2 p => ?_)
    · subst p
      have hj' : j < row.length := by rw [hrl2] at hj; simpa using hj
      have eg : row[j] = row.getD j 0 := by rw [List.getD_eq_getElem?_getD, List.getElem?_eq_getElem hj']; rfl
      have hb1 : upd H1 D (.lst ((accF (fun p => trk (row.getD p 0) i) j).map V.int)) b = some (.lst (row.map V.int)) := by
        rw [upd_ne (ne_of_none (e1 _ _ hb) nD)]; exact e1 _ _ hb
      refine ⟨rfl, _, rfl, _, rfl, b, _, _, .int row[j], rfl, rfl, SqL.of hb1, at_of (j := j) (Int.zero_add _) (by rw [List.getElem?_map, List.getElem?_eq_getElem hj']; rfl), _, rfl, row[j], 0 + (i : Int), rfl, rfl, by omega, _, _, rfl, rfl, rfl, _, rfl, ?_⟩
      have et : (0 + (i : Int)).toNat = i := by omega
      rw [intD, et]
      refine ifb (fun c => ?_) (fun c => ?_)
      · refine ⟨_, rfl, _, upd_same, lt_line (by rw [List.length_map]; have := accF_len (fun p => trk (row.getD p 0) i) j; omega), ?_⟩
        rw [upd_upd, accF_succ, ← eg, if_pos (show trk row[j] i = true from c), List.map_append, Int.zero_add]
        rfl
      · rw [accF_succ, ← eg, if_neg (by rw [show trk row[j] i = false from c]; exact Bool.false_ne_true), List.append_nil]
    · subst p
      rw [hrl2]
      have eD := same_new nD (.lst ((accF (fun p => trk (row.getD p 0) i) row.length).map V.int))
      have e2 := e1.trans eD
      obtain ⟨kvs, hq, hkv, hto2⟩ := hto.put fr.nd hm eD upd_same
      refine ⟨_, rfl, _, rfl, _, rfl, a, _, _, _, rfl, rfl, SqL.of (e2 _ _ ha), hat, q, _, rfl, DPut.k (k := Sum.inr ks[i]) hq (lt_line (by have := fr.len; omega)), ?_⟩
      have e3 := e2.upd_free nq (.dK (putK kvs (Sum.inr ks[i]) (.ref D)))
      obtain ⟨kv2, g1, g2, g3⟩ := id hto2
      obtain ⟨l, g4, g5⟩ := g3 i ks[i] (Nat.lt_succ_self _) hm
      have gD := DGet.k (k := Sum.inr ks[i]) g1
      rw [g4] at gD
      obtain ⟨hat0, hzl⟩ := nm_at hmN
      refine ⟨_, rfl, _, rfl, a, _, _, _, rfl, rfl, SqL.of (e3 _ _ ha), hat, ks[i], 0, _, rfl, rfl, hzl, hat0, _, _, rfl, rfl, _, rfl, ?_⟩
      cases hpl : plB ks[i] with
      | true =>
        obtain ⟨w1, w2⟩ := nm_low hmN hpl
        refine ifT w1 ⟨_, _, rfl, rfl, true, congrArg V.bl w2, iteT ?_⟩
        refine ⟨_, rfl, _, rfl, _, rfl, a, _, _, _, rfl, rfl, SqL.of (e3 _ _ ha), hat, q, _, rfl, gD, l, _, rfl, .inl (SqL.of g5), rfl, _, rfl, ?_⟩
        rw [intD, List.length_map]
        refine ifb (fun c2 => ?_) (fun c2 => ?_)
        · have c3 : (pw row i).length ≠ 1 := by
            intro z
            rw [z] at c2
            exact absurd c2 (by decide)
          rw [if_pos ⟨hpl, c3⟩] at hf
          exact kF hf.symm _ e3
        · have c3 : (pw row i).length = 1 := by
            have c4 : decide ((((pw row i).length : Nat) : Int) = 1) = true := by
              cases h : decide ((((pw row i).length : Nat) : Int) = 1) with
              | true => rfl
              | false => rw [h] at c2; cases c2
            have := of_decide_eq_true c4
            omega
          rw [if_neg (fun z => z.2 c3)] at hf
          exact ⟨⟨_, rfl⟩, e3, hto2, hf⟩
      | false =>
        rw [if_neg (fun z => by rw [hpl] at z; cases z.1)] at hf
        exact ifF (nm_high hmN hpl) ⟨false, rfl, iteF ⟨⟨_, rfl⟩, e3, hto2, hf⟩⟩
  · obtain ⟨⟨v3, rfl⟩, e1, hto, hf⟩ := p
    have en : ((((ks.map V.str).length : Nat) : Int)).toNat = ks.length := by rw [hkl]; omega
    rw [en] at hto hf
    rw [List.drop_length] at hf
    exact ⟨_, rfl, kT hf.symm q H1 e1 (hto.done fr.nd)⟩
theorem cal_lbare (T : Top K mg) : C8.Cal P w K mg base 1 "_law_bare_holds" spBare [] := by
  refine cal_of T.d_Lbare_holds fun f fd F => F.ok sc_Lbare_holds (fun vs H Q E h => ?_) (fun cdv A outer s H vs Q E hr h => ?_)
  · obtain ⟨p, d, wd, a, b, ks, e, rfl, _⟩ := h
    rfl
  obtain ⟨p, d, wd, a, b, ks, e, rfl, hp, hd, ⟨hw, hs, ma, mb⟩, hpo, hlen, k⟩ := h
  have nd := sc_Lbare_holds.nd
  refine ⟨_, (pss_cons (ps_set (i := 2) nd rfl (Or.inl rfl) (pe_dget (hu_of hr) (pv 1) (pe_ix ix_tup (pv 0) pe_int (fun _ _ => rfl)) (fun _ _ => rfl)))
      (pss_cons (ps_set (i := 3) nd rfl (Or.inr rfl) (pe_dget (hu_of hr) (pv 1) (pe_ix ix_tup (pv 0) pe_int (fun _ _ => rfl)) (fun _ _ => rfl)))
      (pss_cons (ps_if (PW.pt (pw_or (pt_cmpR op_eq (pe_ix ix_tup (pv 0) pe_int (fun _ _ => rfl)) pe_str (nomark _)) (pw_or1 (pt_cmpR op_eq (pe_ix ix_tup (pv 0) pe_int (fun _ _ => rfl)) pe_str (nomark _))))) (pss_one (ps_ret (pe_callB (cr_all rfl) rfl T.b_all (by decide +kernel) (pa_cons (pe_lc (own := [("_law_place", 4)]) (g := gName 4) (tt := tYes) rfl nd (pi_list (pv 2)) (blkOk_by (N := N_Lbare_holds) (sc := defScope s_Lbare_holds) (by decide +kernel)) (fun _ _ _ _ _ => pg_name (i := 4) nd rfl (Or.inl rfl)) (fun _ _ _ _ _ => pts_nil) (fun _ _ _ _ _ => (pe_cmpR (r := rIn K false) op_in_seq (pv 4) (pv 3) (by rfl)))) pa_nil)))) pss_nil)
      (pss_cons (ps_if (pt_cmpR op_eq (pe_ix ix_tup (pv 0) pe_int (fun _ _ => rfl)) pe_str (nomark _)) (pss_one (ps_ret (pe_cmpR (op_eqD hr.units) (pv 2) (pv 3) (nomark _)))) pss_nil)
      (pss_cons (ps_if (pt_cmpR op_eq (pe_ix ix_tup (pv 0) pe_int (fun _ _ => rfl)) pe_str (nomark _)) (pss_one (ps_ret (pe_cmpR op_lt (pe_ix ix_list (pv 2) pe_int (fun _ _ => rfl)) (pe_ix ix_list (pv 3) pe_int (fun _ _ => rfl)) (nomark _)))) pss_nil)
      (pss_one (ps_ret (pe_cmpR op_eq (pe_ix ix_list (pv 2) pe_int (fun _ _ => rfl)) (pe_op op_sub (pe_ix ix_list (pv 3) pe_int (fun _ _ => rfl)) pe_int) (nomark _))))))))), ?_⟩
  obtain ⟨la, ga, ea⟩ := hd.get ma
  obtain ⟨lb, gb, eb⟩ := hd.get mb
  refine ⟨_, rfl, _, rfl, p, _, _, _, rfl, rfl, SqT.of hp, atI_nat (j := 1) rfl, d, _, rfl, ga, ?_⟩
  refine ⟨_, rfl, _, rfl, p, _, _, _, rfl, rfl, SqT.of hp, atI_nat (j := 2) rfl, d, _, rfl, gb, ?_⟩
  -- each place of the one is among the other
  have hin : ∀ (wd' : Str), wd = wd' → (wd' = "in" ∨ wd' = "within") → (∃ D0 : Addr, D0 = la) → ∀ Q', Q' = Q → tRet (tCB (rAll K) (tCons (tLc (iList K (tVar 2)) (gName 4) tYes (tOp (rIn K false) (tVar 4) (tVar 3)) [4]) tNil)) { nx := fun _ _ => False, rt := Q' }
      [some (.ref p), some (.ref d), some (.ref la), some (.ref lb), none] H := by
    rintro wd' rfl hor _ Q' rfl
    refine ⟨_, rfl, la, rfl, ⟨_, SqL.of ea⟩, fun D nD => ?_⟩
    refine lc_list (K := K) (a := la) (xs := (e a).map V.int) (fun i H' => H' = upd H D (.lst ((((e a).take i).map (fun p => decide (p ∈ e b))).map V.bl))) rfl
      (fun i H1 _ p => by subst p; exact SqL.of (by rw [upd_ne (ne_of_none ea nD)]; exact ea)) (fun i x H1 hx p => ?_) (fun H1 p => ?_)
    · subst p
      rw [List.getElem?_map] at hx
      obtain ⟨n, hn, rfl⟩ := Option.map_eq_some_iff.mp hx
      have hi := (List.getElem?_eq_some_iff.mp hn).1
      have h100 := hlen a ma
      refine ⟨rfl, _, rfl, _, rfl, lb, _, rfl, .inl (SqL.of (by rw [upd_ne (ne_of_none eb nD)]; exact eb)), rfl, flat_int _, _, upd_same, ?_, ?_⟩
      · refine lt_line ?_
        rw [List.length_map, List.length_map, List.length_take]
        omega
      · rw [upd_upd, List.take_add_one, hn, show (if false = true then !inV (V.int n) ((e b).map V.int) else inV (V.int n) ((e b).map V.int)) = decide (n ∈ e b) from inV_int n (e b)]
        simp
    · subst p
      rw [List.length_map, List.take_length]
      refine ⟨D, _, rfl, SqL.of upd_same, ?_⟩
      have hk := k (upd H D (.lst (((e a).map (fun p => decide (p ∈ e b))).map V.bl))) (same_new nD _)
      have eb2 : bareS wd (e a) (e b) = (e a).all (fun p => decide (p ∈ e b)) := by
        rcases hor with z | z
        · rw [z, bareS_in]
        · rw [z, bareS_within]
      rw [eb2] at hk
      rw [show ((e a).map (fun p => decide (p ∈ e b))).all id = (e a).all (fun p => decide (p ∈ e b)) from by rw [List.all_map]; rfl]
      exact hk
  refine ⟨_, rfl, p, _, _, _, rfl, rfl, SqT.of hp, atI_nat (j := 0) rfl, rfl, _, rfl, ?_⟩
  rcases word5 hw with rfl | rfl | rfl | rfl | rfl
  · exact ifT (by decide +kernel) (ifT rfl (hin _ rfl (.inl rfl) ⟨la, rfl⟩ Q rfl))
  · refine ifF (by decide +kernel) ⟨_, rfl, p, _, _, _, rfl, rfl, SqT.of hp, atI_nat (j := 0) rfl, rfl, _, rfl, ifF (by decide +kernel) ?_⟩
    refine ⟨_, rfl, p, _, _, _, rfl, rfl, SqT.of hp, atI_nat (j := 0) rfl, rfl, _, rfl, ifT (by decide +kernel) ?_⟩
    obtain ⟨x, hx⟩ := hpo a ma (suit_same hs).1
    obtain ⟨y, hy⟩ := hpo b mb (suit_same hs).2
    rw [hx] at ea k
    rw [hy] at eb k
    refine ⟨_, rfl, _, rfl, .list [.int x], .list [.int y], .lst (SqL.of ea) (.cons (.int x) .nil), .lst (SqL.of eb) (.cons (.int y) .nil), shaped1 x, shaped1 y, ?_⟩
    have := k H (Same.refl H)
    rw [bareS_same, ← eqv1] at this
    exact this
  · exact ifF (by decide +kernel) ⟨_, rfl, p, _, _, _, rfl, rfl, SqT.of hp, atI_nat (j := 0) rfl, rfl, _, rfl, ifT (by decide +kernel) (hin _ rfl (.inr rfl) ⟨la, rfl⟩ Q rfl)⟩
  · refine ifF (by decide +kernel) ⟨_, rfl, p, _, _, _, rfl, rfl, SqT.of hp, atI_nat (j := 0) rfl, rfl, _, rfl, ifF (by decide +kernel) ?_⟩
    refine ⟨_, rfl, p, _, _, _, rfl, rfl, SqT.of hp, atI_nat (j := 0) rfl, rfl, _, rfl, ifF (by decide +kernel) ?_⟩
    refine ⟨_, rfl, p, _, _, _, rfl, rfl, SqT.of hp, atI_nat (j := 0) rfl, rfl, _, rfl, ifT (by decide +kernel) ?_⟩
    obtain ⟨x, hx⟩ := hpo a ma (suit_ahead hs).1
    obtain ⟨y, hy⟩ := hpo b mb (suit_ahead hs).2
    rw [hx] at ea k
    rw [hy] at eb k
    refine ⟨_, rfl, la, _, _, _, rfl, rfl, SqL.of ea, atI_nat (j := 0) rfl, _, rfl, lb, _, _, _, rfl, rfl, SqL.of eb, atI_nat (j := 0) rfl, _, _, rfl, rfl, ?_⟩
    have := k H (Same.refl H)
    rw [bareS_ahead] at this
    exact this
  · refine ifF (by decide +kernel) ⟨_, rfl, p, _, _, _, rfl, rfl, SqT.of hp, atI_nat (j := 0) rfl, rfl, _, rfl, ifF (by decide +kernel) ?_⟩
    refine ⟨_, rfl, p, _, _, _, rfl, rfl, SqT.of hp, atI_nat (j := 0) rfl, rfl, _, rfl, ifF (by decide +kernel) ?_⟩
    refine ⟨_, rfl, p, _, _, _, rfl, rfl, SqT.of hp, atI_nat (j := 0) rfl, rfl, _, rfl, ifF (by decide +kernel) ?_⟩
    obtain ⟨x, hx⟩ := hpo a ma (suit_next hs).1
    obtain ⟨y, hy⟩ := hpo b mb (suit_next hs).2
    rw [hx] at ea k
    rw [hy] at eb k
    refine ⟨_, rfl, la, _, _, _, rfl, rfl, SqL.of ea, atI_nat (j := 0) rfl, _, rfl, lb, _, _, _, rfl, rfl, SqL.of eb, atI_nat (j := 0) rfl, _, _, rfl, rfl, rfl, ?_⟩
    have := k H (Same.refl H)
    rw [bareS_next] at this
    rw [intD]
    exact this
end
end Sy

set_option Elab.async false
set_option linter.all false
set_option maxRecDepth 100000
set_option maxHeartbeats 4000000
namespace Sy
open PySem L2

section
variable {P : Program} {w : World} {K : PySem.W.Frag} {mg : Str → Option Value} {base : Heap}
theorem cal_LH (T : Top K mg) : ∀ n, C8.Cal P w K mg base (n + 1) "_law_holds" (spLH n) []
  | 0 => none_ok T.d_Lholds fun vs H Q E ⟨v, s, _, _, _, _, _, _, h, _⟩ => by have := dpt_pos s; omega
  | n + 1 => by
    have G : C8.Cal P w K mg base (n + 1) "_law_holds" (spLH n) [] := cal_LH T n
    have GB : C8.Cal P w K mg base 1 "_law_bare_holds" spBare [] := cal_lbare T
    have GC : C8.Cal P w K mg base 1 "_law_choices" spCho [] := cal_cho T
    refine cal_of T.d_Lholds fun f fd F => F.ok sc_Lholds (fun vs H Q E h => ?_) (fun cdv A outer s H vs Q E hr h => ?_)
    · obtain ⟨v, sy, k, d, ks, e, rfl, _⟩ := h
      rfl
    obtain ⟨v, sy, k, d, ks, e, rfl, a, hdp, kk⟩ := h
    have nd := sc_Lholds.nd
    refine ⟨_, (pss_cons (ps_set (i := 3) nd rfl (Or.inl rfl) (pe_ix ix_tup (pv 0) pe_int (fun _ _ => rfl)))
      (pss_cons (ps_if (pt_cmpR op_eq (pv 3) pe_str (nomark _)) (pss_one (ps_ret (pe_not (pe_d G hr (pa_cons (pe_ix ix_tup (pv 0) pe_int (fun _ _ => rfl)) (pa_cons (pv 1) (pa_cons (pv 2) pa_nil))))))) pss_nil)
      (pss_cons (ps_if (pt_cmpR op_eq (pv 3) pe_str (nomark _)) (pss_one (ps_ret (pe_and (pe_d G hr (pa_cons (pe_ix ix_tup (pv 0) pe_int (fun _ _ => rfl)) (pa_cons (pv 1) (pa_cons (pv 2) pa_nil)))) (pe_one (pe_d G hr (pa_cons (pe_ix ix_tup (pv 0) pe_int (fun _ _ => rfl)) (pa_cons (pv 1) (pa_cons (pv 2) pa_nil)))))))) pss_nil)
      (pss_cons (ps_if (pt_cmpR op_eq (pv 3) pe_str (nomark _)) (pss_one (ps_ret (pe_or (pe_d G hr (pa_cons (pe_ix ix_tup (pv 0) pe_int (fun _ _ => rfl)) (pa_cons (pv 1) (pa_cons (pv 2) pa_nil)))) (pe_one (pe_d G hr (pa_cons (pe_ix ix_tup (pv 0) pe_int (fun _ _ => rfl)) (pa_cons (pv 1) (pa_cons (pv 2) pa_nil)))))))) pss_nil)
      (pss_cons (ps_if (pt_cmpR op_notIn_seq (pv 3) (pe_tup (pa_cons pe_str (pa_cons pe_str pa_nil))) (by rfl)) (pss_one (ps_ret (pe_d GB hr (pa_cons (pv 0) (pa_cons (pv 2) pa_nil))))) pss_nil)
      (pss_cons (ps_for PassesOwn.never rfl (pi_list (pe_d GC hr (pa_cons (pe_ix ix_tup (pv 0) pe_int (fun _ _ => rfl)) (pa_cons (pv 1) pa_nil)))) (pg_name (i := 4) nd rfl (Or.inl rfl)) (pss_cons (ps_set (i := 5) nd rfl (Or.inl rfl) (pe_callTy call_dictD rfl T.b_dict (by decide +kernel) (pa_cons (pv 2) pa_nil)))
      (pss_cons (ps_dput (hu_of hr) (pv 5) (pe_ix ix_tup (pv 0) pe_int (fun _ _ => rfl)) (pv 4) rfl)
      (pss_one (ps_if (pt_cmpR op_eq (pe_d G hr (pa_cons (pe_ix ix_tup (pv 0) pe_int (fun _ _ => rfl)) (pa_cons (pv 1) (pa_cons (pv 5) pa_nil)))) (pe_cmpR op_eq (pv 3) pe_str (nomark _)) (nomark _)) (pss_one (ps_ret (pe_cmpR op_eq (pv 3) pe_str (nomark _)))) pss_nil)))))
      (pss_one (ps_ret (pe_cmpR op_eq (pv 3) pe_str (nomark _)))))))))), ?_⟩
    cases sy with
    | bare wd x y =>
      obtain ⟨p, rfl, hp⟩ := a.say
      obtain ⟨n1, n2, n3, n4, n5⟩ := rw_ne wd a.let_.1
      refine ⟨_, rfl, p, _, _, _, rfl, rfl, SqT.of hp, atI_nat (j := 0) rfl, ?_⟩
      refine ⟨_, rfl, rfl, _, rfl, ifF (strF n1) ?_⟩
      refine ⟨_, rfl, rfl, _, rfl, ifF (strF n2) ?_⟩
      refine ⟨_, rfl, rfl, _, rfl, ifF (strF n3) ?_⟩
      refine ⟨_, rfl, le_line (by show 2 ≤ 16000000; decide), fun q nq => ?_⟩
      have e1 := same_new nq (.tup [V.str "some", V.str "all"])
      refine ⟨q, _, rfl, .inr (SqT.of upd_same), rfl, flat_str ["some", "all"], _, rfl, ifT ?_ ?_⟩
      · show (!inV (.str wd) ((["some", "all"] : List Str).map V.str)) = true
        rw [inV_str, decide_eq_false (by simp [n4, n5])]
        rfl
      exact ⟨_, rfl, _, rfl, p, d, wd, x, y, ks, e, rfl, e1 _ _ hp, a.std.keep e1, a.let_, a.pok, a.small, fun H' e2 => kk H' (e1.trans e2)⟩
    | neg s =>
      obtain ⟨p, u, rfl, hp, h1⟩ := a.say
      refine ⟨_, rfl, p, _, _, _, rfl, rfl, SqT.of hp, atI_nat (j := 0) rfl, ?_⟩
      refine ⟨_, rfl, rfl, _, rfl, ifT (by decide +kernel) ?_⟩
      refine ⟨_, rfl, p, _, _, _, rfl, rfl, SqT.of hp, atI_nat (j := 1) rfl, _, rfl, _, rfl, u, s, k, d, ks, e, rfl, a.sub h1 a.let_, by simp [dpt] at hdp; omega, fun H1 e1 => ⟨_, rfl, ?_⟩⟩
      exact kk H1 e1
    | con s t =>
      obtain ⟨p, u, u', rfl, hp, h1, h2⟩ := a.say
      refine ⟨_, rfl, p, _, _, _, rfl, rfl, SqT.of hp, atI_nat (j := 0) rfl, ?_⟩
      refine ⟨_, rfl, rfl, _, rfl, ifF (by decide +kernel) ?_⟩
      refine ⟨_, rfl, rfl, _, rfl, ifT (by decide +kernel) ?_⟩
      refine ⟨_, rfl, p, _, _, _, rfl, rfl, SqT.of hp, atI_nat (j := 1) rfl, _, rfl, _, rfl, u, s, k, d, ks, e, rfl, a.sub h1 a.let_.1, by simp [dpt] at hdp; omega, fun H1 e1 => ⟨_, rfl, ?_⟩⟩
      refine ifb (fun c => ?_) (fun c => ?_)
      · refine ⟨_, rfl, p, _, _, _, rfl, rfl, SqT.of (e1 _ _ hp), atI_nat (j := 2) rfl, _, rfl, _, rfl, u', t, k, d, ks, e, rfl, (a.sub h2 a.let_.2).keep e1, by simp [dpt] at hdp; omega, fun H2 e2 => ?_⟩
        have := kk H2 (e1.trans e2)
        rw [sem, c, Bool.true_and] at this
        exact this
      · have := kk H1 e1
        rw [sem, c, Bool.false_and] at this
        exact this
    | dis s t =>
      obtain ⟨p, u, u', rfl, hp, h1, h2⟩ := a.say
      refine ⟨_, rfl, p, _, _, _, rfl, rfl, SqT.of hp, atI_nat (j := 0) rfl, ?_⟩
      refine ⟨_, rfl, rfl, _, rfl, ifF (by decide +kernel) ?_⟩
      refine ⟨_, rfl, rfl, _, rfl, ifF (by decide +kernel) ?_⟩
      refine ⟨_, rfl, rfl, _, rfl, ifT (by decide +kernel) ?_⟩
      refine ⟨_, rfl, p, _, _, _, rfl, rfl, SqT.of hp, atI_nat (j := 1) rfl, _, rfl, _, rfl, u, s, k, d, ks, e, rfl, a.sub h1 a.let_.1, by simp [dpt] at hdp; omega, fun H1 e1 => ⟨_, rfl, ?_⟩⟩
      refine ifb (fun c => ?_) (fun c => ?_)
      · have := kk H1 e1
        rw [sem, c, Bool.true_or] at this
        exact this
      · refine ⟨_, rfl, p, _, _, _, rfl, rfl, SqT.of (e1 _ _ hp), atI_nat (j := 2) rfl, _, rfl, _, rfl, u', t, k, d, ks, e, rfl, (a.sub h2 a.let_.2).keep e1, by simp [dpt] at hdp; omega, fun H2 e2 => ?_⟩
        have := kk H2 (e1.trans e2)
        rw [sem, c, Bool.false_or] at this
        exact this
    | ex m s =>
      obtain ⟨p, u, rfl, hp, hs⟩ := id a.say
      obtain ⟨hm, hmk, hlt, hl⟩ := a.let_
      have isw : decide (V.str "some" = V.str "some") = true := by decide +kernel
      refine ⟨_, rfl, p, _, _, _, rfl, rfl, SqT.of hp, atI_nat (j := 0) rfl, ?_⟩
      refine ⟨_, rfl, rfl, _, rfl, ifF (by decide +kernel) ?_⟩
      refine ⟨_, rfl, rfl, _, rfl, ifF (by decide +kernel) ?_⟩
      refine ⟨_, rfl, rfl, _, rfl, ifF (by decide +kernel) ?_⟩
      refine ⟨_, rfl, le_line (by show 2 ≤ 16000000; decide), fun q nq => ?_⟩
      have e1 := same_new nq (.tup [V.str "some", V.str "all"])
      refine ⟨q, _, rfl, .inr (SqT.of upd_same), rfl, flat_str ["some", "all"], _, rfl, ifF ?_ ?_⟩
      · show (!inV (.str "some") ((["some", "all"] : List Str).map V.str)) = false
        rw [inV_str]
        decide +kernel
      refine ⟨_, rfl, p, _, _, _, rfl, rfl, SqT.of (e1 _ _ hp), atI_nat (j := 1) rfl, _, rfl, m, k, rfl, hm, a.size, fun H2 pl qs e2 hpl hq => ?_⟩
      have e12 := e1.trans e2
      have hql : (qs.map V.ref).length = (choices m k).length := by rw [List.length_map]; exact hq.len
      refine ⟨pl, rfl, ⟨_, SqL.of hpl⟩, for_list (K := K) (a := pl) (xs := qs.map V.ref) (fun i σ H' => (∃ v4 v5, σ = [some (.ref p), some (.int (k : Int)), some (.ref d), some (.str "some"), v4, v5]) ∧ Same H2 H' ∧ ∀ (j : Nat) c, j < i → (choices m k)[j]? = some c → sem s k (eput e m c) = false)
        ⟨⟨_, _, rfl⟩, Same.refl H2, fun j c hj => absurd hj (Nat.not_lt_zero _)⟩ (fun i σ H3 _ ⟨_, e3, _⟩ => SqL.of (e3 _ _ hpl)) (fun i x σ H3 hx pp => ?_) (fun σ H3 pp => ?_)⟩
      · obtain ⟨⟨v4, v5, rfl⟩, e3, hno⟩ := pp
        rw [List.getElem?_map] at hx
        obtain ⟨qi, hqi, rfl⟩ := Option.map_eq_some_iff.mp hx
        obtain ⟨c, hc, hHc⟩ := hq.get hqi
        have hcm : c ∈ choices m k := List.mem_of_getElem? hc
        have hcl : c.length ≤ 100 := by
          rw [choices_eq] at hcm
          obtain ⟨i2, _, rfl⟩ := List.mem_map.mp hcm
          exact cAt_len a.size
        have e13 := e12.trans e3
        obtain ⟨kvs, hd1, hd2, hd3⟩ := a.std
        refine ⟨_, rfl, d, kvs, rfl, .inl (e13 _ _ hd1), fun q2 nq2 => ?_⟩
        have nq0 := e13.free nq2
        have e4 : Same H (upd H3 q2 (.dK kvs)) := e13.new nq2 _
        have e34 : Same H3 (upd H3 q2 (.dK kvs)) := same_new nq2 _
        refine ⟨_, rfl, _, rfl, _, rfl, p, _, _, _, rfl, rfl, SqT.of (e4 _ _ hp), atI_nat (j := 1) rfl, q2, _, rfl, DPut.k (k := Sum.inr m) upd_same (lt_line (by have := a.few; omega)), ?_⟩
        have st := stand_put (n := m) hd2 hd3 e4 (e34 _ _ (e3 _ _ hHc)) upd_same
        have e5 : Same H (upd (upd H3 q2 (.dK kvs)) q2 (.dK (putK kvs (Sum.inr m) (.ref qi)))) := e4.upd_free nq0 _
        have e5' : Same H2 (upd (upd H3 q2 (.dK kvs)) q2 (.dK (putK kvs (Sum.inr m) (.ref qi)))) := (e3.trans e34).upd_free (e3.free nq2) _
        have at2 := At.put (hs.keep e5.tup) hl hlt a.pok a.small a.size hcm hcl st
        refine ⟨_, rfl, p, _, _, _, rfl, rfl, SqT.of (e5 _ _ hp), atI_nat (j := 2) rfl, _, rfl, _, rfl, u, s, k, q2, _, _, rfl, at2, by simp [dpt] at hdp; omega, fun H4 e6 => ?_⟩
        refine ⟨_, rfl, rfl, ?_⟩
        rw [isw]
        refine ⟨rfl, _, rfl, ?_⟩
        have hil := (List.getElem?_eq_some_iff.mp hc).1
        refine ifb (fun c2 => ?_) (fun c2 => ?_)
        · have c3 : sem s k (eput e m c) = true := by
            have := of_decide_eq_true c2
            exact V.bl.inj this
          refine ⟨_, rfl, rfl, ?_⟩
          have := kk H4 (e5.trans e6)
          rw [sem, show (choices m k).any (fun c => sem s k (eput e m c)) = true from by
            first
              | exact List.any_eq_true.mpr ⟨c, hcm, c3⟩
              | exact List.all_eq_false.mpr ⟨c, hcm, by rw [c3]; exact Bool.false_ne_true⟩] at this
          rw [isw]
          exact this
        · have c3 : sem s k (eput e m c) = false := by
            have c4 := of_decide_eq_false c2
            cases h : sem s k (eput e m c) with
            | true => first | rfl | exact absurd (congrArg V.bl h) c4
            | false => first | rfl | exact absurd (congrArg V.bl h) c4
          refine ⟨⟨_, _, rfl⟩, e5'.trans e6, fun j c' hj hc' => ?_⟩
          by_cases hji : j = i
          · subst hji
            rw [hc] at hc'
            cases Option.some.inj hc'
            exact c3
          · exact hno j c' (by omega) hc'
      · obtain ⟨⟨v4, v5, rfl⟩, e3, hno⟩ := pp
        refine ⟨_, rfl, rfl, ?_⟩
        have := kk H3 (e12.trans e3)
        have iswa : decide (V.str "some" = V.str "all") = false := by decide +kernel
        rw [iswa]
        have hall : ∀ c ∈ choices m k, sem s k (eput e m c) = false := fun c hc => by
          obtain ⟨j, hj⟩ := List.mem_iff_getElem?.mp hc
          exact hno j c (by rw [hql]; exact (List.getElem?_eq_some_iff.mp hj).1) hj
        rw [sem, show (choices m k).any (fun c => sem s k (eput e m c)) = false from by
          first
            | exact List.any_eq_false.mpr fun c hc => by rw [hall c hc]; exact Bool.false_ne_true
            | exact List.all_eq_true.mpr hall] at this
        exact this
    | al m s =>
      obtain ⟨p, u, rfl, hp, hs⟩ := id a.say
      obtain ⟨hm, hmk, hlt, hl⟩ := a.let_
      have isw : decide (V.str "all" = V.str "some") = false := by decide +kernel
      refine ⟨_, rfl, p, _, _, _, rfl, rfl, SqT.of hp, atI_nat (j := 0) rfl, ?_⟩
      refine ⟨_, rfl, rfl, _, rfl, ifF (by decide +kernel) ?_⟩
      refine ⟨_, rfl, rfl, _, rfl, ifF (by decide +kernel) ?_⟩
      refine ⟨_, rfl, rfl, _, rfl, ifF (by decide +kernel) ?_⟩
      refine ⟨_, rfl, le_line (by show 2 ≤ 16000000; decide), fun q nq => ?_⟩
      have e1 := same_new nq (.tup [V.str "some", V.str "all"])
      refine ⟨q, _, rfl, .inr (SqT.of upd_same), rfl, flat_str ["some", "all"], _, rfl, ifF ?_ ?_⟩
      · show (!inV (.str "all") ((["some", "all"] : List Str).map V.str)) = false
        rw [inV_str]
        decide +kernel
      refine ⟨_, rfl, p, _, _, _, rfl, rfl, SqT.of (e1 _ _ hp), atI_nat (j := 1) rfl, _, rfl, m, k, rfl, hm, a.size, fun H2 pl qs e2 hpl hq => ?_⟩
      have e12 := e1.trans e2
      have hql : (qs.map V.ref).length = (choices m k).length := by rw [List.length_map]; exact hq.len
      refine ⟨pl, rfl, ⟨_, SqL.of hpl⟩, for_list (K := K) (a := pl) (xs := qs.map V.ref) (fun i σ H' => (∃ v4 v5, σ = [some (.ref p), some (.int (k : Int)), some (.ref d), some (.str "all"), v4, v5]) ∧ Same H2 H' ∧ ∀ (j : Nat) c, j < i → (choices m k)[j]? = some c → sem s k (eput e m c) = true)
        ⟨⟨_, _, rfl⟩, Same.refl H2, fun j c hj => absurd hj (Nat.not_lt_zero _)⟩ (fun i σ H3 _ ⟨_, e3, _⟩ => SqL.of (e3 _ _ hpl)) (fun i x σ H3 hx pp => ?_) (fun σ H3 pp => ?_)⟩
      · obtain ⟨⟨v4, v5, rfl⟩, e3, hno⟩ := pp
        rw [List.getElem?_map] at hx
        obtain ⟨qi, hqi, rfl⟩ := Option.map_eq_some_iff.mp hx
        obtain ⟨c, hc, hHc⟩ := hq.get hqi
        have hcm : c ∈ choices m k := List.mem_of_getElem? hc
        have hcl : c.length ≤ 100 := by
          rw [choices_eq] at hcm
          obtain ⟨i2, _, rfl⟩ := List.mem_map.mp hcm
          exact cAt_len a.size
        have e13 := e12.trans e3
        obtain ⟨kvs, hd1, hd2, hd3⟩ := a.std
        refine ⟨_, rfl, d, kvs, rfl, .inl (e13 _ _ hd1), fun q2 nq2 => ?_⟩
        have nq0 := e13.free nq2
        have e4 : Same H (upd H3 q2 (.dK kvs)) := e13.new nq2 _
        have e34 : Same H3 (upd H3 q2 (.dK kvs)) := same_new nq2 _
        refine ⟨_, rfl, _, rfl, _, rfl, p, _, _, _, rfl, rfl, SqT.of (e4 _ _ hp), atI_nat (j := 1) rfl, q2, _, rfl, DPut.k (k := Sum.inr m) upd_same (lt_line (by have := a.few; omega)), ?_⟩
        have st := stand_put (n := m) hd2 hd3 e4 (e34 _ _ (e3 _ _ hHc)) upd_same
        have e5 : Same H (upd (upd H3 q2 (.dK kvs)) q2 (.dK (putK kvs (Sum.inr m) (.ref qi)))) := e4.upd_free nq0 _
        have e5' : Same H2 (upd (upd H3 q2 (.dK kvs)) q2 (.dK (putK kvs (Sum.inr m) (.ref qi)))) := (e3.trans e34).upd_free (e3.free nq2) _
        have at2 := At.put (hs.keep e5.tup) hl hlt a.pok a.small a.size hcm hcl st
        refine ⟨_, rfl, p, _, _, _, rfl, rfl, SqT.of (e5 _ _ hp), atI_nat (j := 2) rfl, _, rfl, _, rfl, u, s, k, q2, _, _, rfl, at2, by simp [dpt] at hdp; omega, fun H4 e6 => ?_⟩
        refine ⟨_, rfl, rfl, ?_⟩
        rw [isw]
        refine ⟨rfl, _, rfl, ?_⟩
        have hil := (List.getElem?_eq_some_iff.mp hc).1
        refine ifb (fun c2 => ?_) (fun c2 => ?_)
        · have c3 : sem s k (eput e m c) = false := by
            have := of_decide_eq_true c2
            exact V.bl.inj this
          refine ⟨_, rfl, rfl, ?_⟩
          have := kk H4 (e5.trans e6)
          rw [sem, show (choices m k).all (fun c => sem s k (eput e m c)) = false from by
            first
              | exact List.any_eq_true.mpr ⟨c, hcm, c3⟩
              | exact List.all_eq_false.mpr ⟨c, hcm, by rw [c3]; exact Bool.false_ne_true⟩] at this
          rw [isw]
          exact this
        · have c3 : sem s k (eput e m c) = true := by
            have c4 := of_decide_eq_false c2
            cases h : sem s k (eput e m c) with
            | true => first | rfl | exact absurd (congrArg V.bl h) c4
            | false => first | rfl | exact absurd (congrArg V.bl h) c4
          refine ⟨⟨_, _, rfl⟩, e5'.trans e6, fun j c' hj hc' => ?_⟩
          by_cases hji : j = i
          · subst hji
            rw [hc] at hc'
            cases Option.some.inj hc'
            exact c3
          · exact hno j c' (by omega) hc'
      · obtain ⟨⟨v4, v5, rfl⟩, e3, hno⟩ := pp
        refine ⟨_, rfl, rfl, ?_⟩
        have := kk H3 (e12.trans e3)
        have iswa : decide (V.str "all" = V.str "all") = true := by decide +kernel
        rw [iswa]
        have hall : ∀ c ∈ choices m k, sem s k (eput e m c) = true := fun c hc => by
          obtain ⟨j, hj⟩ := List.mem_iff_getElem?.mp hc
          exact hno j c (by rw [hql]; exact (List.getElem?_eq_some_iff.mp hj).1) hj
        rw [sem, show (choices m k).all (fun c => sem s k (eput e m c)) = true from by
          first
            | exact List.any_eq_false.mpr fun c hc => by rw [hall c hc]; exact Bool.false_ne_true
            | exact List.all_eq_true.mpr hall] at this
        exact this
theorem cal_due (T : Top K mg) : C8.Cal P w K mg base 14 "_law_due" spDue [] := by
  refine cal_of T.d_Ldue fun f fd F => F.ok sc_Ldue (fun vs H Q E h => ?_) (fun cdv A outer s H vs Q E hr h => ?_)
  · obtain ⟨v, sy, a, b, ks, row, rfl, _⟩ := h
    rfl
  obtain ⟨v, sy, a, b, ks, row, rfl, hs, hl, fr, ha, hb, hrl, hdp, kk⟩ := h
  have nd := sc_Ldue.nd
  have GS : C8.Cal P w K mg base 1 "_law_stand" spStd [] := cal_std T
  have GH : C8.Cal P w K mg base 13 "_law_holds" (spLH 12) [] := cal_LH T 12
  refine ⟨_, (pss_cons (ps_set (i := 3) nd rfl (Or.inl rfl) (pe_d GS hr (pa_cons (pv 1) (pa_cons (pv 2) pa_nil))))
      (pss_one (ps_ret (pe_and (pe_cmp (pc_notN (pv 3)) rfl) (pe_one (pe_d GH hr (pa_cons (pv 0) (pa_cons (pe_callB call_len_seq rfl T.b_len PySem.boot_len (pa_cons (pv 2) pa_nil)) (pa_cons (pv 3) pa_nil))))))))), ?_⟩
  refine ⟨_, rfl, _, rfl, a, b, ks, row, rfl, ha, fr, hb, hrl, fun hf H1 e1 => ?_, fun hf d H1 e1 st => ?_⟩
  · refine ⟨_, rfl, false, rfl, iteF ?_⟩
    have := kk H1 e1
    unfold verd at this
    rw [hf, Bool.false_and] at this
    exact this
  · refine ⟨_, rfl, true, rfl, iteT ?_⟩
    refine ⟨_, rfl, _, rfl, b, _, rfl, .inl (SqL.of (e1 _ _ hb)), _, rfl, v, sy, row.length, d, ks, env0 ks row, by rw [List.length_map]; rfl,
      ⟨hs.keep e1.tup, hl, st, env0_ok hf, env0_small ks hrl, hrl, fr.len⟩, hdp, fun H5 e5 => ?_⟩
    have := kk H5 (e1.trans e5)
    unfold verd at this
    rw [hf, Bool.true_and] at this
    exact this
end
end Sy

set_option Elab.async false
set_option linter.all false
set_option maxRecDepth 100000
set_option maxHeartbeats 4000000
namespace Sy
open PySem L2

/-! ### a word between an expression, a test and what follows -/
def tCutE (t : TE) : TE := fun σ H Q => ∃ R : V → Hp → Prop, t σ H R ∧ ∀ v H', R v H' → Q v H'
def tCutT (t : TT) : TT := fun σ H Q => ∃ R : Bool → Hp → Prop, t σ H R ∧ ∀ b H', R b H' → Q b H'
theorem pe_cut {X : Cx} {e : Expr} {t : TE} (h : PE X e t) : PE X e (tCutE t) := ⟨fun pins s σ H Q I q => by
  obtain ⟨R, h1, h2⟩ := q
  exact thn (h.run pins s σ H R I h1) fun u s' ⟨v, H', I', r, q'⟩ => ⟨v, H', I', r, h2 v H' q'⟩⟩
theorem pt_cut {X : Cx} {e : Expr} {t : TT} (h : PT X e t) : PT X e (tCutT t) := ⟨fun pins s σ H Q I q => by
  obtain ⟨R, h1, h2⟩ := q
  exact thn (h.run pins s σ H R I h1) fun b s' ⟨H', I', q'⟩ => ⟨H', I', h2 b H' q'⟩⟩

/-! ### data -/
theorem strOk_nm : ∀ z ∈ pl4 ++ st4, PyData.strOk z = true := by decide +kernel
theorem can_strs : ∀ (ks : List Str), (∀ n ∈ ks, Nm n) → PyData.canLayAll0 (ks.map PyData.str) = true
  | [], _ => by simp [PyData.canLayAll0]
  | k :: ks, h => by
    have h1 := strOk_nm k (h k List.mem_cons_self)
    have h2 := can_strs ks fun n hn => h n (List.mem_cons_of_mem _ hn)
    simp [PyData.canLayAll0, PyData.canLay0, h1, h2]
theorem can_ints : ∀ (xs : List Int), PyData.canLayAll0 (xs.map PyData.int) = true
  | [] => by simp [PyData.canLayAll0]
  | x :: xs => by simp [PyData.canLayAll0, PyData.canLay0, can_ints xs]
theorem dep_strs : ∀ (ks : List Str), PyData.depthAll (ks.map PyData.str) = 0
  | [] => by simp [PyData.depthAll]
  | k :: ks => by simp [PyData.depthAll, PyData.depth, dep_strs ks]
theorem dep_ints : ∀ (xs : List Int), PyData.depthAll (xs.map PyData.int) = 0
  | [] => by simp [PyData.depthAll]
  | x :: xs => by simp [PyData.depthAll, PyData.depth, dep_ints xs]
theorem shaped_strs {ks : List Str} (h : ∀ n ∈ ks, Nm n) : SeqAt.shaped (.list (ks.map PyData.str)) = true := by
  unfold SeqAt.shaped
  rw [show PyData.canLay0 (.list (ks.map PyData.str)) = true from by simpa [PyData.canLay0] using can_strs ks h, Bool.true_and]
  exact decide_eq_true (by rw [PyData.depth, dep_strs]; decide)
theorem shaped_ints (xs : List Int) : SeqAt.shaped (.list (xs.map PyData.int)) = true := by
  unfold SeqAt.shaped
  rw [show PyData.canLay0 (.list (xs.map PyData.int)) = true from by simpa [PyData.canLay0] using can_ints xs, Bool.true_and]
  exact decide_eq_true (by rw [PyData.depth, dep_ints]; decide)
theorem shaped_nil : SeqAt.shaped (.list []) = true := by rfl
theorem dp_strs {K : PySem.W.Frag} {H : Hp} : ∀ (ks : List Str), DpAll K H (ks.map V.str) (ks.map PyData.str)
  | [] => .nil
  | k :: ks => .cons (.str k) (dp_strs ks)
theorem dp_ints {K : PySem.W.Frag} {H : Hp} : ∀ (xs : List Int), DpAll K H (xs.map V.int) (xs.map PyData.int)
  | [] => .nil
  | k :: ks => .cons (.int k) (dp_ints ks)
theorem eqv_strs (ks : List Str) : PyData.eqv (.list (ks.map PyData.str)) (.list []) = ks.isEmpty := by
  cases ks <;> simp [PyData.eqv, PyData.eqvAll]
theorem eqv_ints (xs : List Int) : PyData.eqv (.list (xs.map PyData.int)) (.list []) = xs.isEmpty := by
  cases xs <;> simp [PyData.eqv, PyData.eqvAll]
theorem pigeon : ∀ (ls ks : List Str), ls.Nodup → (∀ n ∈ ls, n ∈ ks) → ls.length ≤ ks.length
  | [], _, _, _ => Nat.zero_le _
  | l :: ls, ks, nd, h => by
    obtain ⟨n1, n2⟩ := List.nodup_cons.mp nd
    have hl := h l List.mem_cons_self
    have ih := pigeon ls (ks.erase l) n2 fun n hn => (List.mem_erase_of_ne (fun (e : n = l) => n1 (e ▸ hn))).mpr (h n (List.mem_cons_of_mem _ hn))
    rw [List.length_erase_of_mem hl] at ih
    have := List.length_pos_of_mem hl
    rw [List.length_cons]
    omega
theorem pl4_nd : pl4.Nodup := by decide +kernel
theorem st4_nd : st4.Nodup := by decide +kernel
/-- an index by a rest -/
theorem mod_at {x : Int} {n : Nat} (h : 0 < n) : ∃ j : Nat, x % (n : Int) = (j : Int) ∧ j < n := by
  have h0 : 0 ≤ x % (n : Int) := Int.emod_nonneg _ (by omega)
  have h1 : x % (n : Int) < n := Int.emod_lt_of_pos _ (by omega)
  exact ⟨(x % (n : Int)).toNat, by omega, by omega⟩
theorem at_mod {xs : List V} {x : Int} (h : 0 < xs.length) : ∃ v, v ∈ xs ∧ atI xs (x % ((xs.length : Nat) : Int)) = some v := by
  obtain ⟨j, h1, h2⟩ := mod_at (x := x) h
  exact ⟨xs[j], List.getElem_mem h2, at_of h1 (List.getElem?_eq_getElem h2)⟩

def spNew : Sp := fun vs H Q _ => ∃ (a : Addr) (ks : List Str) (x : Int) (g : Bool), vs = [.ref a, .int x, .bl g] ∧ H a = some (.lst (ks.map V.str)) ∧ ks.length < 4 ∧ ∀ m H', Same H H' → Nm m → m ∉ ks → Q (.str m) H'
def spBr : Sp := fun vs H Q _ => ∃ (a : Addr) (ks : List Str) (x : Int), vs = [.int x, .ref a] ∧ H a = some (.lst (ks.map V.str)) ∧ FrOk ks ∧ ks ≠ [] ∧ ∀ p wd b c H', Same H H' → H' p = some (.tup [.str wd, .str b, .str c]) → Let (.bare wd b c) ks → Q (.ref p) H'
/-- a word that the names let -/
def Fit (ps ss : List Str) (wd : Str) : Prop := wd ∈ rowWords ∧ (wd ≠ "within" → ps ≠ []) ∧ (wd = "within" ∨ wd = "in" → ss ≠ [])
theorem w_three : ∀ wd ∈ (["same", "ahead", "next"] : List Str), wd ∈ rowWords ∧ ¬ (wd = "within" ∨ wd = "in") := by decide +kernel
theorem fit_let {ks : List Str} {wd b c : Str} (h : Fit (ks.filter plB) (ks.filter fun n => !plB n) wd) (hb : b ∈ (if wd = "within" then ks.filter (fun n => !plB n) else ks.filter plB))
    (hc : c ∈ (if wd = "within" ∨ wd = "in" then ks.filter (fun n => !plB n) else ks.filter plB)) : Let (.bare wd b c) ks := by
  refine ⟨h.1, ?_, ?_, ?_⟩
  · by_cases h1 : wd = "within"
    · rw [if_pos h1] at hb
      rw [if_pos (Or.inl h1)] at hc
      have hb := (List.mem_filter.mp hb).2
      have hc := (List.mem_filter.mp hc).2
      unfold suitB
      rw [if_neg (by rw [h1]; decide +kernel), if_pos h1, hb, hc]
      rfl
    · rw [if_neg h1] at hb
      have hb := (List.mem_filter.mp hb).2
      by_cases h2 : wd = "in"
      · rw [if_pos (Or.inr h2)] at hc
        have hc := (List.mem_filter.mp hc).2
        unfold suitB
        rw [if_pos h2, hb, hc]
        rfl
      · rw [if_neg (fun z => z.elim h1 h2)] at hc
        have hc := (List.mem_filter.mp hc).2
        unfold suitB
        rw [if_neg h2, if_neg h1, hb, hc]
        rfl
  · by_cases h1 : wd = "within"
    · rw [if_pos h1] at hb; exact (List.mem_filter.mp hb).1
    · rw [if_neg h1] at hb; exact (List.mem_filter.mp hb).1
  · by_cases h1 : wd = "within" ∨ wd = "in"
    · rw [if_pos h1] at hc; exact (List.mem_filter.mp hc).1
    · rw [if_neg h1] at hc; exact (List.mem_filter.mp hc).1
section
variable {P : Program} {w : World} {K : PySem.W.Frag} {mg : Str → Option Value} {base : Heap}
theorem cal_new (T : Top K mg) : C8.Cal P w K mg base 1 "_law_new" spNew [] := by
  refine cal_of T.d_Lnew fun f fd F => F.ok sc_Lnew (fun vs H Q E h => ?_) (fun cdv A outer s H vs Q E hr h => ?_)
  · obtain ⟨a, ks, x, g, rfl, _⟩ := h
    rfl
  obtain ⟨a, ks, x, g, rfl, ha, hlen, kk⟩ := h
  have nd := sc_Lnew.nd
  refine ⟨_, (pss_cons (ps_set (i := 3) nd rfl (Or.inl rfl) (pe_lst (pa_cons pe_str (pa_cons pe_str (pa_cons pe_str (pa_cons pe_str pa_nil))))))
      (C8.pss_cut (ps_if (pt_val (pv 2)) (pss_one (ps_set (i := 3) nd rfl (Or.inl rfl) (pe_lst (pa_cons pe_str (pa_cons pe_str (pa_cons pe_str (pa_cons pe_str pa_nil))))))) pss_nil)
      (pss_cons (ps_set (i := 3) nd rfl (Or.inl rfl) (pe_op op_cat (pe_slice sl_list (pv 3) (po_some (pe_op op_mod (pv 1) pe_int)) po_none) (pe_slice sl_list (pv 3) po_none (po_some (pe_op op_mod (pv 1) pe_int)))))
      (pss_one (ps_ret (pe_ix ix_list (pe_lc (own := [("_law_name", 4)]) (g := gName 4) rfl nd (pi_list (pv 3)) (blkOk_by (N := N_Lnew) (sc := defScope s_Lnew) (by decide +kernel)) (fun _ _ _ _ _ => pg_name (i := 4) nd rfl (Or.inl rfl)) (fun _ _ _ _ _ => pts_one (pt_cmpR (r := rIn K true) op_notIn_seq (pv 4) (pv 0) (by rfl))) (fun _ _ _ _ _ => (pv 4))) pe_int (fun _ _ => rfl))))))), ?_⟩
  refine ⟨le_line (by show 4 ≤ 16000000; decide), fun p0 n0 => ?_⟩
  refine ⟨fun σ H' => ∃ (p : Addr) (ls : List Str), σ = [some (.ref a), some (.int x), some (.bl g), some (.ref p), none] ∧ Same H H' ∧ H' p = some (.lst (ls.map V.str)) ∧ (ls = pl4 ∨ ls = st4), ?_, ?_⟩
  · refine ⟨_, rfl, _, rfl, ?_⟩
    refine ifb (fun c => ?_) (fun c => ?_)
    · refine ⟨le_line (by show 4 ≤ 16000000; decide), fun p1 n1 => ?_⟩
      exact ⟨p1, st4, rfl, (same_new n0 _).new n1 _, upd_same, .inr rfl⟩
    · exact ⟨p0, pl4, rfl, same_new n0 _, upd_same, .inl rfl⟩
  rintro σ H1 ⟨p, ls, rfl, e1, hp, hls⟩
  have l4 : ls.length = 4 := by rcases hls with rfl | rfl <;> rfl
  have lnd : ls.Nodup := by rcases hls with rfl | rfl; exact pl4_nd; exact st4_nd
  have lnm : ∀ n ∈ ls, Nm n := by
    rcases hls with rfl | rfl
    · exact fun n hn => List.mem_append_left _ hn
    · exact fun n hn => List.mem_append_right _ hn
  obtain ⟨j, hj, hj4⟩ := mod_at (x := x) (n := 4) (by decide)
  have hj : x % 4 = (j : Int) := hj
  refine ⟨_, rfl, _, rfl, _, _, rfl, rfl, by show (0 : Int) < 4; decide, _, rfl, p, _, rfl, SqL.of hp, fun p1 n1 => ?_⟩
  have e2 := same_new n1 (.lst (cutV (ls.map V.str) (some (x % 4)) none))
  refine ⟨_, rfl, _, rfl, _, _, rfl, rfl, by show (0 : Int) < 4; decide, _, rfl, p, _, rfl, SqL.of (e2 _ _ hp), fun p2 n2 => ?_⟩
  have e3 := same_new n2 (.lst (cutV (ls.map V.str) none (some (x % 4))))
  refine ⟨p1, p2, _, _, rfl, rfl, e3 _ _ upd_same, upd_same, ?_, fun p3 n3 => ?_⟩
  · have h1 := cutV_length (ls.map V.str) (some (x % 4)) none
    have h2 := cutV_length (ls.map V.str) none (some (x % 4))
    rw [List.length_map] at h1 h2
    exact le_line (by omega)
  have er : cutV (ls.map V.str) (some (x % 4)) none ++ cutV (ls.map V.str) none (some (x % 4)) = (ls.drop j ++ ls.take j).map V.str := by
    rw [hj, cut_from, cut_to, List.map_append, List.map_drop, List.map_take]
  rw [er]
  have hmem : ∀ n, n ∈ ls.drop j ++ ls.take j ↔ n ∈ ls := fun n => by
    rw [List.mem_append, Or.comm, ← List.mem_append, List.take_append_drop]
  have hrl : (ls.drop j ++ ls.take j).length = 4 := by
    rw [List.length_append, List.length_drop, List.length_take]; omega
  generalize hR : ls.drop j ++ ls.take j = R at hmem hrl
  have e4 := (e1.trans (e2.trans e3)).new n3 (.lst (R.map V.str))
  refine ⟨_, rfl, p3, rfl, ⟨_, SqL.of upd_same⟩, fun D nD => ?_⟩
  generalize hH3 : upd (upd (upd H1 p1 (.lst (cutV (ls.map V.str) (some (x % 4)) none))) p2 (.lst (cutV (ls.map V.str) none (some (x % 4))))) p3 (.lst (R.map V.str)) = H3 at e4 nD
  have hp3 : H3 p3 = some (.lst (R.map V.str)) := by rw [← hH3]; exact upd_same
  refine lc_list (K := K) (a := p3) (xs := R.map V.str) (fun i H' => H' = upd H3 D (.lst (((R.take i).filter (fun n => !decide (n ∈ ks))).map V.str))) rfl
    (fun i H' _ q => by subst q; exact SqL.of (by rw [upd_ne (ne_of_none hp3 nD)]; exact hp3)) (fun i y H' hy q => ?_) (fun H' q => ?_)
  · subst q
    rw [List.getElem?_map] at hy
    obtain ⟨m, hm, rfl⟩ := Option.map_eq_some_iff.mp hy
    have hi := (List.getElem?_eq_some_iff.mp hm).1
    refine ⟨rfl, _, rfl, _, rfl, a, _, rfl, .inl (SqL.of (by rw [upd_ne (ne_of_none (e4 _ _ ha) nD)]; exact e4 _ _ ha)), rfl, flat_str _, _, rfl, ?_⟩
    have ef : (if true = true then !inV (V.str m) (ks.map V.str) else inV (V.str m) (ks.map V.str)) = !decide (m ∈ ks) := congrArg (!·) (inV_str m ks)
    rw [ef]
    refine ifb (fun c => ?_) (fun c => ?_)
    · refine ⟨_, rfl, _, upd_same, ?_, ?_⟩
      · refine lt_line ?_
        rw [List.length_map]
        have := List.length_filter_le (fun n => !decide (n ∈ ks)) (R.take i)
        rw [List.length_take] at this
        omega
      · rw [upd_upd, List.take_add_one, hm, show (R.take i ++ (some m).toList).filter (fun n => !decide (n ∈ ks)) = (R.take i).filter (fun n => !decide (n ∈ ks)) ++ [m] from by
          rw [List.filter_append]; congr 1; simp [Option.toList, c], List.map_append]
        rfl
    · rw [List.take_add_one, hm, show (R.take i ++ (some m).toList).filter (fun n => !decide (n ∈ ks)) = (R.take i).filter (fun n => !decide (n ∈ ks)) from by
          rw [List.filter_append, show (some m).toList.filter (fun n => !decide (n ∈ ks)) = [] from by simp [Option.toList]; simpa using c, List.append_nil]]
  · subst q
    rw [List.length_map, List.take_length]
    obtain ⟨m0, hm0, hmk⟩ : ∃ m0 ∈ R, m0 ∉ ks := by
      refine Classical.byContradiction fun z => ?_
      have := pigeon ls ks lnd fun n hn => Classical.byContradiction fun q => z ⟨n, (hmem n).mpr hn, q⟩
      omega
    cases hfl : R.filter (fun n => !decide (n ∈ ks)) with
    | nil =>
      have : m0 ∈ R.filter (fun n => !decide (n ∈ ks)) := List.mem_filter.mpr ⟨hm0, by simp [hmk]⟩
      rw [hfl] at this
      cases this
    | cons m r =>
      have hmr : m ∈ R.filter (fun n => !decide (n ∈ ks)) := by rw [hfl]; exact List.mem_cons_self
      obtain ⟨g1, g2⟩ := List.mem_filter.mp hmr
      refine ⟨D, _, _, .str m, rfl, rfl, SqL.of upd_same, atI_nat (j := 0) rfl, ?_⟩
      exact kk m _ (e4.new nD _) (lnm m ((hmem m).mp g1)) (by simpa using g2)
end
end Sy

set_option Elab.async false
set_option linter.all false
set_option maxRecDepth 100000
set_option maxHeartbeats 4000000
namespace Sy
open PySem L2

theorem kb_lo (b : Bool) : -(2 ^ 63) ≤ (if b = true then (1 : Int) else 0) := by cases b <;> decide
theorem kb_hi (b : Bool) : (if b = true then (1 : Int) else 0) < 2 ^ 63 := by cases b <;> decide
theorem kb_nat (b : Bool) (n : Nat) (h : n ≤ 3) : n * (if b = true then (1 : Int) else 0).toNat ≤ sizeLine := by
  refine le_line ?_
  cases b
  · show n * 0 ≤ _; omega
  · show n * 1 ≤ _; omega
theorem rep_b (b : Bool) (xs : List Str) : (List.replicate (if b = true then (1 : Int) else 0).toNat (xs.map V.str)).flatten = (if b = true then xs else []).map V.str := by
  cases b
  · rfl
  · show (List.replicate 1 (xs.map V.str)).flatten = _
    simp
def three : List Str := ["same", "ahead", "next"]
def inthree : List Str := ["in", "in", "in"]
theorem fit_three {ps ss : List Str} (h : ps ≠ []) : ∀ wd ∈ three, Fit ps ss wd := fun wd hw => by
  obtain ⟨h1, h2⟩ := w_three wd hw
  exact ⟨h1, fun _ => h, fun z => absurd z h2⟩
theorem fit_within {ps ss : List Str} (h : ss ≠ []) : Fit ps ss "within" := ⟨by decide +kernel, fun z => absurd rfl z, fun _ => h⟩
theorem fit_in {ps ss : List Str} (h : ps ≠ []) (h' : ss ≠ []) : Fit ps ss "in" := ⟨by decide +kernel, fun _ => h, fun _ => h'⟩
theorem in_three : ∀ wd ∈ inthree, wd = "in" := by decide +kernel
section
variable {P : Program} {w : World} {K : PySem.W.Frag} {mg : Str → Option Value} {base : Heap}
theorem cal_br (T : Top K mg) : C8.Cal P w K mg base 1 "_law_bare" spBr [] := by
  refine cal_of T.d_Lbare fun f fd F => F.ok sc_Lbare (fun vs H Q E h => ?_) (fun cdv A outer s H vs Q E hr h => ?_)
  · obtain ⟨a, ks, x, rfl, _⟩ := h
    rfl
  obtain ⟨a, ks, x, rfl, ha, fr, hne, kk⟩ := h
  have nd := sc_Lbare.nd
  refine ⟨_, (pss_cons (ps_set (i := 2) nd rfl (Or.inr rfl) (pe_lc (own := [("_law_name", 8)]) (g := gName 8) rfl nd (pi_list (pv 1)) (blkOk_by (N := N_Lbare) (sc := defScope s_Lbare) (by decide +kernel)) (fun _ _ _ _ _ => pg_name (i := 8) nd rfl (Or.inl rfl)) (fun _ _ _ _ _ => pts_one (pt_chain op_le_str op_le_str pe_str (pe_ix ix_str (pv 8) pe_int (fun _ _ => rfl)) pe_str)) (fun _ _ _ _ _ => (pv 8))))
      (pss_cons (ps_setLc (i := 3) (own := [("_law_name", 8)]) (g := gName 8) rfl nd rfl rfl (sw_true rfl rfl rfl (by decide +kernel)) (pi_list (pv 1)) (blkOk_by (N := N_Lbare) (sc := defScope s_Lbare) (by decide +kernel)) (fun _ _ _ _ _ => pg_name (i := 8) nd rfl (Or.inl rfl)) (fun _ _ _ _ _ => pts_one (pt_cmpR (r := rIn K true) op_notIn_seq (pv 8) (pv 2) (by rfl))) (fun _ _ _ _ _ => (pv 8)))
      (C8.pss_cut (ps_set (i := 4) nd rfl (Or.inl rfl) (pe_op op_rep (pe_lst (pa_cons pe_str (pa_cons pe_str (pa_cons pe_str pa_nil)))) (pe_callTy call_int1 rfl T.b_int (by decide +kernel) (pa_cons (pe_cmpR (op_neD hr.units) (pv 2) (pe_lst pa_nil) (nomark _)) pa_nil))))
      (C8.pss_cut (ps_if (pt_cmpR (op_neD hr.units) (pv 3) (pe_lst pa_nil) (nomark _)) (pss_one (ps_set (i := 4) nd rfl (Or.inl rfl) (pe_op op_cat (pe_op op_cat (pv 4) (pe_lst (pa_cons pe_str pa_nil))) (pe_op op_rep (pe_lst (pa_cons pe_str (pa_cons pe_str (pa_cons pe_str pa_nil)))) (pe_callTy call_int1 rfl T.b_int (by decide +kernel) (pa_cons (pe_cmpR (op_neD hr.units) (pv 2) (pe_lst pa_nil) (nomark _)) pa_nil)))))) pss_nil)
      (pss_cons (ps_set (i := 5) nd rfl (Or.inl rfl) (pe_ix ix_list (pv 4) (pe_op op_mod (pv 0) (pe_callB call_len_seq rfl T.b_len PySem.boot_len (pa_cons (pv 4) pa_nil))) (fun _ _ => rfl)))
      (pss_cons (ps_set (i := 6) nd rfl (Or.inl rfl) (pv 2))
      (pss_cons (ps_set (i := 7) nd rfl (Or.inl rfl) (pv 2))
      (C8.pss_cut (ps_if (pt_cmpR op_eq (pv 5) pe_str (nomark _)) (pss_one (ps_set (i := 6) nd rfl (Or.inl rfl) (pv 3))) pss_nil)
      (C8.pss_cut (ps_if (PW.pt (pw_or (pt_cmpR op_eq (pv 5) pe_str (nomark _)) (pw_or1 (pt_cmpR op_eq (pv 5) pe_str (nomark _))))) (pss_one (ps_set (i := 7) nd rfl (Or.inl rfl) (pv 3))) pss_nil)
      (pss_one (ps_ret (pe_tup (pa_cons (pv 5) (pa_cons (pe_ix ix_list (pv 6) (pe_op op_mod (pe_op op_fdiv (pv 0) pe_int) (pe_callB call_len_seq rfl T.b_len PySem.boot_len (pa_cons (pv 6) pa_nil))) (fun _ _ => rfl)) (pa_cons (pe_ix ix_list (pv 7) (pe_op op_mod (pe_op op_fdiv (pv 0) pe_int) (pe_callB call_len_seq rfl T.b_len PySem.boot_len (pa_cons (pv 7) pa_nil))) (fun _ _ => rfl)) pa_nil))))))))))))))), ?_⟩
  -- the places
  refine ⟨_, rfl, a, rfl, ⟨_, SqL.of ha⟩, fun pp npp => ?_⟩
  refine lc_list (K := K) (a := a) (xs := ks.map V.str) (fun i H' => H' = upd H pp (.lst (((ks.take i).filter plB).map V.str))) rfl
    (fun i H' _ q => by subst q; exact SqL.of (by rw [upd_ne (ne_of_none ha npp)]; exact ha)) (fun i y H' hy q => ?_) (fun H' q => ?_)
  · subst q
    rw [List.getElem?_map] at hy
    obtain ⟨m, hm, rfl⟩ := Option.map_eq_some_iff.mp hy
    have hi := (List.getElem?_eq_some_iff.mp hm).1
    have hmN := fr.nm m (List.mem_of_getElem? hm)
    obtain ⟨hat0, hzl⟩ := nm_at hmN
    refine ⟨rfl, _, rfl, m, 0, _, rfl, rfl, hzl, hat0, _, _, rfl, rfl, _, rfl, ?_⟩
    cases hpl : plB m with
    | true =>
      obtain ⟨w1, w2⟩ := nm_low hmN hpl
      refine ifT w1 ⟨_, _, rfl, rfl, true, congrArg V.bl w2, iteT ?_⟩
      refine ⟨_, rfl, _, upd_same, ?_, ?_⟩
      · refine lt_line ?_
        rw [List.length_map]
        have := List.length_filter_le plB (ks.take i)
        rw [List.length_take] at this
        have := fr.len
        omega
      · rw [upd_upd, List.take_add_one, hm, show (ks.take i ++ (some m).toList).filter plB = (ks.take i).filter plB ++ [m] from by
          rw [List.filter_append]; congr 1; simp [Option.toList, hpl], List.map_append]
        rfl
    | false =>
      refine ifF (nm_high hmN hpl) ⟨false, rfl, iteF ?_⟩
      rw [List.take_add_one, hm, show (ks.take i ++ (some m).toList).filter plB = (ks.take i).filter plB from by
          rw [List.filter_append, show (some m).toList.filter plB = [] from by simp [Option.toList, hpl], List.append_nil]]
  subst q
  rw [List.length_map, List.take_length]
  generalize hps : ks.filter plB = ps
  have hpsN : ∀ n ∈ ps, Nm n := fun n hn => by rw [← hps] at hn; exact fr.nm n (List.mem_filter.mp hn).1
  have hpsl : ps.length ≤ 4 := by rw [← hps]; exact Nat.le_trans (List.length_filter_le _ _) fr.len
  have e1 := same_new npp (.lst (ps.map V.str))
  have hpp : upd H pp (.lst (ps.map V.str)) pp = some (.lst (ps.map V.str)) := upd_same
  generalize upd H pp (.lst (ps.map V.str)) = H1 at e1 hpp
  -- the sets
  refine ⟨_, rfl, a, rfl, ⟨_, SqL.of (e1 _ _ ha)⟩, fun sp nsp => ?_⟩
  have ha1 := e1 _ _ ha
  refine lc_list (K := K) (a := a) (xs := ks.map V.str) (fun i H' => H' = upd H1 sp (.lst (((ks.take i).filter (fun n => !plB n)).map V.str))) rfl
    (fun i H' _ q => by subst q; exact SqL.of (by rw [upd_ne (ne_of_none ha1 nsp)]; exact ha1)) (fun i y H' hy q => ?_) (fun H' q => ?_)
  · subst q
    rw [List.getElem?_map] at hy
    obtain ⟨m, hm, rfl⟩ := Option.map_eq_some_iff.mp hy
    have hi := (List.getElem?_eq_some_iff.mp hm).1
    refine ⟨rfl, _, rfl, _, rfl, pp, _, rfl, .inl (SqL.of (by rw [upd_ne (ne_of_none hpp nsp)]; exact hpp)), rfl, flat_str _, _, rfl, ?_⟩
    have ef : (if true = true then !inV (V.str m) (ps.map V.str) else inV (V.str m) (ps.map V.str)) = !plB m := by
      refine congrArg (!·) ((inV_str m ps).trans ?_)
      rw [← hps, Bool.eq_iff_iff]
      have := List.mem_of_getElem? hm
      simp [this]
    rw [ef]
    refine ifb (fun c => ?_) (fun c => ?_)
    · refine ⟨_, rfl, _, upd_same, ?_, ?_⟩
      · refine lt_line ?_
        rw [List.length_map]
        have := List.length_filter_le (fun n => !plB n) (ks.take i)
        rw [List.length_take] at this
        have := fr.len
        omega
      · rw [upd_upd, List.take_add_one, hm, show (ks.take i ++ (some m).toList).filter (fun n => !plB n) = (ks.take i).filter (fun n => !plB n) ++ [m] from by
          rw [List.filter_append]; congr 1; simp [Option.toList]; simpa using c, List.map_append]
        rfl
    · rw [List.take_add_one, hm, show (ks.take i ++ (some m).toList).filter (fun n => !plB n) = (ks.take i).filter (fun n => !plB n) from by
          rw [List.filter_append, show (some m).toList.filter (fun n => !plB n) = [] from by simp [Option.toList]; simpa using c, List.append_nil]]
  subst q
  rw [List.length_map, List.take_length]
  generalize hss : ks.filter (fun n => !plB n) = ss
  have hssN : ∀ n ∈ ss, Nm n := fun n hn => by rw [← hss] at hn; exact fr.nm n (List.mem_filter.mp hn).1
  have hssl : ss.length ≤ 4 := by rw [← hss]; exact Nat.le_trans (List.length_filter_le _ _) fr.len
  have hboth : ps = [] → ss = [] → False := fun z1 z2 => by
    cases ks with
    | nil => exact hne rfl
    | cons k r =>
      cases hk : plB k with
      | true =>
        have : k ∈ (k :: r).filter plB := List.mem_filter.mpr ⟨List.mem_cons_self, hk⟩
        rw [hps, z1] at this; cases this
      | false =>
        have : k ∈ (k :: r).filter (fun n => !plB n) := List.mem_filter.mpr ⟨List.mem_cons_self, by rw [hk]; rfl⟩
        rw [hss, z2] at this; cases this
  have e2 := e1.new nsp (.lst (ss.map V.str))
  have hpp2 : upd H1 sp (.lst (ss.map V.str)) pp = some (.lst (ps.map V.str)) := by rw [upd_ne (ne_of_none hpp nsp)]; exact hpp
  have hsp2 : upd H1 sp (.lst (ss.map V.str)) sp = some (.lst (ss.map V.str)) := upd_same
  generalize upd H1 sp (.lst (ss.map V.str)) = H2 at e2 hpp2 hsp2
  -- the words
  refine ⟨fun σ H' => ∃ q, σ = [some (.int x), some (.ref a), some (.ref pp), some (.ref sp), some (.ref q), none, none, none, none] ∧ Same H2 H' ∧ H' q = some (.lst ((if (!ps.isEmpty) = true then three else []).map V.str)), ?_, ?_⟩
  · refine ⟨le_line (by show 3 ≤ 16000000; decide), fun p1 n1 => ?_⟩
    have g1 := same_new n1 (.lst [V.str "same", V.str "ahead", V.str "next"])
    refine ⟨_, rfl, le_line (by show 0 ≤ 16000000; decide), fun p2 n2 => ?_⟩
    have g2 := same_new n2 (.lst [])
    refine ⟨.list (ps.map PyData.str), .list [], .lst (SqL.of (g2 _ _ (g1 _ _ hpp2))) (dp_strs ps), .lst (SqL.of upd_same) .nil, shaped_strs hpsN, shaped_nil, .inr ⟨_, rfl, ?_⟩⟩
    refine ⟨p1, _, _, rfl, rfl, g2 _ _ upd_same, kb_lo _, kb_hi _, kb_nat _ 3 (by decide), fun p3 n3 => ?_⟩
    refine ⟨p3, rfl, (g1.trans g2).new n3 _, ?_⟩
    rw [upd_same, show ([V.str "same", V.str "ahead", V.str "next"] : List V) = three.map V.str from rfl, rep_b, eqv_strs]
  rintro σ H3 ⟨q, rfl, e3, hq⟩
  refine ⟨fun σ H' => ∃ q ws, σ = [some (.int x), some (.ref a), some (.ref pp), some (.ref sp), some (.ref q), none, none, none, none] ∧ Same H2 H' ∧ H' q = some (.lst (ws.map V.str)) ∧ ws ≠ [] ∧ ws.length ≤ 100 ∧ ∀ wd ∈ ws, Fit ps ss wd, ?_, ?_⟩
  · refine ⟨_, rfl, le_line (by show 0 ≤ 16000000; decide), fun p1 n1 => ?_⟩
    have g1 := same_new n1 (.lst [])
    have e31 := e3.trans g1
    refine ⟨.list (ss.map PyData.str), .list [], .lst (SqL.of (e31 _ _ hsp2)) (dp_strs ss), .lst (SqL.of upd_same) .nil, shaped_strs hssN, shaped_nil, _, rfl, ?_⟩
    rw [eqv_strs]
    refine ifb (fun c => ?_) (fun c => ?_)
    · have hs0 : ss ≠ [] := by intro z; rw [z] at c; cases c
      refine ⟨_, rfl, le_line (by show 1 ≤ 16000000; decide), fun p2 n2 => ?_⟩
      have g2 := same_new n2 (.lst [V.str "within"])
      have e32 := e31.trans g2
      refine ⟨q, p2, _, _, rfl, rfl, g2 _ _ (g1 _ _ hq), upd_same, ?_, fun p3 n3 => ?_⟩
      · refine le_line ?_
        rw [List.length_map]
        show (if (!ps.isEmpty) = true then three else []).length + 1 ≤ _
        cases ps.isEmpty <;> decide
      generalize hL3 : (if (!ps.isEmpty) = true then three else []).map V.str ++ [V.str "within"] = L3
      have g3 := same_new n3 (.lst L3)
      refine ⟨le_line (by show 3 ≤ 16000000; decide), fun p4 n4 => ?_⟩
      have g4 := same_new n4 (.lst [V.str "in", V.str "in", V.str "in"])
      have e34 := (e32.trans g3).trans g4
      refine ⟨_, rfl, le_line (by show 0 ≤ 16000000; decide), fun p5 n5 => ?_⟩
      have g5 := same_new n5 (.lst [])
      refine ⟨.list (ps.map PyData.str), .list [], .lst (SqL.of (g5 _ _ (e34 _ _ hpp2))) (dp_strs ps), .lst (SqL.of upd_same) .nil, shaped_strs hpsN, shaped_nil, .inr ⟨_, rfl, ?_⟩⟩
      refine ⟨p4, _, _, rfl, rfl, g5 _ _ upd_same, kb_lo _, kb_hi _, kb_nat _ 3 (by decide), fun p6 n6 => ?_⟩
      rw [show ([V.str "in", V.str "in", V.str "in"] : List V) = inthree.map V.str from rfl, rep_b, eqv_strs]
      have g6 := same_new n6 (.lst ((if (!ps.isEmpty) = true then inthree else []).map V.str))
      have hp3 := g6 _ _ (g5 _ _ (g4 _ _ (upd_same (H := _) (a := p3) (o := .lst L3))))
      refine ⟨p3, p6, _, _, rfl, rfl, hp3, upd_same, ?_, fun p7 n7 => ?_⟩
      · refine le_line ?_
        rw [← hL3, List.length_append, List.length_map, List.length_map]
        show (if (!ps.isEmpty) = true then three else []).length + 1 + (if (!ps.isEmpty) = true then inthree else []).length ≤ _
        cases ps.isEmpty <;> decide
      refine ⟨p7, (if (!ps.isEmpty) = true then three else []) ++ (["within"] : List Str) ++ (if (!ps.isEmpty) = true then inthree else []), rfl, ((e34.trans g5).trans g6).new n7 _, ?_, ?_, ?_, ?_⟩
      · rw [upd_same, ← hL3, List.map_append, List.map_append]
        rfl
      · simp
      · cases ps.isEmpty <;> decide
      · intro wd hw
        rcases List.mem_append.mp hw with hw | hw
        · rcases List.mem_append.mp hw with hw | hw
          · cases hpe : ps.isEmpty with
            | true => rw [hpe] at hw; cases hw
            | false => rw [hpe] at hw; exact fit_three (fun z => by rw [z] at hpe; cases hpe) wd hw
          · rw [List.mem_singleton.mp hw]; exact fit_within hs0
        · cases hpe : ps.isEmpty with
          | true => rw [hpe] at hw; cases hw
          | false => rw [hpe] at hw; rw [in_three wd hw]; exact fit_in (fun z => by rw [z] at hpe; cases hpe) hs0
    · have hs0 : ss = [] := by
        cases ss with
        | nil => rfl
        | cons _ _ => cases c
      have hp0 : ps ≠ [] := fun z => hboth z hs0
      have hpe : ps.isEmpty = false := by
        cases ps with
        | nil => exact absurd rfl hp0
        | cons _ _ => rfl
      rw [hpe] at hq
      exact ⟨q, three, rfl, e31, g1 _ _ hq, by decide, by decide, fit_three hp0⟩
  rintro σ H4 ⟨q, ws, rfl, e4, hq4, hws, hwl, hfit⟩
  have hwpos : 0 < (ws.map V.str).length := by rw [List.length_map]; exact List.length_pos_iff.mpr hws
  obtain ⟨wv, hwv, hat⟩ := at_mod (x := x) hwpos
  obtain ⟨wd, hwd, rfl⟩ := List.mem_map.mp hwv
  have hf := hfit wd hwd
  refine ⟨_, rfl, _, rfl, _, rfl, q, _, rfl, .inl (SqL.of hq4), _, _, rfl, rfl, by show (0 : Int) < _; omega, q, _, _, _, rfl, rfl, SqL.of hq4, hat, ?_⟩
  refine ⟨_, rfl, _, rfl, ?_⟩
  refine ⟨fun σ H' => σ = [some (.int x), some (.ref a), some (.ref pp), some (.ref sp), some (.ref q), some (.str wd), some (.ref (if wd = "within" then sp else pp)), some (.ref pp), none] ∧ H4 = H', ?_, ?_⟩
  · refine ⟨_, rfl, rfl, _, rfl, ?_⟩
    refine ifb (fun c => ?_) (fun c => ?_)
    · refine ⟨_, rfl, ?_, rfl⟩
      rw [if_pos (of_strT c)]
      rfl
    · refine ⟨?_, rfl⟩
      rw [if_neg (of_strF c)]
      rfl
  rintro σ _ ⟨rfl, rfl⟩
  refine ⟨fun σ H' => σ = [some (.int x), some (.ref a), some (.ref pp), some (.ref sp), some (.ref q), some (.str wd), some (.ref (if wd = "within" then sp else pp)), some (.ref (if wd = "within" ∨ wd = "in" then sp else pp)), none] ∧ H4 = H', ?_, ?_⟩
  · refine ⟨_, rfl, rfl, _, rfl, ?_⟩
    refine ifb (fun c => ?_) (fun c => ?_)
    · refine iteT ⟨_, rfl, ?_, rfl⟩
      rw [if_pos (Or.inl (of_strT c))]
      rfl
    · refine ⟨_, rfl, rfl, _, rfl, ?_⟩
      refine ifb (fun c2 => ?_) (fun c2 => ?_)
      · refine ⟨_, rfl, ?_, rfl⟩
        rw [if_pos (Or.inr (of_strT c2))]
        rfl
      · refine ⟨?_, rfl⟩
        rw [if_neg (show ¬ (wd = "within" ∨ wd = "in") from fun z => z.elim (of_strF c) (of_strF c2))]
  rintro σ _ ⟨rfl, rfl⟩
  have ho1 : H4 (if wd = "within" then sp else pp) = some (.lst ((if wd = "within" then ss else ps).map V.str)) := by
    by_cases z : wd = "within"
    · rw [if_pos z, if_pos z]; exact e4 _ _ hsp2
    · rw [if_neg z, if_neg z]; exact e4 _ _ hpp2
  have ho2 : H4 (if wd = "within" ∨ wd = "in" then sp else pp) = some (.lst ((if wd = "within" ∨ wd = "in" then ss else ps).map V.str)) := by
    by_cases z : wd = "within" ∨ wd = "in"
    · rw [if_pos z, if_pos z]; exact e4 _ _ hsp2
    · rw [if_neg z, if_neg z]; exact e4 _ _ hpp2
  have hn1 : (if wd = "within" then ss else ps) ≠ [] := by
    by_cases z : wd = "within"
    · rw [if_pos z]; exact hf.2.2 (.inl z)
    · rw [if_neg z]; exact hf.2.1 z
  have hn2 : (if wd = "within" ∨ wd = "in" then ss else ps) ≠ [] := by
    by_cases z : wd = "within" ∨ wd = "in"
    · rw [if_pos z]; exact hf.2.2 z
    · rw [if_neg z]; exact hf.2.1 fun y => z (.inl y)
  have hlet : ∀ b ∈ (if wd = "within" then ss else ps), ∀ c ∈ (if wd = "within" ∨ wd = "in" then ss else ps), Let (.bare wd b c) ks := fun b hb c hc =>
    fit_let (by rw [hps, hss]; exact hf) (by rw [hps, hss]; exact hb) (by rw [hps, hss]; exact hc)
  generalize (if wd = "within" then sp else pp) = a1 at ho1 ⊢
  generalize (if wd = "within" ∨ wd = "in" then sp else pp) = a2 at ho2 ⊢
  generalize (if wd = "within" then ss else ps) = o1 at ho1 hn1 hlet
  generalize (if wd = "within" ∨ wd = "in" then ss else ps) = o2 at ho2 hn2 hlet
  have hp1 : 0 < (o1.map V.str).length := by rw [List.length_map]; exact List.length_pos_iff.mpr hn1
  have hp2 : 0 < (o2.map V.str).length := by rw [List.length_map]; exact List.length_pos_iff.mpr hn2
  obtain ⟨v1, hv1, hat1⟩ := at_mod (x := x / 7) hp1
  obtain ⟨b, hb, rfl⟩ := List.mem_map.mp hv1
  obtain ⟨v2, hv2, hat2⟩ := at_mod (x := x / 28) hp2
  obtain ⟨c, hc, rfl⟩ := List.mem_map.mp hv2
  refine ⟨_, rfl, _, rfl, _, rfl, _, _, rfl, rfl, ⟨by decide, by decide⟩, _, rfl, a1, _, rfl, .inl (SqL.of ho1), _, _, rfl, rfl, by show (0 : Int) < _; omega, a1, _, _, _, rfl, rfl, SqL.of ho1, hat1, ?_⟩
  refine ⟨_, rfl, _, rfl, _, _, rfl, rfl, ⟨by decide, by decide⟩, _, rfl, a2, _, rfl, .inl (SqL.of ho2), _, _, rfl, rfl, by show (0 : Int) < _; omega, a2, _, _, _, rfl, rfl, SqL.of ho2, hat2, ?_⟩
  refine ⟨le_line (by show 3 ≤ 16000000; decide), fun pr npr => ?_⟩
  exact kk pr wd b c _ ((e2.trans e4).new npr _) upd_same (hlet b hb c hc)
end
end Sy

set_option Elab.async false
set_option linter.all false
set_option maxRecDepth 100000
set_option maxHeartbeats 4000000
namespace Sy
open PySem L2

/-- all is kept but what stands at l -/
def But (l : Addr) (H H' : Hp) : Prop := ∀ b o, b ≠ l → H b = some o → H' b = some o
theorem But.refl (l : Addr) (H : Hp) : But l H H := fun _ _ _ h => h
theorem But.trans {l : Addr} {H H1 H2 : Hp} (a : But l H H1) (b : But l H1 H2) : But l H H2 := fun c o n h => b c o n (a c o n h)
theorem _root_.L2.Same.but {l : Addr} {H H' : Hp} (s : Same H H') : But l H H' := fun b o _ h => s b o h
theorem But.upd {l : Addr} {H H' : Hp} (a : But l H H') (o : HO) : But l H (upd H' l o) := fun b u n h => by rw [upd_ne n]; exact a b u n h
theorem But.tup {l : Addr} {H H' : Hp} {xs : List V} (a : But l H H') (h : H l = some (.lst xs)) : TSame H H' := fun p ys hp => a p _ (ne_of hp h (by intro z; cases z)) hp

def spDr (n : Nat) : Sp := fun vs H Q _ => ∃ (st l a : Addr) (xs : List Int) (ks : List Str) (deep room great : Int), vs = [.ref st, .ref a, .int deep, .int room, .int great] ∧ H st = some (.lst [.ref l]) ∧ H l = some (.lst (xs.map V.int)) ∧ a ≠ l ∧
  H a = some (.lst (ks.map V.str)) ∧ FrOk ks ∧ 0 ≤ deep ∧ (ks.length : Int) + room ≤ 4 ∧ (ks = [] → 1 ≤ room) ∧ deep.toNat + (if ks = [] then 1 else 0) < n ∧
  ∀ v s H', But l H H' → (∃ xs' : List Int, H' l = some (.lst (xs'.map V.int))) → SayAt H' s v → Let s ks → dpt s ≤ n → parts s + 1 ≤ 2 ^ n → Q v H'
theorem two_le (n : Nat) : 2 ≤ 2 ^ (n + 1) := by
  have := Nat.one_le_two_pow (n := n)
  rw [Nat.pow_succ]; omega
section
variable {P : Program} {w : World} {K : PySem.W.Frag} {mg : Str → Option Value} {base : Heap}
theorem cal_dr (T : Top K mg) : ∀ n, C8.Cal P w K mg base (n + 1) "_law_drawn" (spDr n) []
  | 0 => none_ok T.d_Ldrawn fun vs H Q E ⟨_, _, _, _, _, _, _, _, _, _, _, _, _, _, _, _, _, h, _⟩ => by omega
  | n + 1 => by
    have G : C8.Cal P w K mg base (n + 1) "_law_drawn" (spDr n) [] := cal_dr T n
    have GM : C8.Cal P w K mg base 1 "_law_mixed" spMix [] := cal_mix T
    have GN : C8.Cal P w K mg base 1 "_law_new" spNew [] := cal_new T
    have GB : C8.Cal P w K mg base 1 "_law_bare" spBr [] := cal_br T
    refine cal_of T.d_Ldrawn fun f fd F => F.ok sc_Ldrawn (fun vs H Q E h => ?_) (fun cdv A outer s H vs Q E hr h => ?_)
    · obtain ⟨st, l, a, xs, ks, deep, room, great, rfl, _⟩ := h
      rfl
    obtain ⟨st, l, a, xs, ks, deep, room, great, rfl, hst, hl, hal, ha, fr, hd0, hroom, hre, hdn, kk⟩ := h
    have nd := sc_Ldrawn.nd
    have hsl : st ≠ l := by
      intro z
      rw [z, hl] at hst
      cases xs with
      | nil => cases hst
      | cons x r => cases hst
    have p2n := Nat.pow_succ (n := 2) (m := n)
    refine ⟨_, (pss_cons (ps_set (i := 5) nd rfl (Or.inl rfl) (pe_op op_add pe_int (pe_op op_mul pe_int (pv 2))))
      (C8.pss_cut (ps_if (pt_cmpR (op_neD hr.units) (pe_ix ix_list (pv 0) pe_int (fun _ _ => rfl)) (pe_lst pa_nil) (nomark _)) (pss_one (ps_set (i := 5) nd rfl (Or.inl rfl) (pe_bm0 PySem.F.plainAttrs_list PySem.F.slot_list_pop PySem.F.type_list_pop mt_pop (pe_ix ix_list (pv 0) pe_int (fun _ _ => rfl))))) pss_nil)
      (pss_cons (ps_set (i := 6) nd rfl (Or.inl rfl) (pe_d GM hr (pa_cons (pv 5) pa_nil)))
      (pss_cons (ps_set (i := 7) nd rfl (Or.inl rfl) (pe_op op_mod (pv 6) pe_int))
      (pss_cons (ps_set (i := 6) nd rfl (Or.inl rfl) (pe_op op_fdiv (pv 6) pe_int))
      (pss_cons (ps_if (pt_cut (PW.pt (pw_or (pt_cmpR (op_eqD hr.units) (pv 1) (pe_lst pa_nil) (nomark _)) (pw_or1 (PW.pt (pw_and (pt_cmpR op_gt (pv 2) pe_int (nomark _)) (pw_and (pt_cmpR op_gt (pv 3) pe_int (nomark _)) (pw_and1 (pt_cmpR op_gt (pv 7) pe_int (nomark _)))))))))) (pss_cons (ps_set (i := 8) nd rfl (Or.inl rfl) (pe_d GN hr (pa_cons (pv 1) (pa_cons (pv 6) (pa_cons (pe_cut (pe_and (pe_cmpR op_gt (pv 4) pe_int (nomark _)) (pe_one (pe_cmpR op_eq (pe_op op_mod (pe_op op_fdiv (pv 6) pe_int) pe_int) pe_int (nomark _))))) pa_nil)))))
      (pss_cons (ps_set (i := 9) nd rfl (Or.inl rfl) (pe_d G hr (pa_cons (pv 0) (pa_cons (pe_op op_cat (pv 1) (pe_lst (pa_cons (pv 8) pa_nil))) (pa_cons (pe_callB (call_max2 rfl) rfl T.b_max (by decide +kernel) (pa_cons pe_int (pa_cons (pe_op op_sub (pv 2) pe_int) pa_nil))) (pa_cons (pe_op op_sub (pv 3) pe_int) (pa_cons (pe_op op_sub (pv 4) (pe_callTy call_int1 rfl T.b_int (by decide +kernel) (pa_cons (pe_cmpR op_lt_str (pv 8) pe_str (nomark _)) pa_nil))) pa_nil)))))))
      (pss_one (ps_ret (pe_tup (pa_cons (pe_ix ix_list (pe_lst (pa_cons pe_str (pa_cons pe_str pa_nil))) (pe_op op_mod (pe_op op_fdiv (pv 6) pe_int) pe_int) (fun _ _ => rfl)) (pa_cons (pv 8) (pa_cons (pv 9) pa_nil)))))))) pss_nil)
      (pss_cons (ps_if (pt_cut (PW.pt (pw_or (pt_cmpR op_eq (pv 2) pe_int (nomark _)) (pw_or (pt_cmpR op_lt (pv 7) pe_int (nomark _)) (pw_or1 (pt_cmpR op_gt (pv 7) pe_int (nomark _))))))) (pss_one (ps_ret (pe_d GB hr (pa_cons (pv 6) (pa_cons (pv 1) pa_nil))))) pss_nil)
      (pss_cons (ps_set (i := 10) nd rfl (Or.inl rfl) (pe_d G hr (pa_cons (pv 0) (pa_cons (pv 1) (pa_cons (pe_op op_sub (pv 2) pe_int) (pa_cons (pv 3) (pa_cons (pv 4) pa_nil)))))))
      (pss_cons (ps_if (pt_cmpR op_eq (pv 7) pe_int (nomark _)) (pss_one (ps_ret (pe_tup (pa_cons pe_str (pa_cons (pv 10) pa_nil))))) pss_nil)
      (pss_one (ps_ret (pe_tup (pa_cons (pe_ix ix_list (pe_lst (pa_cons pe_str (pa_cons pe_str pa_nil))) (pe_op op_sub (pv 7) pe_int) (fun _ _ => rfl)) (pa_cons (pv 10) (pa_cons (pe_d G hr (pa_cons (pv 0) (pa_cons (pv 1) (pa_cons (pe_op op_sub (pv 2) pe_int) (pa_cons (pv 3) (pa_cons (pv 4) pa_nil)))))) pa_nil))))))))))))))), ?_⟩
    refine ⟨_, rfl, _, _, rfl, rfl, .inl ⟨by decide, by decide⟩, _, _, rfl, rfl, ?_⟩
    refine ⟨fun σ H' => ∃ (c : Int) (xs' : List Int), σ = [some (.ref st), some (.ref a), some (.int deep), some (.int room), some (.int great), some (.int c), none, none, none, none, none] ∧ But l H H' ∧ H' l = some (.lst (xs'.map V.int)), ?_, ?_⟩
    · refine ⟨_, rfl, st, _, _, _, rfl, rfl, SqL.of hst, atI_nat (j := 0) rfl, le_line (by show 0 ≤ 16000000; decide), fun p np => ?_⟩
      have e0 := same_new np (.lst [])
      refine ⟨.list (xs.map PyData.int), .list [], .lst (SqL.of (e0 _ _ hl)) (dp_ints xs), .lst (SqL.of upd_same) .nil, shaped_ints xs, shaped_nil, _, rfl, ?_⟩
      rw [eqv_ints]
      refine ifb (fun c => ?_) (fun c => ?_)
      · have hx : 0 < xs.length := by
          cases xs with
          | nil => cases c
          | cons _ _ => exact Nat.succ_pos _
        have hy : xs[xs.length - 1]? = some xs[xs.length - 1] := List.getElem?_eq_getElem (by omega)
        refine ⟨_, rfl, st, _, _, _, rfl, rfl, SqL.of (e0 _ _ hst), atI_nat (j := 0) rfl, .inl ⟨rfl, _, SqL.of (e0 _ _ hl)⟩, l, _, .int xs[xs.length - 1], rfl, rfl, e0 _ _ hl, by rw [List.length_map, List.getElem?_map, hy]; rfl, ?_⟩
        exact ⟨_, xs.dropLast, rfl, e0.but.upd _, by rw [upd_same, List.map_dropLast]⟩
      · exact ⟨_, xs, rfl, e0.but, e0 _ _ hl⟩
    rintro σ H1 ⟨c, xs1, rfl, b1, hl1⟩
    refine ⟨_, rfl, c, rfl, fun x H2 hx e2 => ?_⟩
    refine ⟨_, rfl, _, _, rfl, rfl, by show (0 : Int) < 10; decide, ?_⟩
    refine ⟨_, rfl, _, _, rfl, rfl, ⟨by decide, by decide⟩, ?_⟩
    have b2 := b1.trans e2.but
    have hl2 := e2 _ _ hl1
    refine ⟨fun b H' => Same H2 H' ∧ (b = true → ks = [] ∨ (0 < deep ∧ 0 < room)) ∧ (b = false → ks ≠ []), ?_, ?_⟩
    · refine ⟨_, rfl, le_line (by show 0 ≤ 16000000; decide), fun p np => ?_⟩
      have e0 := same_new np (.lst [])
      refine ⟨.list (ks.map PyData.str), .list [], .lst (SqL.of (e0 _ _ (b2 _ _ hal ha))) (dp_strs ks), .lst (SqL.of upd_same) .nil, shaped_strs fr.nm, shaped_nil, _, rfl, ?_⟩
      rw [eqv_strs]
      refine ifb (fun c => ?_) (fun c => ?_)
      · exact ⟨e0, fun _ => .inl (List.isEmpty_iff.mp c), fun z => by cases z⟩
      · have hne : ks ≠ [] := fun z => by rw [z] at c; cases c
        refine ⟨_, rfl, _, _, rfl, rfl, _, rfl, ?_⟩
        refine ifb (fun c1 => ?_) (fun c1 => ⟨e0, (fun z => by cases z), fun _ => hne⟩)
        refine ⟨_, rfl, _, _, rfl, rfl, _, rfl, ?_⟩
        refine ifb (fun c2 => ?_) (fun c2 => ⟨e0, (fun z => by cases z), fun _ => hne⟩)
        refine ⟨_, rfl, _, _, rfl, rfl, _, rfl, ?_⟩
        exact ⟨e0, fun _ => .inr ⟨of_decide_eq_true c1, of_decide_eq_true c2⟩, fun _ => hne⟩
    rintro b H3 ⟨e3, hT, hF⟩
    have b3 := b2.trans e3.but
    have hl3 := e3 _ _ hl2
    have ha3 := b3 _ _ hal ha
    have hst3 := b3 _ _ hsl hst
    cases b with
    | true =>
      have hc := hT rfl
      have hlen : ks.length < 4 := by
        rcases hc with z | z
        · rw [z]; decide
        · omega
      refine iteT ⟨_, rfl, _, rfl, fun v H' => H3 = H' ∧ ∃ g, v = .bl g, ?_, ?_⟩
      · refine ⟨_, rfl, _, _, rfl, rfl, _, rfl, ?_⟩
        refine ifb (fun c1 => ?_) (fun c1 => ⟨rfl, _, rfl⟩)
        exact ⟨_, rfl, _, _, rfl, rfl, ⟨by decide, by decide⟩, _, _, rfl, rfl, by show (0 : Int) < 2; decide, rfl, rfl, _, rfl⟩
      rintro v _ ⟨rfl, g, rfl⟩
      refine ⟨a, ks, (x / 10), g, rfl, ha3, hlen, fun m H4 e4 hm hmk => ?_⟩
      have hl4 := e4 _ _ hl3
      refine ⟨_, rfl, _, rfl, _, rfl, le_line (by show 1 ≤ 16000000; decide), fun p1 n1 => ?_⟩
      have g1 := same_new n1 (.lst [V.str m])
      refine ⟨a, p1, _, _, rfl, rfl, g1 _ _ (e4 _ _ ha3), upd_same, le_line (by rw [List.length_map]; show ks.length + 1 ≤ _; omega), fun p2 n2 => ?_⟩
      have g2 := same_new n2 (.lst (ks.map V.str ++ [V.str m]))
      have e42 := (e4.trans g1).trans g2
      refine ⟨_, rfl, _, _, rfl, rfl, _, _, rfl, ?_⟩
      refine ⟨_, rfl, _, _, rfl, rfl, ?_⟩
      refine ⟨_, rfl, _, rfl, _, _, rfl, rfl, .inr ⟨_, rfl, _, _, rfl, rfl, ?_⟩⟩
      refine ⟨st, l, p2, xs1, ks ++ [m], _, _, _, rfl, e42 _ _ hst3, e42 _ _ hl3, (ne_of_none (g1 _ _ hl4) n2).symm, ?_, fr.more hm hmk hlen, ?_, ?_, fun z => absurd z (by simp), ?_, fun v1 s1 H6 b6 h6 hs1 hlet1 hd1 hp1 => ?_⟩
      · rw [upd_same, List.map_append]
        rfl
      · show (0 : Int) ≤ if deep - 1 > 0 then deep - 1 else 0
        split <;> omega
      · rw [List.length_append, List.length_singleton]
        omega
      · show (if deep - 1 > 0 then deep - 1 else 0).toNat + (if ks ++ [m] = [] then 1 else 0) < n
        rw [if_neg (show ¬ ks ++ [m] = [] by simp)]
        rcases hc with z | z
        · rw [if_pos z] at hdn
          split <;> omega
        · split <;> omega
      have b36 : But l H H6 := b3.trans (e42.but.trans b6)
      obtain ⟨xs6, hl6⟩ := h6
      refine ⟨le_line (by show 2 ≤ 16000000; decide), fun p3 n3 => ?_⟩
      have g3 := same_new n3 (.lst [V.str "some", V.str "all"])
      obtain ⟨wv, hwv, hat⟩ := at_mod (xs := [V.str "some", V.str "all"]) (x := (x / 10) / 8) (by show 0 < 2; decide)
      refine ⟨_, rfl, _, _, rfl, rfl, ⟨by decide, by decide⟩, _, _, rfl, rfl, by show (0 : Int) < 2; decide, p3, _, _, wv, rfl, rfl, SqL.of upd_same, hat, ?_⟩
      refine ⟨_, rfl, _, rfl, le_line (by show 3 ≤ 16000000; decide), fun p4 n4 => ?_⟩
      have g4 := same_new n4 (.tup [wv, V.str m, v1])
      have g34 := g3.trans g4
      have b7 := b36.trans g34.but
      rcases List.mem_cons.mp hwv with rfl | hwv
      · exact kk (.ref p4) (.ex m s1) _ b7 ⟨xs6, g34 _ _ hl6⟩ ⟨p4, v1, rfl, upd_same, hs1.keep g34.tup⟩ ⟨hm, hmk, hlen, hlet1⟩ (by simp [dpt]; omega) (by simp [parts]; omega)
      · obtain rfl := List.mem_singleton.mp hwv
        exact kk (.ref p4) (.al m s1) _ b7 ⟨xs6, g34 _ _ hl6⟩ ⟨p4, v1, rfl, upd_same, hs1.keep g34.tup⟩ ⟨hm, hmk, hlen, hlet1⟩ (by simp [dpt]; omega) (by simp [parts]; omega)
    | false =>
      have hne := hF rfl
      rw [if_neg hne] at hdn
      refine iteF ?_
      refine ⟨fun b H' => H3 = H' ∧ (b = false → deep ≠ 0 ∧ 2 ≤ (x % 10) ∧ (x % 10) ≤ 4), ?_, ?_⟩
      · refine ⟨_, rfl, rfl, _, rfl, ?_⟩
        rw [intD]
        refine ifb (fun c1 => ⟨rfl, fun z => by cases z⟩) (fun c1 => ?_)
        refine ⟨_, rfl, _, _, rfl, rfl, _, rfl, ?_⟩
        refine ifb (fun c2 => ⟨rfl, fun z => by cases z⟩) (fun c2 => ?_)
        refine ⟨_, rfl, _, _, rfl, rfl, _, rfl, rfl, fun c3 => ?_⟩
        have d1 := of_decide_eq_false c1
        have d2 := of_decide_eq_false c2
        have d3 := of_decide_eq_false c3
        exact ⟨d1, by omega, by omega⟩
      rintro b _ ⟨rfl, hB⟩
      cases b with
      | true =>
        refine iteT ⟨_, rfl, _, rfl, a, ks, (x / 10), rfl, ha3, fr, hne, fun p wd b c H4 e4 hp hlet => ?_⟩
        exact kk (.ref p) (.bare wd b c) H4 (b3.trans e4.but) ⟨xs1, e4 _ _ hl3⟩ ⟨p, rfl, hp⟩ hlet (by simp [dpt]) (by simp [parts]; exact two_le n)
      | false =>
        obtain ⟨d0, w2, w4⟩ := hB rfl
        refine iteF ?_
        refine ⟨_, rfl, _, rfl, _, rfl, _, _, rfl, rfl, _, rfl, _, rfl, st, l, a, xs1, ks, deep - 1, room, great, rfl, hst3, hl3, hal, ha3, fr, by omega, hroom, hre, by rw [if_neg hne]; omega, fun v1 s1 H4 b4 h4 hs1 hlet1 hd1 hp1 => ?_⟩
        obtain ⟨xs4, hl4⟩ := h4
        have b34 := b3.trans b4
        refine ⟨_, rfl, rfl, _, rfl, ?_⟩
        rw [intD]
        refine ifb (fun c1 => ?_) (fun c1 => ?_)
        · refine ⟨_, rfl, le_line (by show 2 ≤ 16000000; decide), fun p np => ?_⟩
          have g1 := same_new np (.tup [V.str "not", v1])
          exact kk (.ref p) (.neg s1) _ (b34.trans g1.but) ⟨xs4, g1 _ _ hl4⟩ ⟨p, v1, rfl, upd_same, hs1.keep g1.tup⟩ hlet1 (by simp [dpt]; omega) (by simp [parts]; omega)
        · have d1 := of_decide_eq_false c1
          obtain ⟨wd, hwd, hat⟩ : ∃ wd : Str, (wd = "and" ∨ wd = "or") ∧ atI [V.str "and", V.str "or"] ((x % 10) - 3) = some (.str wd) := by
            have : (x % 10) = 3 ∨ (x % 10) = 4 := by omega
            rcases this with z | z
            · exact ⟨"and", .inl rfl, by rw [z]; exact atI_nat (j := 0) rfl⟩
            · exact ⟨"or", .inr rfl, by rw [z]; exact atI_nat (j := 1) rfl⟩
          refine ⟨le_line (by show 2 ≤ 16000000; decide), fun p1 n1 => ?_⟩
          have g1 := same_new n1 (.lst [V.str "and", V.str "or"])
          refine ⟨_, rfl, _, _, rfl, rfl, p1, _, _, _, rfl, rfl, SqL.of upd_same, hat, _, rfl, ?_⟩
          refine ⟨_, rfl, _, rfl, _, rfl, _, _, rfl, rfl, _, rfl, _, rfl, st, l, a, xs4, ks, deep - 1, room, great, rfl, g1 _ _ (b4 _ _ hsl hst3), g1 _ _ hl4, hal, g1 _ _ (b4 _ _ hal ha3), fr, by omega, hroom, hre, by rw [if_neg hne]; omega, fun v2 s2 H6 b6 h6 hs2 hlet2 hd2 hp2 => ?_⟩
          obtain ⟨xs6, hl6⟩ := h6
          have b36 := b34.trans (g1.but.trans b6)
          have hs1' : SayAt H6 s1 v1 := (hs1.keep g1.tup).keep (b6.tup (g1 _ _ hl4))
          refine ⟨le_line (by show 3 ≤ 16000000; decide), fun p2 n2 => ?_⟩
          have g2 := same_new n2 (.tup [V.str wd, v1, v2])
          rcases hwd with rfl | rfl
          · exact kk (.ref p2) (.con s1 s2) _ (b36.trans g2.but) ⟨xs6, g2 _ _ hl6⟩ ⟨p2, v1, v2, rfl, upd_same, hs1'.keep g2.tup, hs2.keep g2.tup⟩ ⟨hlet1, hlet2⟩ (by simp [dpt]; omega) (by simp [parts]; omega)
          · exact kk (.ref p2) (.dis s1 s2) _ (b36.trans g2.but) ⟨xs6, g2 _ _ hl6⟩ ⟨p2, v1, v2, rfl, upd_same, hs1'.keep g2.tup, hs2.keep g2.tup⟩ ⟨hlet1, hlet2⟩ (by simp [dpt]; omega) (by simp [parts]; omega)
end
end Sy

set_option Elab.async false
set_option linter.all false
set_option maxRecDepth 100000
set_option maxHeartbeats 4000000
namespace Sy
open PySem L2

theorem InR.app {wd : Nat} {row : List Int} {x : Int} (h : InR wd row) (h0 : 0 ≤ x) (h1 : x < 2 ^ wd) : InR wd (row ++ [x]) := fun y hy => by
  rcases List.mem_append.mp hy with z | z
  · exact h y z
  · rw [List.mem_singleton.mp z]; exact ⟨h0, h1⟩
theorem InR.set {wd : Nat} {row : List Int} {x : Int} {j : Nat} (h : InR wd row) (h0 : 0 ≤ x) (h1 : x < 2 ^ wd) : InR wd (row.set j x) := fun y hy => by
  rcases List.mem_or_eq_of_mem_set hy with z | z
  · exact h y z
  · rw [z]; exact ⟨h0, h1⟩
theorem two_int (wd : Nat) : (2 : Int) ^ wd = ((2 ^ wd : Nat) : Int) := by rw [Int.natCast_pow]; rfl
theorem shl_nat (wd : Nat) : (1 : Int) * 2 ^ ((wd : Int)).toNat = ((2 ^ wd : Nat) : Int) := by rw [Int.one_mul, Int.toNat_natCast, two_int]
theorem or_in {x : Int} {wd k : Nat} (h0 : 0 ≤ x) (h1 : x < 2 ^ wd) (hk : k < wd) : 0 ≤ Builtin.bitOr x ((2 ^ k : Nat) : Int) ∧ Builtin.bitOr x ((2 ^ k : Nat) : Int) < 2 ^ wd := by
  rw [Bits.bitOr_pp h0 (Int.natCast_nonneg _), Int.toNat_natCast, two_int] at *
  have h2 : x.toNat < 2 ^ wd := by omega
  have h3 : 2 ^ k < 2 ^ wd := Nat.pow_lt_pow_right (by decide) hk
  have := Nat.or_lt_two_pow h2 h3
  omega
theorem xor_in {x : Int} {wd k : Nat} (h0 : 0 ≤ x) (h1 : x < 2 ^ wd) (hk : k < wd) : 0 ≤ Builtin.bitXor x ((2 ^ k : Nat) : Int) ∧ Builtin.bitXor x ((2 ^ k : Nat) : Int) < 2 ^ wd := by
  rw [Bits.bitXor_pp h0 (Int.natCast_nonneg _), Int.toNat_natCast, two_int] at *
  have h2 : x.toNat < 2 ^ wd := by omega
  have h3 : 2 ^ k < 2 ^ wd := Nat.pow_lt_pow_right (by decide) hk
  have := Nat.xor_lt_two_pow h2 h3
  omega
theorem ixN_nat {n i : Nat} (h : i < n) : ixN n ((i : Nat) : Int) = some i := by
  unfold ixN
  rw [if_pos (Int.natCast_nonneg _), if_pos (by omega), Int.toNat_natCast]
/-- rows of a width, of at most B letters -/
def RowsOk (wd B : Nat) (cs : List (List Int)) : Prop := ∀ c ∈ cs, InR wd c ∧ c.length ≤ B
theorem RowsOk.app {wd B : Nat} {cs ds : List (List Int)} (h : RowsOk wd B cs) (h' : RowsOk wd B ds) : RowsOk wd B (cs ++ ds) := fun c hc => by
  rcases List.mem_append.mp hc with z | z
  · exact h c z
  · exact h' c z
theorem LLs.notin {H : Hp} {p : Addr} (n : H p = none) : ∀ {qs : List Addr} {cs : List (List Int)}, LLs H qs cs → p ∉ qs
  | [], [], _, z => by cases z
  | q :: qs, c :: cs, h, z => by
    rcases List.mem_cons.mp z with e | z
    · rw [e, h.1] at n; cases n
    · exact LLs.notin n h.2 z

def spLong : Sp := fun vs H Q _ => ∃ (p : Addr) (wd B : Nat) (qs : List Addr) (cs : List (List Int)), vs = [.ref p, .int (wd : Int)] ∧ H p = some (.lst (qs.map V.ref)) ∧ LLs H qs cs ∧ wd ≤ 2 ∧ cs.length ≤ 100 ∧ RowsOk wd B cs ∧ B ≤ 100 ∧
  ∀ p' qs' cs' H', Same H H' → H p' = none → H' p' = some (.lst (qs'.map V.ref)) → LLs H' qs' cs' → cs'.length ≤ 4 * cs.length → RowsOk wd (B + 1) cs' → Q (.ref p') H'
def spRows : Sp := fun vs H Q _ => ∃ (wd : Nat), vs = [.int (wd : Int), .int 2] ∧ wd ≤ 2 ∧
  ∀ p qs cs H', Same H H' → H p = none → H' p = some (.lst (qs.map V.ref)) → LLs H' qs cs → p ∉ qs → cs.length ≤ 100 → RowsOk wd 2 cs → Q (.ref p) H'
def spRow : Sp := fun vs H Q _ => ∃ (c a : Addr) (cs : List Int) (ks : List Str), vs = [.ref c, .ref a] ∧ H c = some (.lst (cs.map V.int)) ∧ H a = some (.lst (ks.map V.str)) ∧ FrOk ks ∧ ks.length ≤ 2 ∧ cs.length ≤ 20 ∧
  ∀ p row H', Same H H' → H p = none → H' p = some (.lst (row.map V.int)) → InR ks.length row → row.length = cs.length → Q (.ref p) H'
section
variable {P : Program} {w : World} {K : PySem.W.Frag} {mg : Str → Option Value} {base : Heap}
theorem cal_long (T : Top K mg) : C8.Cal P w K mg base 1 "_law_longer" spLong [] := by
  refine cal_of T.d_Llonger fun f fd F => F.ok sc_Llonger (fun vs H Q E h => ?_) (fun cdv A outer s H vs Q E hr h => ?_)
  · obtain ⟨p, wd, B, qs, cs, rfl, _⟩ := h
    rfl
  obtain ⟨p, wd, B, qs, cs, rfl, hp, hq, hwd, hcl, hrow, hB, kk⟩ := h
  have nd := sc_Llonger.nd
  refine ⟨_, (pss_cons (ps_set (i := 2) nd rfl (Or.inl rfl) (pe_lst pa_nil))
      (pss_cons (ps_for PassesOwn.never rfl (pi_list (pv 0)) (pg_name (i := 3) nd rfl (Or.inr rfl)) (pss_one (ps_set (i := 2) nd rfl (Or.inl rfl) (pe_op op_cat (pv 2) (pe_lc (own := [("_law_letter", 4)]) (g := gName 4) (tt := tYes) rfl nd (pi_range1 rfl T.b_range (pa_cons (pe_op op_shl pe_int (pv 1)) pa_nil)) (blkOk_by (N := N_Llonger) (sc := defScope s_Llonger) (by decide +kernel)) (fun _ _ _ _ _ => pg_name (i := 4) nd rfl (Or.inl rfl)) (fun _ _ _ _ _ => pts_nil) (fun _ _ _ _ _ => (pe_op op_cat (pv 3) (pe_lst (pa_cons (pv 4) pa_nil)))))))))
      (pss_one (ps_ret (pv 2))))), ?_⟩
  have hp2 : 2 ^ wd ≤ 4 := by
    have := Nat.pow_le_pow_right (n := 2) (by decide) hwd
    exact this
  have hql := hq.len
  refine ⟨le_line (by show 0 ≤ 16000000; decide), fun f0 nf0 => ?_⟩
  have e0 := same_new nf0 (.lst [])
  refine ⟨_, rfl, p, rfl, ⟨_, SqL.of (e0 _ _ hp)⟩, for_list (K := K) (a := p) (xs := qs.map V.ref) (fun i σ H' => ∃ (fa : Addr) (gs : List Addr) (ds : List (List Int)) (v3 : Option V), σ = [some (.ref p), some (.int (wd : Int)), some (.ref fa), v3, none] ∧ Same H H' ∧ H fa = none ∧ H' fa = some (.lst (gs.map V.ref)) ∧ LLs H' gs ds ∧ ds.length ≤ 4 * i ∧ RowsOk wd (B + 1) ds)
    ⟨f0, [], [], none, rfl, e0, nf0, upd_same, trivial, Nat.zero_le _, fun c hc => by cases hc⟩ (fun i σ H' _ ⟨_, _, _, _, _, e, _⟩ => SqL.of (e _ _ hp)) (fun i y σ H1 hy pp => ?_) (fun σ H1 pp => ?_)⟩
  · obtain ⟨fa, gs, ds, v3, rfl, e1, nfa, hfa, hg, hdl, hdr⟩ := pp
    rw [List.getElem?_map] at hy
    obtain ⟨q, hqi, rfl⟩ := Option.map_eq_some_iff.mp hy
    obtain ⟨c, hc, hHq⟩ := hq.get hqi
    have hi := (List.getElem?_eq_some_iff.mp hqi).1
    obtain ⟨hcr, hcl2⟩ := hrow c (List.mem_of_getElem? hc)
    have hgl := hg.len
    refine ⟨_, rfl, _, rfl, _, _, rfl, rfl, ⟨Int.natCast_nonneg _, by omega, by decide⟩, _, rfl, by rw [shl_nat]; exact Int.le_trans (by decide) (Int.natCast_nonneg _), by rw [shl_nat]; exact Int.lt_of_le_of_lt (Int.ofNat_le.mpr hp2) (by decide), fun D nD => ?_⟩
    rw [shl_nat, Int.toNat_natCast]
    refine lc_range (lo := 0) (n := _) (fun j H' => Col H1 D H' ((List.range j).map (fun x => c ++ [((x : Nat) : Int)]))) (Col.start (Same.refl H1) nD) (fun j H2 hj p => ?_) (fun H2 p => ?_)
    · refine ⟨rfl, _, rfl, _, rfl, le_line (by show 1 ≤ 16000000; decide), fun p1 np1 => ?_⟩
      have s1 := same_new np1 (.lst [V.int (0 + ((j : Nat) : Int))])
      refine ⟨q, p1, _, _, rfl, rfl, s1 _ _ (p.1 _ _ (e1 _ _ hHq)), upd_same, le_line (by rw [List.length_map]; show c.length + 1 ≤ _; omega), fun p2 np2 => ?_⟩
      obtain ⟨acc, h1, h2, h3⟩ := p.step (c := c ++ [((j : Nat) : Int)]) nD s1 np2
      have ee : c.map V.int ++ [V.int (0 + ((j : Nat) : Int))] = (c ++ [((j : Nat) : Int)]).map V.int := by rw [List.map_append, Int.zero_add]; rfl
      rw [ee]
      refine ⟨acc, h1, lt_line (by rw [h2, List.length_map, List.length_range]; omega), ?_⟩
      rw [List.range_succ, show (List.range j ++ [j]).map (fun x => c ++ [((x : Nat) : Int)]) = (List.range j).map (fun x => c ++ [((x : Nat) : Int)]) ++ [c ++ [((j : Nat) : Int)]] from by rw [List.map_append]; rfl]
      exact h3
    · obtain ⟨e2, rs, hD, hr2, _⟩ := p
      have hrl := hr2.len
      rw [List.length_map, List.length_range] at hrl
      refine ⟨fa, D, _, _, rfl, rfl, e2 _ _ hfa, hD, le_line (by rw [List.length_map, List.length_map]; omega), fun p3 np3 => ?_⟩
      have e3 := same_new np3 (.lst (gs.map V.ref ++ rs.map V.ref))
      refine ⟨p3, gs ++ rs, _, _, rfl, (e1.trans e2).trans e3, (e1.trans e2).free np3, by rw [upd_same, List.map_append], (LLs.app (hg.keep e2) hr2).keep e3, ?_, hdr.app ?_⟩
      · rw [List.length_append, List.length_map, List.length_range]
        omega
      · intro c' hc'
        obtain ⟨x, hx, rfl⟩ := List.mem_map.mp hc'
        have hx := List.mem_range.mp hx
        refine ⟨hcr.app (Int.natCast_nonneg _) (by rw [two_int]; omega), ?_⟩
        rw [List.length_append, List.length_singleton]
        omega
  · obtain ⟨fa, gs, ds, v3, rfl, e1, nfa, hfa, hg, hdl, hdr⟩ := pp
    rw [List.length_map, hql] at hdl
    exact ⟨_, rfl, kk fa gs ds H1 e1 nfa hfa hg hdl hdr⟩
theorem cal_rows (T : Top K mg) : C8.Cal P w K mg base 2 "_law_rows" spRows [] := by
  refine cal_of T.d_Lrows fun f fd F => F.ok sc_Lrows (fun vs H Q E h => ?_) (fun cdv A outer s H vs Q E hr h => ?_)
  · obtain ⟨wd, rfl, _⟩ := h
    rfl
  obtain ⟨wd, rfl, hwd, kk⟩ := h
  have nd := sc_Lrows.nd
  have GL : C8.Cal P w K mg base 1 "_law_longer" spLong [] := cal_long T
  refine ⟨_, (pss_cons (ps_set (i := 2) nd rfl (Or.inl rfl) (pe_lst (pa_cons (pe_lst pa_nil) pa_nil)))
      (pss_cons (ps_set (i := 3) nd rfl (Or.inl rfl) (pe_lst (pa_cons (pe_lst pa_nil) pa_nil)))
      (pss_cons (ps_for PassesOwn.never rfl (pi_range1 rfl T.b_range (pa_cons (pv 1) pa_nil)) (pg_name (i := 4) nd rfl (Or.inl rfl)) (pss_cons (ps_set (i := 3) nd rfl (Or.inl rfl) (pe_d GL hr (pa_cons (pv 3) (pa_cons (pv 0) pa_nil))))
      (pss_one (ps_set (i := 2) nd rfl (Or.inl rfl) (pe_op op_cat (pv 2) (pv 3))))))
      (pss_one (ps_ret (pv 2)))))), ?_⟩
  refine ⟨le_line (by show 0 ≤ 16000000; decide), fun p0 n0 => ⟨le_line (by show 1 ≤ 16000000; decide), fun p1 n1 => ?_⟩⟩
  refine ⟨le_line (by show 0 ≤ 16000000; decide), fun p2 n2 => ⟨le_line (by show 1 ≤ 16000000; decide), fun p3 n3 => ?_⟩⟩
  have g0 := same_new n0 (.lst [])
  have g1 := same_new n1 (.lst [V.ref p0])
  have g2 := same_new n2 (.lst [])
  have g3 := same_new n3 (.lst [V.ref p2])
  have hok : RowsOk wd 0 [[]] := fun c hc => by
    rw [List.mem_singleton.mp hc]
    exact ⟨(fun x hx => by cases hx), Nat.le_refl _⟩
  refine ⟨_, rfl, _, rfl, by decide, by decide, for_range (lo := 0) (n := _) (fun i σ H' => ∃ (rp lp : Addr) (qs rs : List Addr) (cs ds : List (List Int)) (v4 : Option V), σ = [some (.int (wd : Int)), some (.int 2), some (.ref rp), some (.ref lp), v4] ∧ Same H H' ∧ H rp = none ∧
      H' rp = some (.lst (qs.map V.ref)) ∧ LLs H' qs cs ∧ rp ∉ qs ∧ H' lp = some (.lst (rs.map V.ref)) ∧ LLs H' rs ds ∧ ds.length ≤ 4 ^ i ∧ cs.length ≤ 1 + 16 * i ∧ RowsOk wd i cs ∧ RowsOk wd i ds)
    ⟨p1, p3, [p0], [p2], [[]], [[]], none, rfl, g0.trans (g1.trans (g2.trans g3)), g0.free n1, (g2.trans g3) _ _ upd_same, ⟨(g1.trans (g2.trans g3)) _ _ upd_same, trivial⟩, ?_, upd_same, ⟨g3 _ _ upd_same, trivial⟩, Nat.le_refl _, Nat.le_refl _, hok, hok⟩ (fun i σ H1 hi pp => ?_) (fun σ H1 pp => ?_)⟩
  · intro z
    have := List.mem_singleton.mp z
    rw [this, upd_same] at n1
    cases n1
  · obtain ⟨rp, lp, qs, rs, cs, ds, v4, rfl, e1, nrp, hrp, hq, _, hlp, hr1, hdl, hcl, hco, hdo⟩ := pp
    have hi2 : i < 2 := hi
    have h4 : 4 ^ i ≤ 4 := by
      have : i = 0 ∨ i = 1 := by omega
      rcases this with rfl | rfl <;> decide
    have hql := hq.len
    refine ⟨_, rfl, _, rfl, lp, wd, i, rs, ds, rfl, hlp, hr1, hwd, by omega, hdo, by omega, fun p' qs' cs' H2 e2 np' hp' hq' hl' ho' => ?_⟩
    have hql' := hq'.len
    refine ⟨_, rfl, _, rfl, rp, p', _, _, rfl, rfl, e2 _ _ hrp, hp', le_line (by rw [List.length_map, List.length_map]; omega), fun p5 n5 => ?_⟩
    have e3 := same_new n5 (.lst (qs.map V.ref ++ qs'.map V.ref))
    have hap := LLs.app (hq.keep e2) hq'
    refine ⟨p5, p', qs ++ qs', qs', cs ++ cs', cs', _, rfl, (e1.trans e2).trans e3, (e1.trans e2).free n5, by rw [upd_same, List.map_append], hap.keep e3, LLs.notin n5 hap, e3 _ _ hp', hq'.keep e3, ?_, ?_, ?_, ho'⟩
    · rw [Nat.pow_succ]; omega
    · rw [List.length_append]; omega
    · exact RowsOk.app (fun c hc => ⟨(hco c hc).1, by have := (hco c hc).2; omega⟩) ho'
  · obtain ⟨rp, lp, qs, rs, cs, ds, v4, rfl, e1, nrp, hrp, hq, hni, _, _, _, hcl, hco, _⟩ := pp
    exact ⟨_, rfl, kk rp qs cs H1 e1 nrp hrp hq hni (Nat.le_trans hcl (by decide)) hco⟩
theorem cal_row (T : Top K mg) : C8.Cal P w K mg base 2 "_law_row" spRow [] := by
  refine cal_of T.d_Lrow fun f fd F => F.ok sc_Lrow (fun vs H Q E h => ?_) (fun cdv A outer s H vs Q E hr h => ?_)
  · obtain ⟨c, a, cs, ks, rfl, _⟩ := h
    rfl
  obtain ⟨c, a, cs, ks, rfl, hc, ha, fr, hk2, hcl, kk⟩ := h
  have nd := sc_Lrow.nd
  have GM : C8.Cal P w K mg base 1 "_law_mixed" spMix [] := cal_mix T
  refine ⟨_, (pss_cons (ps_set (i := 2) nd rfl (Or.inl rfl) (pe_lst pa_nil))
      (pss_cons (ps_for PassesOwn.never rfl (pi_list (pv 0)) (pg_name (i := 3) nd rfl (Or.inl rfl)) (pss_one (ps_expr (pe_bm PySem.F.plainAttrs_list PySem.F.slot_list_append PySem.F.type_list_append mt_append (pv 2) (pa_cons (pe_op op_mod (pe_op op_fdiv (pe_d GM hr (pa_cons (pv 3) pa_nil)) pe_int) (pe_op op_shl pe_int (pe_callB call_len_seq rfl T.b_len PySem.boot_len (pa_cons (pv 1) pa_nil)))) pa_nil)))))
      (pss_cons (ps_for PassesOwn.never rfl (pi_range1 rfl T.b_range (pa_cons (pe_callB call_len_seq rfl T.b_len PySem.boot_len (pa_cons (pv 1) pa_nil)) pa_nil)) (pg_name (i := 4) nd rfl (Or.inl rfl)) (pss_one (ps_if (PW.pt (pw_and (pt_chain op_le_str op_le_str pe_str (pe_ix ix_str (pe_ix ix_list (pv 1) (pv 4) (fun _ _ => rfl)) pe_int (fun _ _ => rfl)) pe_str) (pw_and1 (pt_cmpR (op_neD hr.units) (pv 2) (pe_lst pa_nil) (nomark _))))) (pss_cons (ps_set (i := 5) nd rfl (Or.inl rfl) (pe_op op_mod (pe_op op_fdiv (pe_d GM hr (pa_cons (pe_op op_add (pe_ix ix_list (pv 0) pe_int (fun _ _ => rfl)) (pv 4)) pa_nil)) pe_int) (pe_callB call_len_seq rfl T.b_len PySem.boot_len (pa_cons (pv 2) pa_nil))))
      (pss_one (ps_for PassesOwn.never rfl (pi_range1 rfl T.b_range (pa_cons (pe_callB call_len_seq rfl T.b_len PySem.boot_len (pa_cons (pv 2) pa_nil)) pa_nil)) (pg_name (i := 6) nd rfl (Or.inl rfl)) (pss_cons (ps_asg (pe_op op_or (pe_ix ix_list (pv 2) (pv 6) (fun _ _ => rfl)) (pe_op op_shl pe_int (pv 4))) (pg_sub (pv 2) (pv 6) set_list))
      (pss_one (ps_if (pt_cmpR op_ne (pv 6) (pv 5) (nomark _)) (pss_one (ps_asg (pe_op op_xor (pe_ix ix_list (pv 2) (pv 6) (fun _ _ => rfl)) (pe_op op_shl pe_int (pv 4))) (pg_sub (pv 2) (pv 6) set_list))) pss_nil)))))) pss_nil)))
      (pss_one (ps_ret (pv 2)))))), ?_⟩
  have hkl : (ks.map V.str).length = ks.length := List.length_map _
  refine ⟨le_line (by show 0 ≤ 16000000; decide), fun p np => ?_⟩
  have g0 := same_new np (.lst [])
  refine ⟨_, rfl, c, rfl, ⟨_, SqL.of (g0 _ _ hc)⟩, for_list (K := K) (a := c) (xs := cs.map V.int) (fun i σ H' => ∃ (v3 : Option V) (row : List Int), σ = [some (.ref c), some (.ref a), some (.ref p), v3, none, none, none] ∧ Same H H' ∧ H' p = some (.lst (row.map V.int)) ∧ InR ks.length row ∧ row.length = i)
    ⟨none, [], rfl, g0, upd_same, (fun x hx => by cases hx), rfl⟩ (fun i σ H' _ ⟨_, _, _, e, _⟩ => SqL.of (e _ _ hc)) (fun i y σ H1 hy pp => ?_) (fun σ H1 pp => ?_)⟩
  · obtain ⟨v3, row, rfl, e1, hp, hin, hrl⟩ := pp
    rw [List.getElem?_map] at hy
    obtain ⟨z, hz, rfl⟩ := Option.map_eq_some_iff.mp hy
    have hi := (List.getElem?_eq_some_iff.mp hz).1
    have hsh : (1 : Int) * 2 ^ ((((ks.map V.str).length : Nat) : Int)).toNat = 2 ^ ks.length := by rw [Int.one_mul, Int.toNat_natCast, hkl]
    have hpos : (0 : Int) < 2 ^ ks.length := by rw [two_int]; have := Nat.two_pow_pos ks.length; omega
    refine ⟨_, rfl, .inl ⟨rfl, _, SqL.of hp⟩, _, rfl, z, rfl, fun x H2 hx e2 => ?_⟩
    refine ⟨_, _, rfl, rfl, ⟨by decide, by decide⟩, _, rfl, a, _, rfl, .inl (SqL.of (e2 _ _ (e1 _ _ ha))), _, _, rfl, rfl, ⟨Int.natCast_nonneg _, by rw [hkl]; omega, by decide⟩, _, _, rfl, rfl, ?_, ?_⟩
    · show (0 : Int) < 1 * 2 ^ ((((ks.map V.str).length : Nat) : Int)).toNat
      rw [hsh]; exact hpos
    refine ⟨p, _, _, rfl, rfl, e2 _ _ hp, lt_line (by rw [List.length_map]; omega), ?_⟩
    refine ⟨_, row ++ [x / 7 % 2 ^ ks.length], rfl, (e1.trans e2).upd_free np _, ?_, hin.app (Int.emod_nonneg _ (by omega)) (Int.emod_lt_of_pos _ hpos), by rw [List.length_append, List.length_singleton]; omega⟩
    rw [upd_same, List.map_append]
    show some (HO.lst (row.map V.int ++ [V.int (x / 7 % (1 * 2 ^ ((((ks.map V.str).length : Nat) : Int)).toNat))])) = _
    rw [hsh]
    rfl
  obtain ⟨v3, row, rfl, e1, hp, hin, hrl⟩ := pp
  rw [List.length_map] at hrl
  refine ⟨_, rfl, a, _, rfl, .inl (SqL.of (e1 _ _ ha)), _, rfl, by rw [hkl]; omega, by rw [hkl]; omega, ?_⟩
  refine for_range (lo := 0) (n := _) (fun i σ H' => ∃ (v4 v5 v6 : Option V) (row : List Int), σ = [some (.ref c), some (.ref a), some (.ref p), v3, v4, v5, v6] ∧ Same H H' ∧ H' p = some (.lst (row.map V.int)) ∧ InR ks.length row ∧ row.length = cs.length)
    ⟨none, none, none, row, rfl, e1, hp, hin, hrl⟩ (fun i σ H2 hi pp => ?_) (fun σ H2 pp => ?_)
  · obtain ⟨v4, v5, v6, row2, rfl, e2, hp2, hin2, hrl2⟩ := pp
    have hi' : i < ks.length := by rw [hkl] at hi; simpa using hi
    have hm : ks[i]? = some ks[i] := List.getElem?_eq_getElem hi'
    have hmN : Nm ks[i] := fr.nm _ (List.mem_of_getElem? hm)
    have hat : atI (ks.map V.str) (0 + (i : Int)) = some (.str ks[i]) := at_of (j := i) (Int.zero_add _) (by rw [List.getElem?_map, hm]; rfl)
    obtain ⟨hat0, hzl⟩ := nm_at hmN
    refine ⟨_, rfl, _, rfl, a, _, _, _, rfl, rfl, SqL.of (e2 _ _ ha), hat, ks[i], 0, _, rfl, rfl, hzl, hat0, _, _, rfl, rfl, _, rfl, ?_⟩
    cases hpl : plB ks[i] with
    | false => exact ifF (nm_high hmN hpl) ⟨false, rfl, iteF ⟨_, _, _, row2, rfl, e2, hp2, hin2, hrl2⟩⟩
    | true =>
      obtain ⟨w1, w2⟩ := nm_low hmN hpl
      refine ifT w1 ⟨_, _, rfl, rfl, true, congrArg V.bl w2, iteT ?_⟩
      refine ⟨_, rfl, le_line (by show 0 ≤ 16000000; decide), fun p1 n1 => ?_⟩
      have g1 := same_new n1 (.lst [])
      refine ⟨.list (row2.map PyData.int), .list [], .lst (SqL.of (g1 _ _ hp2)) (dp_ints row2), .lst (SqL.of upd_same) .nil, shaped_ints row2, shaped_nil, _, rfl, ?_⟩
      rw [eqv_ints]
      have e3 := e2.trans g1
      refine ifb (fun cc => ?_) (fun cc => ⟨_, _, _, row2, rfl, e3, g1 _ _ hp2, hin2, hrl2⟩)
      have hpos : 0 < row2.length := by
        cases row2 with
        | nil => cases cc
        | cons _ _ => exact Nat.succ_pos _
      have hc0 : 0 < cs.length := by omega
      refine ⟨_, rfl, c, _, _, .int cs[0], rfl, rfl, SqL.of (e3 _ _ hc), atI_nat (j := 0) (by rw [List.getElem?_map, List.getElem?_eq_getElem hc0]; rfl), _, rfl, _, _, rfl, rfl, _, rfl, fun x H4 hx e4 => ?_⟩
      have e34 := e3.trans e4
      have hp4 := e4 _ _ (g1 _ _ hp2)
      refine ⟨_, _, rfl, rfl, ⟨by decide, by decide⟩, _, rfl, p, _, rfl, .inl (SqL.of hp4), _, _, rfl, rfl, by show (0 : Int) < _; rw [List.length_map]; omega, ?_⟩
      refine ⟨_, rfl, p, _, rfl, .inl (SqL.of hp4), _, rfl, by rw [List.length_map]; omega, by rw [List.length_map]; omega, ?_⟩
      have hsh : (1 : Int) * 2 ^ ((0 + (i : Int))).toNat = ((2 ^ i : Nat) : Int) := by rw [Int.zero_add]; exact shl_nat i
      refine for_range (lo := 0) (n := _) (fun j σ H' => ∃ (v6 : Option V) (row : List Int), σ = [some (.ref c), some (.ref a), some (.ref p), v3, some (.int (0 + (i : Int))), some (.int (x / 50 % (((row2.map V.int).length : Nat) : Int))), v6] ∧ Same H H' ∧ H' p = some (.lst (row.map V.int)) ∧ InR ks.length row ∧ row.length = cs.length)
        ⟨_, row2, rfl, e34, hp4, hin2, hrl2⟩ (fun j σ H5 hj pp => ?_) (fun σ H5 pp => ?_)
      · obtain ⟨v6', row5, rfl, e5, hp5, hin5, hrl5⟩ := pp
        have hj' : j < row5.length := by rw [List.length_map] at hj; rw [hrl5, ← hrl2]; simpa using hj
        obtain ⟨h0, h1⟩ := hin5 row5[j] (List.getElem_mem hj')
        have hat5 : ∀ (r : List Int) (hr : j < r.length), atI (r.map V.int) (0 + (j : Int)) = some (.int r[j]) := fun r hr => at_of (j := j) (Int.zero_add _) (by rw [List.getElem?_map, List.getElem?_eq_getElem hr]; rfl)
        have hix : ∀ (r : List Int), j < r.length → ixN (r.map V.int).length (0 + (j : Int)) = some j := fun r hr => by rw [Int.zero_add, List.length_map]; exact ixN_nat hr
        obtain ⟨o0, o1⟩ := or_in h0 h1 hi'
        refine ⟨_, rfl, _, rfl, p, _, _, _, rfl, rfl, SqL.of hp5, hat5 row5 hj', _, rfl, _, _, rfl, rfl, ⟨by omega, by omega, by decide⟩, _, _, rfl, rfl, ?_⟩
        refine ⟨_, rfl, _, rfl, p, _, _, j, rfl, rfl, hp5, hix row5 hj', ?_⟩
        have er6 : (row5.map V.int).set j (V.int (Builtin.bitOr row5[j] (1 * 2 ^ ((0 + (i : Int))).toNat))) = (row5.set j (Builtin.bitOr row5[j] ((2 ^ i : Nat) : Int))).map V.int := by rw [hsh, List.map_set]
        have hj6 : j < (row5.set j (Builtin.bitOr row5[j] ((2 ^ i : Nat) : Int))).length := by rw [List.length_set]; exact hj'
        have hin6 := hin5.set (j := j) o0 o1
        have hrl6 : (row5.set j (Builtin.bitOr row5[j] ((2 ^ i : Nat) : Int))).length = cs.length := by rw [List.length_set]; exact hrl5
        have hp6 : upd H5 p (.lst ((row5.map V.int).set j (V.int (Builtin.bitOr row5[j] (1 * 2 ^ ((0 + (i : Int))).toNat))))) p = some (.lst ((row5.set j (Builtin.bitOr row5[j] ((2 ^ i : Nat) : Int))).map V.int)) := by rw [upd_same, er6]
        generalize row5.set j (Builtin.bitOr row5[j] ((2 ^ i : Nat) : Int)) = row6 at hj6 hin6 hrl6 hp6
        have e6 := e5.upd_free np (.lst ((row5.map V.int).set j (V.int (Builtin.bitOr row5[j] (1 * 2 ^ ((0 + (i : Int))).toNat)))))
        refine ⟨_, rfl, _, rfl, rfl, _, rfl, ?_⟩
        refine ifb (fun c6 => ?_) (fun c6 => ⟨_, row6, rfl, e6, hp6, hin6, hrl6⟩)
        obtain ⟨k0, k1⟩ := hin6 row6[j] (List.getElem_mem hj6)
        obtain ⟨x0, x1⟩ := xor_in k0 k1 hi'
        refine ⟨_, rfl, _, rfl, p, _, _, _, rfl, rfl, SqL.of hp6, hat5 row6 hj6, _, rfl, _, _, rfl, rfl, ⟨by omega, by omega, by decide⟩, _, _, rfl, rfl, ?_⟩
        refine ⟨_, rfl, _, rfl, p, _, _, j, rfl, rfl, hp6, hix row6 hj6, ?_⟩
        refine ⟨_, row6.set j (Builtin.bitXor row6[j] ((2 ^ i : Nat) : Int)), rfl, e6.upd_free np _, ?_, hin6.set x0 x1, by rw [List.length_set]; exact hrl6⟩
        rw [upd_same, List.map_set]
        show some (HO.lst ((row6.map V.int).set j (V.int (Builtin.bitXor row6[j] (1 * 2 ^ ((0 + (i : Int))).toNat))))) = _
        rw [hsh]
      · obtain ⟨v6', row5, rfl, e5, hp5, hin5, hrl5⟩ := pp
        exact ⟨_, _, _, row5, rfl, e5, hp5, hin5, hrl5⟩
  · obtain ⟨v4, v5, v6, row2, rfl, e2, hp2, hin2, hrl2⟩ := pp
    exact ⟨_, rfl, kk p row2 H2 e2 np hp2 hin2 hrl2⟩
end
end Sy

set_option Elab.async false
set_option linter.all false
set_option maxRecDepth 100000
set_option maxHeartbeats 8000000
namespace Sy
open PySem L2

abbrev levLaw : Nat := 40 + 1
def spLaw (K : PySem.W.Frag) : Sp := fun vs H Q _ => ∃ (a : Addr) (ns : List Int), vs = [.ref a] ∧ SqL K H a (ns.map V.int) ∧ ns.length ≤ 63 ∧ ∀ H', Q (.bl true) H'
theorem cut_ints (ns : List Int) (lo hi : Option Int) : ∃ rs : List Int, cutV (ns.map V.int) lo hi = rs.map V.int ∧ rs.length ≤ ns.length ∧ ∀ x ∈ rs, x ∈ ns := by
  refine ⟨(ns.drop (HT.sIx ns.length 0 lo)).take (HT.sIx ns.length ns.length hi - HT.sIx ns.length 0 lo), ?_, ?_, fun x hx => List.mem_of_mem_drop (List.mem_of_mem_take hx)⟩
  · unfold cutV
    rw [List.length_map, List.map_take, List.map_drop]
  · rw [List.length_take, List.length_drop]; omega
theorem cells_cut (ns : List Int) (s : Nat) : ∃ cs : List Int, cutV (ns.map V.int) (some (s : Int)) (some ((s : Int) + 8)) = cs.map V.int ∧ cs.length ≤ 8 := by
  obtain ⟨rs, h1, _, _⟩ := cut_ints ns (some (s : Int)) (some ((s : Int) + 8))
  refine ⟨rs, h1, ?_⟩
  have h2 : (cutV (ns.map V.int) (some (s : Int)) (some ((s : Int) + 8))).length ≤ 8 := by
    unfold cutV
    rw [show ((s : Int) + 8) = ((s + 8 : Nat) : Int) by omega, HT.sIx_nat, HT.sIx_nat, List.length_take, List.length_drop]
    omega
  rw [h1, List.length_map] at h2
  exact h2
theorem rg_ok : ∀ m : Nat, m < 62 → Builtin.Range.small 1 (m : Int) 8 = true := by decide +kernel
theorem rg_sz : ∀ m : Nat, m < 62 → Builtin.Range.rangeSize 1 (m : Int) 8 = (((Builtin.Range.rangeSize 1 (m : Int) 8).toNat : Nat) : Int) := by decide +kernel
theorem But.same {l : Addr} {H3 H4 H' : Hp} (s : Same H3 H4) (n : H3 l = none) (b : But l H4 H') : Same H3 H' := fun c o e => b c o (ne_of_none e n) (s _ _ e)
theorem shaped_pair {ks : List Str} {row : List Int} (h : ∀ n ∈ ks, Nm n) : SeqAt.shaped (.list [.list (ks.map PyData.str), .list (row.map PyData.int)]) = true := by
  unfold SeqAt.shaped
  rw [show PyData.canLay0 (.list [.list (ks.map PyData.str), .list (row.map PyData.int)]) = true from by
    simp [PyData.canLay0, PyData.canLayAll0, can_strs ks h, can_ints row], Bool.true_and]
  exact decide_eq_true (by simp [PyData.depth, PyData.depthAll, dep_strs, dep_ints])
theorem eqv_pair {ks : List Str} {row : List Int} (h : ∀ n ∈ ks, Nm n) : PyData.eqv (.list [.list (ks.map PyData.str), .list (row.map PyData.int)]) (.list [.list (ks.map PyData.str), .list (row.map PyData.int)]) = true :=
  SeqAt.eqv_refl _ (SeqAt.canLay_of_shaped (shaped_pair h))
theorem blD (b : Bool) : (!decide (V.bl b = V.bl b)) = false := by simp
section
variable {P : Program} {w : World} {K : PySem.W.Frag} {mg : Str → Option Value} {base : Heap}
theorem ok_law {f : Addr} {fd : FuncData} (F : Fun K "law" "law" s_law f fd) (T : Top K mg) : FnOk P w K mg base CX0 levLaw f fd ["_law_script"] (spLaw K) := by
  refine F.ok sc_law (fun vs H Q E h => ?_) (fun cdv A outer s H vs Q E hr h => ?_)
  · obtain ⟨a, ns, rfl, _⟩ := h
    rfl
  obtain ⟨a, ns, rfl, hS, hn63, kk⟩ := h
  have nd := sc_law.nd
  have GF : C8.Cal P w K mg base 2 "_law_frame" spFrm [] := cal_frm T
  have GC : C8.Cal P w K mg base 1 "_law_cell_at" (spCell K) [] := cal_cell T
  have GD : C8.Cal P w K mg base 6 "_law_drawn" (spDr 5) [] := cal_dr T 5
  have GR : C8.Cal P w K mg base 2 "_law_rows" spRows [] := cal_rows T
  have GW : C8.Cal P w K mg base 2 "_law_row" spRow [] := cal_row T
  have GH : C8.Cal P w K mg base 40 "holds" spHolds [] := cal_holds T
  have GU : C8.Cal P w K mg base 14 "_law_due" spDue [] := cal_due T
  refine ⟨_, (pss_cons (ps_set (i := 1) nd rfl (Or.inl rfl) (pe_d GF hr (pa_cons (pe_d GC hr (pa_cons (pv 0) (pa_cons pe_int pa_nil))) pa_nil)))
      (pss_cons (ps_for PassesOwn.never rfl (pi_range3 rfl T.b_range (pa_cons pe_int (pa_cons (pe_callB (call_max2 rfl) rfl T.b_max (by decide +kernel) (pa_cons pe_int (pa_cons (pe_callB (call_min2 rfl) rfl T.b_min (by decide +kernel) (pa_cons (pe_callB call_len_seq rfl T.b_len PySem.boot_len (pa_cons (pv 0) pa_nil)) (pa_cons pe_int pa_nil))) pa_nil))) (pa_cons pe_int pa_nil)))) (pg_name (i := 2) nd rfl (Or.inl rfl)) (pss_cons (ps_set (i := 3) nd rfl (Or.inl rfl) (pe_slice sl_list (pv 0) (po_some (pv 2)) (po_some (pe_op op_add (pv 2) pe_int))))
      (pss_cons (ps_set (i := 4) nd rfl (Or.inl rfl) (pe_d GD hr (pa_cons (pe_lst (pa_cons (pe_callTy call_list_of rfl T.b_list (by decide +kernel) (pa_cons (pv 3) pa_nil)) pa_nil)) (pa_cons (pv 1) (pa_cons pe_int (pa_cons (pe_op op_sub pe_int (pe_callB call_len_seq rfl T.b_len PySem.boot_len (pa_cons (pv 1) pa_nil))) (pa_cons pe_int pa_nil)))))))
      (pss_cons (ps_set (i := 5) nd rfl (Or.inl rfl) (pe_d GR hr (pa_cons (pe_callB call_len_seq rfl T.b_len PySem.boot_len (pa_cons (pv 1) pa_nil)) (pa_cons pe_int pa_nil))))
      (pss_cons (ps_expr (pe_bm PySem.F.plainAttrs_list PySem.F.slot_list_append PySem.F.type_list_append mt_append (pv 5) (pa_cons (pe_d GW hr (pa_cons (pe_slice sl_list (pe_op op_cat (pv 3) (pe_lst (pa_cons pe_int (pa_cons pe_int (pa_cons pe_int pa_nil))))) po_none (po_some (pe_op op_add pe_int (pe_op op_mod (pe_callB call_len_seq rfl T.b_len PySem.boot_len (pa_cons (pv 3) pa_nil)) pe_int)))) (pa_cons (pv 1) pa_nil))) pa_nil)))
      (pss_cons (ps_for PassesOwn.never rfl (pi_list (pv 5)) (pg_name (i := 6) nd rfl (Or.inl rfl)) (pss_cons (ps_set (i := 7) nd rfl (Or.inl rfl) (pe_lst (pa_cons (pe_callTy call_list_of rfl T.b_list (by decide +kernel) (pa_cons (pv 1) pa_nil)) (pa_cons (pe_callTy call_list_of rfl T.b_list (by decide +kernel) (pa_cons (pv 6) pa_nil)) pa_nil))))
      (pss_cons (ps_set (i := 8) nd rfl (Or.inl rfl) (pe_d GH hr (pa_cons (pv 4) (pa_cons (pe_ix ix_list (pv 7) pe_int (fun _ _ => rfl)) (pa_cons (pe_ix ix_list (pv 7) pe_int (fun _ _ => rfl)) pa_nil)))))
      (pss_one (ps_if (PW.pt (pw_or (pt_not (pt_val (pe_callB call_isi rfl T.b_isinstance (by decide +kernel) (pa_cons (pv 8) (pa_cons (pe_bltn rfl T.b_bool (by decide +kernel) (v := .ty "bool") rfl) pa_nil))))) (pw_or (pt_cmpR op_ne (pv 8) (pe_d GU hr (pa_cons (pv 4) (pa_cons (pv 1) (pa_cons (pv 6) pa_nil)))) (nomark _)) (pw_or1 (pt_cmpR (op_neD hr.units) (pv 7) (pe_lst (pa_cons (pv 1) (pa_cons (pv 6) pa_nil))) (nomark _)))))) (pss_one (ps_ret pe_bl)) pss_nil)))))
      (pss_cons (ps_set (i := 4) nd rfl (Or.inl rfl) (pe_d GD hr (pa_cons (pe_lst (pa_cons (pe_callTy call_list_of rfl T.b_list (by decide +kernel) (pa_cons (pv 3) pa_nil)) pa_nil)) (pa_cons (pv 1) (pa_cons pe_int (pa_cons (pe_op op_sub pe_int (pe_callB call_len_seq rfl T.b_len PySem.boot_len (pa_cons (pv 1) pa_nil))) (pa_cons pe_int pa_nil)))))))
      (pss_cons (ps_set (i := 6) nd rfl (Or.inl rfl) (pe_d GW hr (pa_cons (pe_slice sl_list (pe_op op_cat (pv 3) (pe_lst (pa_cons pe_int (pa_cons pe_int (pa_cons pe_int (pa_cons pe_int (pa_cons pe_int pa_nil))))))) po_none (po_some (pe_op op_add pe_int (pe_callB call_len_seq rfl T.b_len PySem.boot_len (pa_cons (pv 3) pa_nil))))) (pa_cons (pv 1) pa_nil))))
      (pss_cons (ps_if (pt_cmpR op_ne (pe_d GH hr (pa_cons (pv 4) (pa_cons (pe_callTy call_list_of rfl T.b_list (by decide +kernel) (pa_cons (pv 1) pa_nil)) (pa_cons (pe_callTy call_list_of rfl T.b_list (by decide +kernel) (pa_cons (pv 6) pa_nil)) pa_nil)))) (pe_d GU hr (pa_cons (pv 4) (pa_cons (pv 1) (pa_cons (pv 6) pa_nil)))) (nomark _)) (pss_one (ps_ret pe_bl)) pss_nil)
      (pss_cons (ps_set (i := 4) nd rfl (Or.inl rfl) (pe_d GD hr (pa_cons (pe_lst (pa_cons (pe_callTy call_list_of rfl T.b_list (by decide +kernel) (pa_cons (pv 3) pa_nil)) pa_nil)) (pa_cons (pv 1) (pa_cons pe_int (pa_cons (pe_op op_sub pe_int (pe_callB call_len_seq rfl T.b_len PySem.boot_len (pa_cons (pv 1) pa_nil))) (pa_cons pe_int pa_nil)))))))
      (pss_one (ps_if (pt_cmpR op_ne (pe_d GH hr (pa_cons (pv 4) (pa_cons (pe_callTy call_list_of rfl T.b_list (by decide +kernel) (pa_cons (pv 1) pa_nil)) (pa_cons (pe_slice sl_list (pv 6) po_none (po_some pe_int)) pa_nil)))) (pe_d GU hr (pa_cons (pv 4) (pa_cons (pv 1) (pa_cons (pe_slice sl_list (pv 6) po_none (po_some pe_int)) pa_nil)))) (nomark _)) (pss_one (ps_ret pe_bl)) pss_nil))))))))))))
      (pss_one (ps_ret pe_bl)))), ?_⟩
  refine ⟨_, rfl, a, ns, rfl, hS, fun x H1 e1 => ?_⟩
  refine ⟨x, rfl, fun af ks H2 e2 haf fr hk2 => ?_⟩
  have e12 := e1.trans e2
  have hkl : (ks.map V.str).length = ks.length := List.length_map _
  refine ⟨_, rfl, a, _, rfl, .inl (e12.seq hS), _, _, rfl, _, _, rfl, ?_⟩
  generalize hmm : (if (if (61 : Int) < (((ns.map V.int).length : Nat) : Int) then (61 : Int) else (((ns.map V.int).length : Nat) : Int)) > 2 then (if (61 : Int) < (((ns.map V.int).length : Nat) : Int) then (61 : Int) else (((ns.map V.int).length : Nat) : Int)) else 2) = mm
  have hm2 : 2 ≤ mm ∧ mm ≤ 61 := by
    rw [← hmm]
    split <;> split <;> omega
  obtain ⟨m, rfl⟩ : ∃ m : Nat, mm = (m : Int) := ⟨mm.toNat, by omega⟩
  refine ⟨1, (m : Int), 8, (Builtin.Range.rangeSize 1 (m : Int) 8).toNat, rfl, ⟨by decide, by decide, rg_ok m (by omega), rg_sz m (by omega)⟩, ?_⟩
  refine for_rangeC (lo := 1) (c := 8) (n := _) (fun i σ H' => (∃ v2 v3 v4 v5 v6 v7 v8, σ = [some (.ref a), some (.ref af), v2, v3, v4, v5, v6, v7, v8]) ∧ Same H2 H') ⟨⟨_, _, _, _, _, _, _, rfl⟩, Same.refl H2⟩ (fun i σ H3 hi pp => ?_) (fun σ H3 pp => kk H3)
  obtain ⟨⟨v2, v3, v4, v5, v6, v7, v8, rfl⟩, e3⟩ := pp
  have haf3 := e3 _ _ haf
  -- cells
  refine ⟨_, rfl, _, rfl, _, rfl, _, rfl, _, _, rfl, rfl, _, rfl, a, _, rfl, (e12.trans e3).seq hS, fun pc npc => ?_⟩
  obtain ⟨cs, hcs, hcl⟩ := cells_cut ns (1 + i * 8)
  have hcs' : cutV (ns.map V.int) (some (1 + ((i : Nat) : Int) * 8)) (some (1 + ((i : Nat) : Int) * 8 + 8)) = cs.map V.int := by
    rw [← hcs]
    have : ((1 + i * 8 : Nat) : Int) = 1 + ((i : Nat) : Int) * 8 := by omega
    rw [this]
  rw [hcs']
  have ec := same_new npc (.lst (cs.map V.int))
  have hpc : upd H3 pc (.lst (cs.map V.int)) pc = some (.lst (cs.map V.int)) := upd_same
  generalize upd H3 pc (.lst (cs.map V.int)) = H4 at ec hpc
  have e4 := e3.trans ec
  have haf4 := e4 _ _ haf
  -- the first saying
  refine ⟨_, rfl, pc, _, rfl, .inl (SqL.of hpc), fun l nl => ⟨le_line (by show 1 ≤ 16000000; decide), fun st nst => ?_⟩⟩
  have gl := same_new nl (.lst (cs.map V.int))
  have gst := same_new nst (.lst [V.ref l])
  have gls := gl.trans gst
  refine ⟨_, rfl, _, rfl, af, _, rfl, .inl (SqL.of (gls _ _ haf4)), _, _, rfl, rfl, st, l, af, cs, ks, 3, 4 - (((ks.map V.str).length : Nat) : Int), 2, rfl, upd_same, gst _ _ upd_same, ne_of_none haf4 nl, gls _ _ haf4, fr, by decide, by rw [hkl]; omega, fun z => by rw [z]; decide, ?_, fun v s H5 b5 _ hs hlet hd hp => ?_⟩
  · show (3 : Nat) + _ < 5
    split <;> omega
  have g5 : Same H4 H5 := But.same gls nl b5
  have e5 := e4.trans g5
  have hpc5 := g5 _ _ hpc
  have haf5 := e5 _ _ haf
  have hp60 : parts s ≤ 60 := by
    have : (2 : Nat) ^ 5 = 32 := by decide
    omega
  -- the rows
  refine ⟨_, rfl, af, _, rfl, .inl (SqL.of haf5), ks.length, by rw [hkl]; rfl, hk2, fun rp qs rws H6 e6 nrp hrp hq hni hrl hro => ?_⟩
  have hpc6 := e6 _ _ hpc5
  have haf6 := e6 _ _ haf5
  refine ⟨_, rfl, .inl ⟨rfl, _, SqL.of hrp⟩, ?_⟩
  refine ⟨_, rfl, le_line (by show 3 ≤ 16000000; decide), fun p1 n1 => ?_⟩
  have g1 := same_new n1 (.lst [V.int 3, V.int 1, V.int 4])
  refine ⟨pc, p1, _, _, rfl, rfl, g1 _ _ hpc6, upd_same, le_line (by rw [List.length_map]; show cs.length + 3 ≤ _; omega), fun p2 n2 => ?_⟩
  have g2 := same_new n2 (.lst (cs.map V.int ++ [V.int 3, V.int 1, V.int 4]))
  have g12 := g1.trans g2
  refine ⟨_, rfl, pc, _, rfl, .inl (SqL.of (g12 _ _ hpc6)), _, _, rfl, rfl, by show (0 : Int) < 2; decide, _, _, rfl, rfl, _, rfl, p2, _, rfl, SqL.of upd_same, fun p3 n3 => ?_⟩
  have ecat3 : cs.map V.int ++ [V.int 3, V.int 1, V.int 4] = (cs ++ [3, 1, 4]).map V.int := by rw [List.map_append]; rfl
  obtain ⟨rs, hrs, hrsl, _⟩ := cut_ints (cs ++ [3, 1, 4]) none (some (3 + (((cs.map V.int).length : Nat) : Int) % 2))
  rw [List.length_append] at hrsl
  have hrsl : rs.length ≤ cs.length + 3 := hrsl
  have g3 := same_new n3 (.lst (cutV (cs.map V.int ++ [V.int 3, V.int 1, V.int 4]) none (some (3 + (((cs.map V.int).length : Nat) : Int) % 2))))
  have g13 := g12.trans g3
  refine ⟨_, rfl, p3, af, rs, ks, rfl, by rw [upd_same, ecat3, ← hrs], g13 _ _ haf6, fr, hk2, by omega, fun pr row H7 e7 npr hpr hin hrowl => ?_⟩
  have e67 := g13.trans e7
  have hrp7 := e67 _ _ hrp
  refine ⟨rp, _, _, rfl, rfl, hrp7, lt_line (by rw [List.length_map, hq.len]; omega), ?_⟩
  have hne : pr ≠ rp := (ne_of_none (g13 _ _ hrp) npr).symm
  have e57 : Same H5 (upd H7 rp (.lst (qs.map V.ref ++ [V.ref pr]))) := (e6.trans e67).upd_free nrp _
  have hrp8 : upd H7 rp (.lst (qs.map V.ref ++ [V.ref pr])) rp = some (.lst ((qs ++ [pr]).map V.ref)) := by rw [upd_same, List.map_append]; rfl
  have hq8 : LLs (upd H7 rp (.lst (qs.map V.ref ++ [V.ref pr]))) (qs ++ [pr]) (rws ++ [row]) := by
    refine LLs.app ((hq.keep e67).keepOn fun q hm o e => ?_) ⟨?_, trivial⟩
    · rw [upd_ne (fun (z : q = rp) => hni (z ▸ hm))]; exact e
    · rw [upd_ne hne]; exact hpr
  have hro8 : RowsOk ks.length 20 (rws ++ [row]) := by
    intro c hc
    rcases List.mem_append.mp hc with z | z
    · exact ⟨(hro c z).1, Nat.le_trans (hro c z).2 (by decide)⟩
    · rw [List.mem_singleton.mp z]; exact ⟨hin, by omega⟩
  generalize upd H7 rp (.lst (qs.map V.ref ++ [V.ref pr])) = H8 at e57 hrp8 hq8
  generalize qs ++ [pr] = qs8 at hrp8 hq8
  generalize rws ++ [row] = rws8 at hq8 hro8
  have e8 := e5.trans e57
  have hs8 := hs.keep e57.tup
  have haf8 := e8 _ _ haf
  -- each row
  refine ⟨_, rfl, rp, rfl, ⟨_, SqL.of hrp8⟩, for_list (K := K) (a := rp) (xs := qs8.map V.ref) (fun j σ H' => (∃ v6 v7 v8, σ = [some (.ref a), some (.ref af), some (.int (1 + ((i : Nat) : Int) * 8)), some (.ref pc), some v, some (.ref rp), v6, v7, v8]) ∧ Same H8 H')
    ⟨⟨_, _, _, rfl⟩, Same.refl H8⟩ (fun j σ H' _ ⟨_, e⟩ => SqL.of (e _ _ hrp8)) (fun j y σ H9 hy pp => ?_) (fun σ H9 pp => ?_)⟩
  · obtain ⟨⟨w6, w7, w8, rfl⟩, e9⟩ := pp
    rw [List.getElem?_map] at hy
    obtain ⟨q, hqj, rfl⟩ := Option.map_eq_some_iff.mp hy
    obtain ⟨c, hc, hHq⟩ := hq8.get hqj
    obtain ⟨hcr, hcl20⟩ := hro8 c (List.mem_of_getElem? hc)
    have haf9 := e9 _ _ haf8
    have hq9 := e9 _ _ hHq
    refine ⟨_, rfl, af, _, rfl, .inl (SqL.of haf9), fun l1 nl1 => ?_⟩
    have k1 := same_new nl1 (.lst (ks.map V.str))
    refine ⟨_, rfl, q, _, rfl, .inl (SqL.of (k1 _ _ hq9)), fun l2 nl2 => ⟨le_line (by show 2 ≤ 16000000; decide), fun ph nph => ?_⟩⟩
    have k2 := same_new nl2 (.lst (c.map V.int))
    have k3 := same_new nph (.lst [V.ref l1, V.ref l2])
    have k13 := (k1.trans k2).trans k3
    have hl1 := (k2.trans k3) _ _ (upd_same (H := H9) (a := l1) (o := .lst (ks.map V.str)))
    have hl2 := k3 _ _ (upd_same (H := upd H9 l1 (.lst (ks.map V.str))) (a := l2) (o := .lst (c.map V.int)))
    have hph : upd (upd (upd H9 l1 (.lst (ks.map V.str))) l2 (.lst (c.map V.int))) ph (.lst [V.ref l1, V.ref l2]) ph = some (.lst [V.ref l1, V.ref l2]) := upd_same
    generalize upd (upd (upd H9 l1 (.lst (ks.map V.str))) l2 (.lst (c.map V.int))) ph (.lst [V.ref l1, V.ref l2]) = H10 at k13 hl1 hl2 hph
    have e10 := e9.trans k13
    refine ⟨_, rfl, _, rfl, ph, _, _, _, rfl, rfl, SqL.of hph, atI_nat (j := 0) rfl, _, rfl, ph, _, _, _, rfl, rfl, SqL.of hph, atI_nat (j := 1) rfl, v, s, l1, l2, ks, c, rfl, hs8.keep e10.tup, hlet, fr, hl1, hl2, hcr, hcl20, by omega, hp60, fun H11 e11 => ?_⟩
    refine ⟨_, rfl, .bl (verd s ks c), .ty "bool", .type "bool", .type "bool", true, rfl, .ty _, .base (.bl _), kit_ty (by decide +kernel), _, rfl, iteF ?_⟩
    have e811 := e10.trans e11
    refine ⟨_, rfl, _, rfl, _, rfl, _, rfl, v, s, af, q, ks, c, rfl, hs8.keep e811.tup, hlet, fr, e811 _ _ haf8, e811 _ _ hHq, hcl20, by omega, fun H12 e12' => ?_⟩
    refine ⟨rfl, _, rfl, ifF (blD _) ?_⟩
    have e1012 := e11.trans e12'
    have e812 := e10.trans e1012
    refine ⟨_, rfl, _, rfl, _, rfl, le_line (by show 2 ≤ 16000000; decide), fun p9 n9 => ?_⟩
    have k9 := same_new n9 (.lst [V.ref af, V.ref q])
    refine ⟨.list [.list (ks.map PyData.str), .list (c.map PyData.int)], .list [.list (ks.map PyData.str), .list (c.map PyData.int)],
      .lst (SqL.of (k9 _ _ (e1012 _ _ hph))) (.cons (.lst (SqL.of (k9 _ _ (e1012 _ _ hl1))) (dp_strs ks)) (.cons (.lst (SqL.of (k9 _ _ (e1012 _ _ hl2))) (dp_ints c)) .nil)),
      .lst (SqL.of upd_same) (.cons (.lst (SqL.of (k9 _ _ (e812 _ _ haf8))) (dp_strs ks)) (.cons (.lst (SqL.of (k9 _ _ (e812 _ _ hHq))) (dp_ints c)) .nil)),
      shaped_pair fr.nm, shaped_pair fr.nm, _, rfl, ifF (by rw [eqv_pair fr.nm]; rfl) ?_⟩
    exact ⟨⟨_, _, _, rfl⟩, e812.trans k9⟩
  obtain ⟨⟨w6, w7, w8, rfl⟩, e9⟩ := pp
  have e29 := e8.trans e9
  have haf9 := e29 _ _ haf
  have hpc9 := e9 _ _ (e57 _ _ hpc5)
  -- the second saying
  refine ⟨_, rfl, pc, _, rfl, .inl (SqL.of hpc9), fun l nl => ⟨le_line (by show 1 ≤ 16000000; decide), fun st nst => ?_⟩⟩
  have gl := same_new nl (.lst (cs.map V.int))
  have gst := same_new nst (.lst [V.ref l])
  have gls := gl.trans gst
  refine ⟨_, rfl, _, rfl, af, _, rfl, .inl (SqL.of (gls _ _ haf9)), _, _, rfl, rfl, st, l, af, cs, ks, 2, 3 - (((ks.map V.str).length : Nat) : Int), 0, rfl, upd_same, gst _ _ upd_same, ne_of_none haf9 nl, gls _ _ haf9, fr, by decide, by rw [hkl]; omega, fun z => by rw [z]; decide, ?_, fun v' s' H10 b10 _ hs' hlet' hd' hp' => ?_⟩
  · show (2 : Nat) + _ < 5
    split <;> omega
  have g10 : Same H9 H10 := But.same gls nl b10
  have e10 := e29.trans g10
  have hpc10 := g10 _ _ hpc9
  have haf10 := e10 _ _ haf
  have hp60' : parts s' ≤ 60 := by
    have : (2 : Nat) ^ 5 = 32 := by decide
    omega
  -- the longer row
  refine ⟨_, rfl, le_line (by show 5 ≤ 16000000; decide), fun p1 n1 => ?_⟩
  have g1 := same_new n1 (.lst [V.int 3, V.int 1, V.int 4, V.int 1, V.int 5])
  refine ⟨pc, p1, _, _, rfl, rfl, g1 _ _ hpc10, upd_same, le_line (by rw [List.length_map]; show cs.length + 5 ≤ _; omega), fun p2 n2 => ?_⟩
  have g2 := same_new n2 (.lst (cs.map V.int ++ [V.int 3, V.int 1, V.int 4, V.int 1, V.int 5]))
  have g12 := g1.trans g2
  refine ⟨_, rfl, pc, _, rfl, .inl (SqL.of (g12 _ _ hpc10)), _, _, rfl, rfl, _, rfl, p2, _, rfl, SqL.of upd_same, fun p3 n3 => ?_⟩
  have ecat : cs.map V.int ++ [V.int 3, V.int 1, V.int 4, V.int 1, V.int 5] = (cs ++ [3, 1, 4, 1, 5]).map V.int := by rw [List.map_append]; rfl
  obtain ⟨rs, hrs, hrsl, _⟩ := cut_ints (cs ++ [3, 1, 4, 1, 5]) none (some (5 + (((cs.map V.int).length : Nat) : Int)))
  rw [List.length_append] at hrsl
  have hrsl : rs.length ≤ cs.length + 5 := hrsl
  have g3 := same_new n3 (.lst (cutV (cs.map V.int ++ [V.int 3, V.int 1, V.int 4, V.int 1, V.int 5]) none (some (5 + (((cs.map V.int).length : Nat) : Int)))))
  have g13 := g12.trans g3
  refine ⟨_, rfl, p3, af, rs, ks, rfl, by rw [upd_same, ecat, ← hrs], g13 _ _ haf10, fr, hk2, by omega, fun pr2 row2 H11 e11 npr2 hpr2 hin2 hrowl2 => ?_⟩
  have g11 := g13.trans e11
  have e11' := e10.trans g11
  have hs11 := hs'.keep g11.tup
  have haf11 := e11' _ _ haf
  have hpc11 := g11 _ _ hpc10
  -- the law of the second
  refine ⟨_, rfl, _, rfl, af, _, rfl, .inl (SqL.of haf11), fun l1 nl1 => ?_⟩
  have k1 := same_new nl1 (.lst (ks.map V.str))
  refine ⟨_, rfl, pr2, _, rfl, .inl (SqL.of (k1 _ _ hpr2)), fun l2 nl2 => ?_⟩
  have k2 := same_new nl2 (.lst (row2.map V.int))
  have k12 := k1.trans k2
  refine ⟨v', s', l1, l2, ks, row2, rfl, hs11.keep k12.tup, hlet', fr, k2 _ _ upd_same, upd_same, hin2, by omega, by omega, hp60', fun H12 e12' => ?_⟩
  have k1112 := k12.trans e12'
  refine ⟨_, rfl, _, rfl, _, rfl, v', s', af, pr2, ks, row2, rfl, hs11.keep k1112.tup, hlet', fr, k1112 _ _ haf11, k1112 _ _ hpr2, by omega, by omega, fun H13 e13 => ?_⟩
  refine ⟨rfl, _, rfl, ifF (blD _) ?_⟩
  have k1113 := k1112.trans e13
  have e213 := e11'.trans k1113
  have haf13 := e213 _ _ haf
  have hpc13 := k1113 _ _ hpc11
  have hpr13 := k1113 _ _ hpr2
  -- the third saying
  refine ⟨_, rfl, pc, _, rfl, .inl (SqL.of hpc13), fun l nl => ⟨le_line (by show 1 ≤ 16000000; decide), fun st nst => ?_⟩⟩
  have gl := same_new nl (.lst (cs.map V.int))
  have gst := same_new nst (.lst [V.ref l])
  have gls := gl.trans gst
  refine ⟨_, rfl, _, rfl, af, _, rfl, .inl (SqL.of (gls _ _ haf13)), _, _, rfl, rfl, st, l, af, cs, ks, 1, 3 - (((ks.map V.str).length : Nat) : Int), 1, rfl, upd_same, gst _ _ upd_same, ne_of_none haf13 nl, gls _ _ haf13, fr, by decide, by rw [hkl]; omega, fun z => by rw [z]; decide, ?_, fun v3' s3 H14 b14 _ hs3 hlet3 hd3 hp3 => ?_⟩
  · show (1 : Nat) + _ < 5
    split <;> omega
  have g14 : Same H13 H14 := But.same gls nl b14
  have e14 := e213.trans g14
  have haf14 := e14 _ _ haf
  have hpr14 := g14 _ _ hpr13
  have hp603 : parts s3 ≤ 60 := by
    have : (2 : Nat) ^ 5 = 32 := by decide
    omega
  obtain ⟨r6, hr6, hr6l, hr6m⟩ := cut_ints row2 none (some 6)
  have hin6 : InR ks.length r6 := fun x hx => hin2 x (hr6m x hx)
  refine ⟨_, rfl, _, rfl, af, _, rfl, .inl (SqL.of haf14), fun l1 nl1 => ?_⟩
  have k1 := same_new nl1 (.lst (ks.map V.str))
  refine ⟨_, rfl, _, rfl, pr2, _, rfl, SqL.of (k1 _ _ hpr14), fun l2 nl2 => ?_⟩
  rw [hr6]
  have k2 := same_new nl2 (.lst (r6.map V.int))
  have k12 := k1.trans k2
  refine ⟨v3', s3, l1, l2, ks, r6, rfl, hs3.keep k12.tup, hlet3, fr, k2 _ _ upd_same, upd_same, hin6, by omega, by omega, hp603, fun H15 e15 => ?_⟩
  have k1415 := k12.trans e15
  refine ⟨_, rfl, _, rfl, _, rfl, _, rfl, pr2, _, rfl, SqL.of (k1415 _ _ hpr14), fun l3 nl3 => ?_⟩
  rw [hr6]
  have k3 := same_new nl3 (.lst (r6.map V.int))
  have k143 := k1415.trans k3
  refine ⟨v3', s3, af, l3, ks, r6, rfl, hs3.keep k143.tup, hlet3, fr, k143 _ _ haf14, upd_same, by omega, by omega, fun H16 e16 => ?_⟩
  refine ⟨rfl, _, rfl, ifF (blD _) ?_⟩
  exact ⟨⟨_, _, _, _, _, _, _, rfl⟩, e14.trans (k143.trans e16)⟩
end
end Sy

set_option Elab.async false
set_option maxRecDepth 100000
set_option maxHeartbeats 4000000

/-! KZ: the end (printed by gen.py) -/
namespace Sy
open PySem L2
/-- the tuple of the row's words -/
def isWords (o : Obj) : Bool := (match o.cls with | .type T => decide (T = "tuple") | _ => false) && (match o.data with
  | .seq its _ => (match its.toList with
    | [.str a _, .str b _, .str c _, .str d _, .str e _] => decide (a = "in") && decide (b = "same") && decide (c = "within") && decide (d = "ahead") && decide (e = "next")
    | _ => false)
  | _ => false)
theorem words_of {K : PySem.W.Frag} {a : Addr} {o : Obj} (h : K.lookup a = some o) (c : isWords o = true) (H : Hp) : SqT K H a [V.str "in", V.str "same", V.str "within", V.str "ahead", V.str "next"] := by
  unfold isWords at c
  rw [Bool.and_eq_true] at c
  obtain ⟨c1, c2⟩ := c
  split at c1
  · rename_i T e1
    split at c2
    · rename_i its n e2
      split at c2
      · rename_i _ a1 t1 a2 t2 a3 t3 a4 t4 a5 t5 e3
        simp only [Bool.and_eq_true, decide_eq_true_eq] at c2
        obtain ⟨⟨⟨⟨rfl, rfl⟩, rfl⟩, rfl⟩, rfl⟩ := c2
        have e4 := of_decide_eq_true c1
        subst e4
        refine .inr ⟨o, its, n, h, e1, e2, ?_, ?_⟩
        · rw [← Array.length_toList, e3, sizeLine_eq]; show 5 ≤ 2 ^ 24; decide
        · rw [e3]
          exact .cons ⟨_, rfl⟩ (.cons ⟨_, rfl⟩ (.cons ⟨_, rfl⟩ (.cons ⟨_, rfl⟩ (.cons ⟨_, rfl⟩ .nil))))
      · cases c2
    · cases c2
  · cases c1
theorem all_mk {l : PySem.W.OpenLaw} {w : World} {K : PySem.W.Frag} {h : Heap} {mg : Str → Option Value} {fa : Addr} (X : K.In h) (G : h.Ns mainGlobals mg) (hfa : mg "law" = some (.ref fa))
    {f0 : Addr} {od0 an0 : Option Addr} {sl0 : Array (Option Value)} {oc0 kV0 dc0 pm0 cd0 ct0 : Value} (a0 : PySem.W.nsIn K mainGlobals "begins_among" = some (some (.ref f0))) (l0 : K.lookup f0 = some ⟨oc0, od0, .func (PySem.W.fnOf "begins_among" "begins_among" (defArgs s_begins_among) (defBody s_begins_among) (defScope s_begins_among) .none kV0 dc0 pm0 an0 cd0 ct0), sl0⟩) (c0 : PySem.W.codeIn K cd0 "begins_among" = true) (k0 : PySem.W.keepIn K (.ref f0) = true)
    {f1 : Addr} {od1 an1 : Option Addr} {sl1 : Array (Option Value)} {oc1 kV1 dc1 pm1 cd1 ct1 : Value} (a1 : PySem.W.nsIn K mainGlobals "is_place" = some (some (.ref f1))) (l1 : K.lookup f1 = some ⟨oc1, od1, .func (PySem.W.fnOf "is_place" "is_place" (defArgs s_is_place) (defBody s_is_place) (defScope s_is_place) .none kV1 dc1 pm1 an1 cd1 ct1), sl1⟩) (c1 : PySem.W.codeIn K cd1 "is_place" = true) (k1 : PySem.W.keepIn K (.ref f1) = true)
    {f2 : Addr} {od2 an2 : Option Addr} {sl2 : Array (Option Value)} {oc2 kV2 dc2 pm2 cd2 ct2 : Value} (a2 : PySem.W.nsIn K mainGlobals "is_set" = some (some (.ref f2))) (l2 : K.lookup f2 = some ⟨oc2, od2, .func (PySem.W.fnOf "is_set" "is_set" (defArgs s_is_set) (defBody s_is_set) (defScope s_is_set) .none kV2 dc2 pm2 an2 cd2 ct2), sl2⟩) (c2 : PySem.W.codeIn K cd2 "is_set" = true) (k2 : PySem.W.keepIn K (.ref f2) = true)
    {f3 : Addr} {od3 an3 : Option Addr} {sl3 : Array (Option Value)} {oc3 kV3 dc3 pm3 cd3 ct3 : Value} (a3 : PySem.W.nsIn K mainGlobals "is_frame" = some (some (.ref f3))) (l3 : K.lookup f3 = some ⟨oc3, od3, .func (PySem.W.fnOf "is_frame" "is_frame" (defArgs s_is_frame) (defBody s_is_frame) (defScope s_is_frame) .none kV3 dc3 pm3 an3 cd3 ct3), sl3⟩) (c3 : PySem.W.codeIn K cd3 "is_frame" = true) (k3 : PySem.W.keepIn K (.ref f3) = true)
    {f4 : Addr} {od4 an4 : Option Addr} {sl4 : Array (Option Value)} {oc4 kV4 dc4 pm4 cd4 ct4 : Value} (a4 : PySem.W.nsIn K mainGlobals "names_suit" = some (some (.ref f4))) (l4 : K.lookup f4 = some ⟨oc4, od4, .func (PySem.W.fnOf "names_suit" "names_suit" (defArgs s_names_suit) (defBody s_names_suit) (defScope s_names_suit) .none kV4 dc4 pm4 an4 cd4 ct4), sl4⟩) (c4 : PySem.W.codeIn K cd4 "names_suit" = true) (k4 : PySem.W.keepIn K (.ref f4) = true)
    {f5 : Addr} {od5 an5 : Option Addr} {sl5 : Array (Option Value)} {oc5 kV5 dc5 pm5 cd5 ct5 : Value} (a5 : PySem.W.nsIn K mainGlobals "is_let" = some (some (.ref f5))) (l5 : K.lookup f5 = some ⟨oc5, od5, .func (PySem.W.fnOf "is_let" "is_let" (defArgs s_is_let) (defBody s_is_let) (defScope s_is_let) .none kV5 dc5 pm5 an5 cd5 ct5), sl5⟩) (c5 : PySem.W.codeIn K cd5 "is_let" = true) (k5 : PySem.W.keepIn K (.ref f5) = true)
    {f6 : Addr} {od6 an6 : Option Addr} {sl6 : Array (Option Value)} {oc6 kV6 dc6 pm6 cd6 ct6 : Value} (a6 : PySem.W.nsIn K mainGlobals "many_parts" = some (some (.ref f6))) (l6 : K.lookup f6 = some ⟨oc6, od6, .func (PySem.W.fnOf "many_parts" "many_parts" (defArgs s_many_parts) (defBody s_many_parts) (defScope s_many_parts) .none kV6 dc6 pm6 an6 cd6 ct6), sl6⟩) (c6 : PySem.W.codeIn K cd6 "many_parts" = true) (k6 : PySem.W.keepIn K (.ref f6) = true)
    {f7 : Addr} {od7 an7 : Option Addr} {sl7 : Array (Option Value)} {oc7 kV7 dc7 pm7 cd7 ct7 : Value} (a7 : PySem.W.nsIn K mainGlobals "is_saying" = some (some (.ref f7))) (l7 : K.lookup f7 = some ⟨oc7, od7, .func (PySem.W.fnOf "is_saying" "is_saying" (defArgs s_is_saying) (defBody s_is_saying) (defScope s_is_saying) .none kV7 dc7 pm7 an7 cd7 ct7), sl7⟩) (c7 : PySem.W.codeIn K cd7 "is_saying" = true) (k7 : PySem.W.keepIn K (.ref f7) = true)
    {f8 : Addr} {od8 an8 : Option Addr} {sl8 : Array (Option Value)} {oc8 kV8 dc8 pm8 cd8 ct8 : Value} (a8 : PySem.W.nsIn K mainGlobals "has_track" = some (some (.ref f8))) (l8 : K.lookup f8 = some ⟨oc8, od8, .func (PySem.W.fnOf "has_track" "has_track" (defArgs s_has_track) (defBody s_has_track) (defScope s_has_track) .none kV8 dc8 pm8 an8 cd8 ct8), sl8⟩) (c8 : PySem.W.codeIn K cd8 "has_track" = true) (k8 : PySem.W.keepIn K (.ref f8) = true)
    {f9 : Addr} {od9 an9 : Option Addr} {sl9 : Array (Option Value)} {oc9 kV9 dc9 pm9 cd9 ct9 : Value} (a9 : PySem.W.nsIn K mainGlobals "places_with" = some (some (.ref f9))) (l9 : K.lookup f9 = some ⟨oc9, od9, .func (PySem.W.fnOf "places_with" "places_with" (defArgs s_places_with) (defBody s_places_with) (defScope s_places_with) .none kV9 dc9 pm9 an9 cd9 ct9), sl9⟩) (c9 : PySem.W.codeIn K cd9 "places_with" = true) (k9 : PySem.W.keepIn K (.ref f9) = true)
    {f10 : Addr} {od10 an10 : Option Addr} {sl10 : Array (Option Value)} {oc10 kV10 dc10 pm10 cd10 ct10 : Value} (a10 : PySem.W.nsIn K mainGlobals "fits" = some (some (.ref f10))) (l10 : K.lookup f10 = some ⟨oc10, od10, .func (PySem.W.fnOf "fits" "fits" (defArgs s_fits) (defBody s_fits) (defScope s_fits) .none kV10 dc10 pm10 an10 cd10 ct10), sl10⟩) (c10 : PySem.W.codeIn K cd10 "fits" = true) (k10 : PySem.W.keepIn K (.ref f10) = true)
    {f11 : Addr} {od11 an11 : Option Addr} {sl11 : Array (Option Value)} {oc11 kV11 dc11 pm11 cd11 ct11 : Value} (a11 : PySem.W.nsIn K mainGlobals "bare_holds" = some (some (.ref f11))) (l11 : K.lookup f11 = some ⟨oc11, od11, .func (PySem.W.fnOf "bare_holds" "bare_holds" (defArgs s_bare_holds) (defBody s_bare_holds) (defScope s_bare_holds) .none kV11 dc11 pm11 an11 cd11 ct11), sl11⟩) (c11 : PySem.W.codeIn K cd11 "bare_holds" = true) (k11 : PySem.W.keepIn K (.ref f11) = true)
    {f12 : Addr} {od12 an12 : Option Addr} {sl12 : Array (Option Value)} {oc12 kV12 dc12 pm12 cd12 ct12 : Value} (a12 : PySem.W.nsIn K mainGlobals "places_by" = some (some (.ref f12))) (l12 : K.lookup f12 = some ⟨oc12, od12, .func (PySem.W.fnOf "places_by" "places_by" (defArgs s_places_by) (defBody s_places_by) (defScope s_places_by) .none kV12 dc12 pm12 an12 cd12 ct12), sl12⟩) (c12 : PySem.W.codeIn K cd12 "places_by" = true) (k12 : PySem.W.keepIn K (.ref f12) = true)
    {f13 : Addr} {od13 an13 : Option Addr} {sl13 : Array (Option Value)} {oc13 kV13 dc13 pm13 cd13 ct13 : Value} (a13 : PySem.W.nsIn K mainGlobals "some_holds" = some (some (.ref f13))) (l13 : K.lookup f13 = some ⟨oc13, od13, .func (PySem.W.fnOf "some_holds" "some_holds" (defArgs s_some_holds) (defBody s_some_holds) (defScope s_some_holds) .none kV13 dc13 pm13 an13 cd13 ct13), sl13⟩) (c13 : PySem.W.codeIn K cd13 "some_holds" = true) (k13 : PySem.W.keepIn K (.ref f13) = true)
    {f14 : Addr} {od14 an14 : Option Addr} {sl14 : Array (Option Value)} {oc14 kV14 dc14 pm14 cd14 ct14 : Value} (a14 : PySem.W.nsIn K mainGlobals "holds_by" = some (some (.ref f14))) (l14 : K.lookup f14 = some ⟨oc14, od14, .func (PySem.W.fnOf "holds_by" "holds_by" (defArgs s_holds_by) (defBody s_holds_by) (defScope s_holds_by) .none kV14 dc14 pm14 an14 cd14 ct14), sl14⟩) (c14 : PySem.W.codeIn K cd14 "holds_by" = true) (k14 : PySem.W.keepIn K (.ref f14) = true)
    {f15 : Addr} {od15 an15 : Option Addr} {sl15 : Array (Option Value)} {oc15 kV15 dc15 pm15 cd15 ct15 : Value} (a15 : PySem.W.nsIn K mainGlobals "look_at_asking" = some (some (.ref f15))) (l15 : K.lookup f15 = some ⟨oc15, od15, .func (PySem.W.fnOf "look_at_asking" "look_at_asking" (defArgs s_look_at_asking) (defBody s_look_at_asking) (defScope s_look_at_asking) .none kV15 dc15 pm15 an15 cd15 ct15), sl15⟩) (c15 : PySem.W.codeIn K cd15 "look_at_asking" = true) (k15 : PySem.W.keepIn K (.ref f15) = true)
    {f16 : Addr} {od16 an16 : Option Addr} {sl16 : Array (Option Value)} {oc16 kV16 dc16 pm16 cd16 ct16 : Value} (a16 : PySem.W.nsIn K mainGlobals "holds" = some (some (.ref f16))) (l16 : K.lookup f16 = some ⟨oc16, od16, .func (PySem.W.fnOf "holds" "holds" (defArgs s_holds) (defBody s_holds) (defScope s_holds) .none kV16 dc16 pm16 an16 cd16 ct16), sl16⟩) (c16 : PySem.W.codeIn K cd16 "holds" = true) (k16 : PySem.W.keepIn K (.ref f16) = true)
    {f17 : Addr} {od17 an17 : Option Addr} {sl17 : Array (Option Value)} {oc17 kV17 dc17 pm17 cd17 ct17 : Value} (a17 : PySem.W.nsIn K mainGlobals "_law_cell_at" = some (some (.ref f17))) (l17 : K.lookup f17 = some ⟨oc17, od17, .func (PySem.W.fnOf "_law_cell_at" "_law_cell_at" (defArgs s_Lcell_at) (defBody s_Lcell_at) (defScope s_Lcell_at) .none kV17 dc17 pm17 an17 cd17 ct17), sl17⟩) (c17 : PySem.W.codeIn K cd17 "_law_cell_at" = true) (k17 : PySem.W.keepIn K (.ref f17) = true)
    {f18 : Addr} {od18 an18 : Option Addr} {sl18 : Array (Option Value)} {oc18 kV18 dc18 pm18 cd18 ct18 : Value} (a18 : PySem.W.nsIn K mainGlobals "_law_mixed" = some (some (.ref f18))) (l18 : K.lookup f18 = some ⟨oc18, od18, .func (PySem.W.fnOf "_law_mixed" "_law_mixed" (defArgs s_Lmixed) (defBody s_Lmixed) (defScope s_Lmixed) .none kV18 dc18 pm18 an18 cd18 ct18), sl18⟩) (c18 : PySem.W.codeIn K cd18 "_law_mixed" = true) (k18 : PySem.W.keepIn K (.ref f18) = true)
    {f19 : Addr} {od19 an19 : Option Addr} {sl19 : Array (Option Value)} {oc19 kV19 dc19 pm19 cd19 ct19 : Value} (a19 : PySem.W.nsIn K mainGlobals "_law_new" = some (some (.ref f19))) (l19 : K.lookup f19 = some ⟨oc19, od19, .func (PySem.W.fnOf "_law_new" "_law_new" (defArgs s_Lnew) (defBody s_Lnew) (defScope s_Lnew) .none kV19 dc19 pm19 an19 cd19 ct19), sl19⟩) (c19 : PySem.W.codeIn K cd19 "_law_new" = true) (k19 : PySem.W.keepIn K (.ref f19) = true)
    {f20 : Addr} {od20 an20 : Option Addr} {sl20 : Array (Option Value)} {oc20 kV20 dc20 pm20 cd20 ct20 : Value} (a20 : PySem.W.nsIn K mainGlobals "_law_bare" = some (some (.ref f20))) (l20 : K.lookup f20 = some ⟨oc20, od20, .func (PySem.W.fnOf "_law_bare" "_law_bare" (defArgs s_Lbare) (defBody s_Lbare) (defScope s_Lbare) .none kV20 dc20 pm20 an20 cd20 ct20), sl20⟩) (c20 : PySem.W.codeIn K cd20 "_law_bare" = true) (k20 : PySem.W.keepIn K (.ref f20) = true)
    {f21 : Addr} {od21 an21 : Option Addr} {sl21 : Array (Option Value)} {oc21 kV21 dc21 pm21 cd21 ct21 : Value} (a21 : PySem.W.nsIn K mainGlobals "_law_drawn" = some (some (.ref f21))) (l21 : K.lookup f21 = some ⟨oc21, od21, .func (PySem.W.fnOf "_law_drawn" "_law_drawn" (defArgs s_Ldrawn) (defBody s_Ldrawn) (defScope s_Ldrawn) .none kV21 dc21 pm21 an21 cd21 ct21), sl21⟩) (c21 : PySem.W.codeIn K cd21 "_law_drawn" = true) (k21 : PySem.W.keepIn K (.ref f21) = true)
    {f22 : Addr} {od22 an22 : Option Addr} {sl22 : Array (Option Value)} {oc22 kV22 dc22 pm22 cd22 ct22 : Value} (a22 : PySem.W.nsIn K mainGlobals "_law_stand" = some (some (.ref f22))) (l22 : K.lookup f22 = some ⟨oc22, od22, .func (PySem.W.fnOf "_law_stand" "_law_stand" (defArgs s_Lstand) (defBody s_Lstand) (defScope s_Lstand) .none kV22 dc22 pm22 an22 cd22 ct22), sl22⟩) (c22 : PySem.W.codeIn K cd22 "_law_stand" = true) (k22 : PySem.W.keepIn K (.ref f22) = true)
    {f23 : Addr} {od23 an23 : Option Addr} {sl23 : Array (Option Value)} {oc23 kV23 dc23 pm23 cd23 ct23 : Value} (a23 : PySem.W.nsIn K mainGlobals "_law_choices" = some (some (.ref f23))) (l23 : K.lookup f23 = some ⟨oc23, od23, .func (PySem.W.fnOf "_law_choices" "_law_choices" (defArgs s_Lchoices) (defBody s_Lchoices) (defScope s_Lchoices) .none kV23 dc23 pm23 an23 cd23 ct23), sl23⟩) (c23 : PySem.W.codeIn K cd23 "_law_choices" = true) (k23 : PySem.W.keepIn K (.ref f23) = true)
    {f24 : Addr} {od24 an24 : Option Addr} {sl24 : Array (Option Value)} {oc24 kV24 dc24 pm24 cd24 ct24 : Value} (a24 : PySem.W.nsIn K mainGlobals "_law_bare_holds" = some (some (.ref f24))) (l24 : K.lookup f24 = some ⟨oc24, od24, .func (PySem.W.fnOf "_law_bare_holds" "_law_bare_holds" (defArgs s_Lbare_holds) (defBody s_Lbare_holds) (defScope s_Lbare_holds) .none kV24 dc24 pm24 an24 cd24 ct24), sl24⟩) (c24 : PySem.W.codeIn K cd24 "_law_bare_holds" = true) (k24 : PySem.W.keepIn K (.ref f24) = true)
    {f25 : Addr} {od25 an25 : Option Addr} {sl25 : Array (Option Value)} {oc25 kV25 dc25 pm25 cd25 ct25 : Value} (a25 : PySem.W.nsIn K mainGlobals "_law_holds" = some (some (.ref f25))) (l25 : K.lookup f25 = some ⟨oc25, od25, .func (PySem.W.fnOf "_law_holds" "_law_holds" (defArgs s_Lholds) (defBody s_Lholds) (defScope s_Lholds) .none kV25 dc25 pm25 an25 cd25 ct25), sl25⟩) (c25 : PySem.W.codeIn K cd25 "_law_holds" = true) (k25 : PySem.W.keepIn K (.ref f25) = true)
    {f26 : Addr} {od26 an26 : Option Addr} {sl26 : Array (Option Value)} {oc26 kV26 dc26 pm26 cd26 ct26 : Value} (a26 : PySem.W.nsIn K mainGlobals "_law_due" = some (some (.ref f26))) (l26 : K.lookup f26 = some ⟨oc26, od26, .func (PySem.W.fnOf "_law_due" "_law_due" (defArgs s_Ldue) (defBody s_Ldue) (defScope s_Ldue) .none kV26 dc26 pm26 an26 cd26 ct26), sl26⟩) (c26 : PySem.W.codeIn K cd26 "_law_due" = true) (k26 : PySem.W.keepIn K (.ref f26) = true)
    {f27 : Addr} {od27 an27 : Option Addr} {sl27 : Array (Option Value)} {oc27 kV27 dc27 pm27 cd27 ct27 : Value} (a27 : PySem.W.nsIn K mainGlobals "_law_frame" = some (some (.ref f27))) (l27 : K.lookup f27 = some ⟨oc27, od27, .func (PySem.W.fnOf "_law_frame" "_law_frame" (defArgs s_Lframe) (defBody s_Lframe) (defScope s_Lframe) .none kV27 dc27 pm27 an27 cd27 ct27), sl27⟩) (c27 : PySem.W.codeIn K cd27 "_law_frame" = true) (k27 : PySem.W.keepIn K (.ref f27) = true)
    {f28 : Addr} {od28 an28 : Option Addr} {sl28 : Array (Option Value)} {oc28 kV28 dc28 pm28 cd28 ct28 : Value} (a28 : PySem.W.nsIn K mainGlobals "_law_longer" = some (some (.ref f28))) (l28 : K.lookup f28 = some ⟨oc28, od28, .func (PySem.W.fnOf "_law_longer" "_law_longer" (defArgs s_Llonger) (defBody s_Llonger) (defScope s_Llonger) .none kV28 dc28 pm28 an28 cd28 ct28), sl28⟩) (c28 : PySem.W.codeIn K cd28 "_law_longer" = true) (k28 : PySem.W.keepIn K (.ref f28) = true)
    {f29 : Addr} {od29 an29 : Option Addr} {sl29 : Array (Option Value)} {oc29 kV29 dc29 pm29 cd29 ct29 : Value} (a29 : PySem.W.nsIn K mainGlobals "_law_rows" = some (some (.ref f29))) (l29 : K.lookup f29 = some ⟨oc29, od29, .func (PySem.W.fnOf "_law_rows" "_law_rows" (defArgs s_Lrows) (defBody s_Lrows) (defScope s_Lrows) .none kV29 dc29 pm29 an29 cd29 ct29), sl29⟩) (c29 : PySem.W.codeIn K cd29 "_law_rows" = true) (k29 : PySem.W.keepIn K (.ref f29) = true)
    {f30 : Addr} {od30 an30 : Option Addr} {sl30 : Array (Option Value)} {oc30 kV30 dc30 pm30 cd30 ct30 : Value} (a30 : PySem.W.nsIn K mainGlobals "_law_row" = some (some (.ref f30))) (l30 : K.lookup f30 = some ⟨oc30, od30, .func (PySem.W.fnOf "_law_row" "_law_row" (defArgs s_Lrow) (defBody s_Lrow) (defScope s_Lrow) .none kV30 dc30 pm30 an30 cd30 ct30), sl30⟩) (c30 : PySem.W.codeIn K cd30 "_law_row" = true) (k30 : PySem.W.keepIn K (.ref f30) = true)
    {f31 : Addr} {od31 an31 : Option Addr} {sl31 : Array (Option Value)} {oc31 kV31 dc31 pm31 cd31 ct31 : Value} (a31 : PySem.W.nsIn K mainGlobals "law" = some (some (.ref f31))) (l31 : K.lookup f31 = some ⟨oc31, od31, .func (PySem.W.fnOf "law" "law" (defArgs s_law) (defBody s_law) (defScope s_law) .none kV31 dc31 pm31 an31 cd31 ct31), sl31⟩) (c31 : PySem.W.codeIn K cd31 "law" = true) (k31 : PySem.W.keepIn K (.ref f31) = true)
    {tSMALL : Tok} (gSMALL : PySem.W.nsIn K mainGlobals "SMALL" = some (some (.str "abcdefghijklmnopqrstuvwxyz" tSMALL)))
    {tGREAT : Tok} (gGREAT : PySem.W.nsIn K mainGlobals "GREAT" = some (some (.str "ABCDEFGHIJKLMNOPQRSTUVWXYZ" tGREAT)))
    {tFIGURES : Tok} (gFIGURES : PySem.W.nsIn K mainGlobals "FIGURES" = some (some (.str "0123456789" tFIGURES)))
    {tMOST_NAMES : Tok} (gMOST_NAMES : PySem.W.nsIn K mainGlobals "MOST_NAMES" = some (some (.int 4 tMOST_NAMES)))
    {tMOST_DEEP : Tok} (gMOST_DEEP : PySem.W.nsIn K mainGlobals "MOST_DEEP" = some (some (.int 12 tMOST_DEEP)))
    {tMOST_PARTS : Tok} (gMOST_PARTS : PySem.W.nsIn K mainGlobals "MOST_PARTS" = some (some (.int 60 tMOST_PARTS)))
    {fW : Addr} {oW : Obj} (aW : PySem.W.nsIn K mainGlobals "ROW_WORDS" = some (some (.ref fW))) (lW : K.lookup fW = some oW) (hW : isWords oW = true)
    (zlen : PySem.W.nsIn K mainGlobals "len" = some none)
    (zisinstance : PySem.W.nsIn K mainGlobals "isinstance" = some none)
    (zstr : PySem.W.nsIn K mainGlobals "str" = some none)
    (zall : PySem.W.nsIn K mainGlobals "all" = some none)
    (zenumerate : PySem.W.nsIn K mainGlobals "enumerate" = some none)
    (zlist : PySem.W.nsIn K mainGlobals "list" = some none)
    (ztuple : PySem.W.nsIn K mainGlobals "tuple" = some none)
    (zdict : PySem.W.nsIn K mainGlobals "dict" = some none)
    (zrange : PySem.W.nsIn K mainGlobals "range" = some none)
    (zint : PySem.W.nsIn K mainGlobals "int" = some none)
    (zmax : PySem.W.nsIn K mainGlobals "max" = some none)
    (zmin : PySem.W.nsIn K mainGlobals "min" = some none)
    (zbool : PySem.W.nsIn K mainGlobals "bool" = some none) :
    ∃ fd : FuncData, (∀ (s : Shared) (v : Value), BindsTo s fd ⟨[v], []⟩ [("_law_script", v)]) ∧ ∀ base : Heap, K.In base → base.Ns mainGlobals mg → FnOk l.prog w K mg base CX0 levLaw fa fd ["_law_script"] (spLaw K) := by
  have e := hfa.symm.trans (PySem.W.mg_of X G a31)
  cases e
  have T : Top K mg := by
    refine ⟨scope_at X G a0 l0 c0 k0 (fun _ _ _ _ _ _ us hl => match us, hl with | [_, _], _ => rfl), scope_at X G a1 l1 c1 k1 (fun _ _ _ _ _ _ us hl => match us, hl with | [_], _ => rfl), scope_at X G a2 l2 c2 k2 (fun _ _ _ _ _ _ us hl => match us, hl with | [_], _ => rfl), scope_at X G a3 l3 c3 k3 (fun _ _ _ _ _ _ us hl => match us, hl with | [_], _ => rfl), scope_at X G a4 l4 c4 k4 (fun _ _ _ _ _ _ us hl => match us, hl with | [_, _, _], _ => rfl), scope_at X G a5 l5 c5 k5 (fun _ _ _ _ _ _ us hl => match us, hl with | [_, _, _, _, _], _ => rfl), scope_at X G a6 l6 c6 k6 (fun _ _ _ _ _ _ us hl => match us, hl with | [_], _ => rfl), scope_at X G a7 l7 c7 k7 (fun _ _ _ _ _ _ us hl => match us, hl with | [_, _], _ => rfl), scope_at X G a8 l8 c8 k8 (fun _ _ _ _ _ _ us hl => match us, hl with | [_, _], _ => rfl), scope_at X G a9 l9 c9 k9 (fun _ _ _ _ _ _ us hl => match us, hl with | [_, _], _ => rfl), scope_at X G a10 l10 c10 k10 (fun _ _ _ _ _ _ us hl => match us, hl with | [_, _], _ => rfl), scope_at X G a11 l11 c11 k11 (fun _ _ _ _ _ _ us hl => match us, hl with | [_, _], _ => rfl), scope_at X G a12 l12 c12 k12 (fun _ _ _ _ _ _ us hl => match us, hl with | [_, _, _], _ => rfl), scope_at X G a13 l13 c13 k13 (fun _ _ _ _ _ _ us hl => match us, hl with | [_, _, _], _ => rfl), scope_at X G a14 l14 c14 k14 (fun _ _ _ _ _ _ us hl => match us, hl with | [_, _, _], _ => rfl), scope_at X G a15 l15 c15 k15 (fun _ _ _ _ _ _ us hl => match us, hl with | [_, _], _ => rfl), scope_at X G a16 l16 c16 k16 (fun _ _ _ _ _ _ us hl => match us, hl with | [_, _, _], _ => rfl), scope_at X G a17 l17 c17 k17 (fun _ _ _ _ _ _ us hl => match us, hl with | [_, _], _ => rfl), scope_at X G a18 l18 c18 k18 (fun _ _ _ _ _ _ us hl => match us, hl with | [_], _ => rfl), scope_at X G a19 l19 c19 k19 (fun _ _ _ _ _ _ us hl => match us, hl with | [_, _, _], _ => rfl), scope_at X G a20 l20 c20 k20 (fun _ _ _ _ _ _ us hl => match us, hl with | [_, _], _ => rfl), scope_at X G a21 l21 c21 k21 (fun _ _ _ _ _ _ us hl => match us, hl with | [_, _, _, _, _], _ => rfl), scope_at X G a22 l22 c22 k22 (fun _ _ _ _ _ _ us hl => match us, hl with | [_, _], _ => rfl), scope_at X G a23 l23 c23 k23 (fun _ _ _ _ _ _ us hl => match us, hl with | [_, _], _ => rfl), scope_at X G a24 l24 c24 k24 (fun _ _ _ _ _ _ us hl => match us, hl with | [_, _], _ => rfl), scope_at X G a25 l25 c25 k25 (fun _ _ _ _ _ _ us hl => match us, hl with | [_, _, _], _ => rfl), scope_at X G a26 l26 c26 k26 (fun _ _ _ _ _ _ us hl => match us, hl with | [_, _, _], _ => rfl), scope_at X G a27 l27 c27 k27 (fun _ _ _ _ _ _ us hl => match us, hl with | [_], _ => rfl), scope_at X G a28 l28 c28 k28 (fun _ _ _ _ _ _ us hl => match us, hl with | [_, _], _ => rfl), scope_at X G a29 l29 c29 k29 (fun _ _ _ _ _ _ us hl => match us, hl with | [_, _], _ => rfl), scope_at X G a30 l30 c30 k30 (fun _ _ _ _ _ _ us hl => match us, hl with | [_, _], _ => rfl), ⟨_, PySem.W.mg_of X G gSMALL⟩, ⟨_, PySem.W.mg_of X G gGREAT⟩, ⟨_, PySem.W.mg_of X G gFIGURES⟩, ⟨_, PySem.W.mg_of X G gMOST_NAMES⟩, ⟨_, PySem.W.mg_of X G gMOST_DEEP⟩, ⟨_, PySem.W.mg_of X G gMOST_PARTS⟩, ⟨_, PySem.W.mg_of X G aW, fun H => words_of lW hW H⟩, PySem.W.mg_none_of X G zlen, PySem.W.mg_none_of X G zisinstance, PySem.W.mg_none_of X G zstr, PySem.W.mg_none_of X G zall, PySem.W.mg_none_of X G zenumerate, PySem.W.mg_none_of X G zlist, PySem.W.mg_none_of X G ztuple, PySem.W.mg_none_of X G zdict, PySem.W.mg_none_of X G zrange, PySem.W.mg_none_of X G zint, PySem.W.mg_none_of X G zmax, PySem.W.mg_none_of X G zmin, PySem.W.mg_none_of X G zbool⟩
  exact ⟨_, fun s v => .of_eq rfl, fun base _ _ => ok_law (fun_mk (st := s_law) l31 c31 k31) T⟩

theorem walk {l : PySem.W.OpenLaw} {q : Program} {loose : List Str} {XP : (Str → Option Value) → Heap → Prop} {YP : World → Heap → Prop} {d : DefRec} {K : Params → PySem.W.Frag} (hn : l.most = some 63) (hdf : d.params.defaults = [])
    (hY : ∀ (w : World) (h : Heap), YP w h → (K w.params).In h)
    (F : ∀ (w : World) (mg : Str → Option Value) (fa : Addr) (h : Heap), (K w.params).In h → h.Ns mainGlobals mg → mg d.name = some (.ref fa) →
      ∃ fd : FuncData, (∀ (s : Shared) (u : Value), BindsTo s fd ⟨[u], []⟩ [("_law_script", u)]) ∧ ∀ base : Heap, (K w.params).In base → base.Ns mainGlobals mg → FnOk l.prog w (K w.params) mg base CX0 levLaw fa fd ["_law_script"] (spLaw (K w.params))) :
    PySem.W.WalkO q loose XP YP l.row.toRowW d [] (fun f vs => PySem.call f vs) :=
  L2.walk_of (n := 63) (k := levLaw) (x := "_law_script") (CX := fun _ => CX0) (sp := fun w => spLaw (K w.params)) hn (by decide) hdf ⟨rfl, by decide, by decide⟩ hY F (fun _ _ a ns hl _ hS => ⟨a, ns, rfl, hS, hl, fun _ => rfl⟩) fun _ _ _ _ _ z => z
end Sy
open PySem PySem.W PyProof.Rows
set_option maxRecDepth 100000 in
set_option maxHeartbeats 0 in
theorem PySem.Challenge.cw_setsays_k11_whole_holds_plain_holds : PySem.Challenge.rw_setsays_k11_whole_holds_plain.Holds := by
  w_on; o_law; k_head; (case hw => w_witness2)
  k_fill
  refine Sy.walk (l := PySem.Challenge.rw_setsays_k11_whole_holds_plain) rfl rfl (fun w h Y => PySem.W.kIn_of Y) ?F
  case F =>
    intro w mg fa h KX G hmg
    refine' Sy.all_mk KX G hmg ?a0 ?l0 ?c0 ?k0 ?a1 ?l1 ?c1 ?k1 ?a2 ?l2 ?c2 ?k2 ?a3 ?l3 ?c3 ?k3 ?a4 ?l4 ?c4 ?k4 ?a5 ?l5 ?c5 ?k5 ?a6 ?l6 ?c6 ?k6 ?a7 ?l7 ?c7 ?k7 ?a8 ?l8 ?c8 ?k8 ?a9 ?l9 ?c9 ?k9 ?a10 ?l10 ?c10 ?k10 ?a11 ?l11 ?c11 ?k11 ?a12 ?l12 ?c12 ?k12 ?a13 ?l13 ?c13 ?k13 ?a14 ?l14 ?c14 ?k14 ?a15 ?l15 ?c15 ?k15 ?a16 ?l16 ?c16 ?k16 ?a17 ?l17 ?c17 ?k17 ?a18 ?l18 ?c18 ?k18 ?a19 ?l19 ?c19 ?k19 ?a20 ?l20 ?c20 ?k20 ?a21 ?l21 ?c21 ?k21 ?a22 ?l22 ?c22 ?k22 ?a23 ?l23 ?c23 ?k23 ?a24 ?l24 ?c24 ?k24 ?a25 ?l25 ?c25 ?k25 ?a26 ?l26 ?c26 ?k26 ?a27 ?l27 ?c27 ?k27 ?a28 ?l28 ?c28 ?k28 ?a29 ?l29 ?c29 ?k29 ?a30 ?l30 ?c30 ?k30 ?a31 ?l31 ?c31 ?k31 ?gSMALL ?gGREAT ?gFIGURES ?gMOST_NAMES ?gMOST_DEEP ?gMOST_PARTS ?aW ?lW ?hW ?zlen ?zisinstance ?zstr ?zall ?zenumerate ?zlist ?ztuple ?zdict ?zrange ?zint ?zmax ?zmin ?zbool
    (case a0 => k_is)
    (case l0 => k_is)
    (case c0 => k_is)
    (case k0 => k_is)
    (case a1 => k_is)
    (case l1 => k_is)
    (case c1 => k_is)
    (case k1 => k_is)
    (case a2 => k_is)
    (case l2 => k_is)
    (case c2 => k_is)
    (case k2 => k_is)
    (case a3 => k_is)
    (case l3 => k_is)
    (case c3 => k_is)
    (case k3 => k_is)
    (case a4 => k_is)
    (case l4 => k_is)
    (case c4 => k_is)
    (case k4 => k_is)
    (case a5 => k_is)
    (case l5 => k_is)
    (case c5 => k_is)
    (case k5 => k_is)
    (case a6 => k_is)
    (case l6 => k_is)
    (case c6 => k_is)
    (case k6 => k_is)
    (case a7 => k_is)
    (case l7 => k_is)
    (case c7 => k_is)
    (case k7 => k_is)
    (case a8 => k_is)
    (case l8 => k_is)
    (case c8 => k_is)
    (case k8 => k_is)
    (case a9 => k_is)
    (case l9 => k_is)
    (case c9 => k_is)
    (case k9 => k_is)
    (case a10 => k_is)
    (case l10 => k_is)
    (case c10 => k_is)
    (case k10 => k_is)
    (case a11 => k_is)
    (case l11 => k_is)
    (case c11 => k_is)
    (case k11 => k_is)
    (case a12 => k_is)
    (case l12 => k_is)
    (case c12 => k_is)
    (case k12 => k_is)
    (case a13 => k_is)
    (case l13 => k_is)
    (case c13 => k_is)
    (case k13 => k_is)
    (case a14 => k_is)
    (case l14 => k_is)
    (case c14 => k_is)
    (case k14 => k_is)
    (case a15 => k_is)
    (case l15 => k_is)
    (case c15 => k_is)
    (case k15 => k_is)
    (case a16 => k_is)
    (case l16 => k_is)
    (case c16 => k_is)
    (case k16 => k_is)
    (case a17 => k_is)
    (case l17 => k_is)
    (case c17 => k_is)
    (case k17 => k_is)
    (case a18 => k_is)
    (case l18 => k_is)
    (case c18 => k_is)
    (case k18 => k_is)
    (case a19 => k_is)
    (case l19 => k_is)
    (case c19 => k_is)
    (case k19 => k_is)
    (case a20 => k_is)
    (case l20 => k_is)
    (case c20 => k_is)
    (case k20 => k_is)
    (case a21 => k_is)
    (case l21 => k_is)
    (case c21 => k_is)
    (case k21 => k_is)
    (case a22 => k_is)
    (case l22 => k_is)
    (case c22 => k_is)
    (case k22 => k_is)
    (case a23 => k_is)
    (case l23 => k_is)
    (case c23 => k_is)
    (case k23 => k_is)
    (case a24 => k_is)
    (case l24 => k_is)
    (case c24 => k_is)
    (case k24 => k_is)
    (case a25 => k_is)
    (case l25 => k_is)
    (case c25 => k_is)
    (case k25 => k_is)
    (case a26 => k_is)
    (case l26 => k_is)
    (case c26 => k_is)
    (case k26 => k_is)
    (case a27 => k_is)
    (case l27 => k_is)
    (case c27 => k_is)
    (case k27 => k_is)
    (case a28 => k_is)
    (case l28 => k_is)
    (case c28 => k_is)
    (case k28 => k_is)
    (case a29 => k_is)
    (case l29 => k_is)
    (case c29 => k_is)
    (case k29 => k_is)
    (case a30 => k_is)
    (case l30 => k_is)
    (case c30 => k_is)
    (case k30 => k_is)
    (case a31 => k_is)
    (case l31 => k_is)
    (case c31 => k_is)
    (case k31 => k_is)
    (case gSMALL => k_is)
    (case gGREAT => k_is)
    (case gFIGURES => k_is)
    (case gMOST_NAMES => k_is)
    (case gMOST_DEEP => k_is)
    (case gMOST_PARTS => k_is)
    (case aW => k_is)
    (case lW => k_is)
    (case hW => decide +kernel)
    (case zlen => k_is)
    (case zisinstance => k_is)
    (case zstr => k_is)
    (case zall => k_is)
    (case zenumerate => k_is)
    (case zlist => k_is)
    (case ztuple => k_is)
    (case zdict => k_is)
    (case zrange => k_is)
    (case zint => k_is)
    (case zmax => k_is)
    (case zmin => k_is)
    (case zbool => k_is)
