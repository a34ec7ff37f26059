import PyProof.Rows.All
import Wide.All
import OpenK.AllK
import Wide.FinOn
import PyProof.ExcInit
import PyProof.ExcClass2
import PyProof.Rows.MatchSeqLen
import Lean
import PySem.Challenge.RW_qz0090_01
open PySem PySem.W PyProof.Rows PySem.Calls PySem.Spec
set_option Elab.async false
-- part H1
namespace Mine
set_option maxRecDepth 100000
set_option maxHeartbeats 8000000
noncomputable def Cap (H : Hook) (P : Prop) : Prop := ∀ x : Hook, x = H → P
theorem Cap.use {H : Hook} {P : Prop} (c : Cap H P) (x : Hook) (e : x = H) : P := c x e
local macro_rules | `(tactic| o_head $H) => `(tactic| (refine Mine.Cap.use ?_ $H rfl; assumption))
/-- the written part of the heap, as the library's k_head names it (hd.heap_1) -/
noncomputable def hd : (H : Hook) ×' (Cap H PySem.Challenge.rw_qz0090_01.row.Holds → PySem.Challenge.rw_qz0090_01.row.Holds) :=
  ⟨_, by intro cap; k_head⟩
end Mine
namespace Mine
set_option maxRecDepth 100000
set_option maxHeartbeats 8000000
noncomputable abbrev PR0 : Program := PySem.Challenge.rw_qz0090_01.row.toRowW.prog
/-- the statements at the top that the head's look keeps: all but those that bind __name__ -/
noncomputable def viewX : (b : List Stmt) ×' (b = [1, 2, 4, 5, 6, 7, 8, 9, 10, 11, 12, 13, 14, 15, 16, 18, 19, 20, 21, 22, 23, 24, 25, 26, 27, 29, 30, 31, 32, 33, 34, 35, 36, 37, 38, 39, 40, 41, 42, 43, 44, 46, 48, 49, 50, 51, 52, 53, 54].filterMap fun i => PR0.main.body[i]?) :=
  ⟨[_, _, _, _, _, _, _, _, _, _, _, _, _, _, _, _, _, _, _, _, _, _, _, _, _, _, _, _, _, _, _, _, _, _, _, _, _, _, _, _, _, _, _, _, _, _, _, _, _], rfl⟩
noncomputable abbrev hook : Hook := kHook hd.heap_1 [2, 3, 15, 22, 24, 25, 27, 28, 29, 30, 31, 32, 35, 42, 44, 45, 47, 48, 49, 50, 51, 54, 56, 57, 59, 60, 61, 63, 64, 66, 67, 68, 70, 71, 73, 74, 75, 77, 78, 80, 81, 82, 84, 85, 87, 88, 89, 91, 92, 94, 95, 96, 98, 99, 101, 102, 103, 105, 106, 108, 109, 110, 112, 113, 115, 116, 117, 119, 120, 122, 123, 124, 126, 127, 129, 130, 138, 140, 141, 143, 144, 145, 146, 147, 148, 149, 152, 159, 161, 162, 164, 165, 166, 167, 168, 171, 178, 180, 181, 183, 184, 185, 186, 187, 190, 197, 199, 200, 202, 203, 204, 205, 206, 209, 216, 218, 219, 221, 222, 223, 224, 225, 235, 236, 238, 239, 241, 242, 243, 244, 245, 246, 247, 250, 252, 253, 255, 256, 257, 259, 260, 262, 263, 264, 266, 267, 269, 270, 271, 273, 274, 276, 277, 278, 280, 281, 283, 284, 285, 287, 288, 290, 291, 292, 294, 295, 297, 298, 299, 301, 302, 304, 305, 306, 308, 309, 311, 312, 313, 315, 316, 318, 319, 320, 322, 323, 325, 326, 327, 329, 330, 332, 333, 334, 336, 337, 339, 340, 341, 343, 344, 346, 347, 348, 350, 351, 353, 354, 362, 363, 365, 366, 368, 369, 370, 371, 372, 373, 374, 377, 378, 380, 381, 383, 384, 385, 387, 388, 390, 391, 392, 395, 396, 397, 400, 401, 402, 405, 406] (fun _ => by kernel_rfl)
noncomputable def view : Program := { PR0 with main := { PR0.main with body := viewX.1 } }
end Mine
-- part Base
namespace Mine
set_option maxRecDepth 100000
set_option maxHeartbeats 8000000

noncomputable abbrev PR : Program := PySem.Challenge.rw_qz0090_01.row.prog
noncomputable abbrev LW : List Str := looseW view [Str.ofString "Limits", Str.ofString "_law_codes"]
noncomputable abbrev TOP (mean : ExcName → Option Value) (mg mb : Str → Option Value) (h : Heap) : Prop := Top view LW mean mg mb h

/-- every object but those of the list stays as it was -/
noncomputable def Kept (X : List Addr) (h h' : Heap) : Prop := ∀ b o, b ∉ X → h.get? b = some o → h'.get? b = some o
/-- the state grows, but for the list's objects -/
noncomputable def Goes (X : List Addr) (s s' : Shared) : Prop := ∃ h' tk, s' = { s with heap := h', toks := tk } ∧ Kept X s.heap h'

end Mine
-- part Loops
namespace Mine
set_option maxRecDepth 100000
set_option maxHeartbeats 8000000

/-- a loop's map of names: x the loop's own, y the one that is told, the others of temps are forgotten -/
noncomputable def MapAt (x y : Str) (temps : List Str) (vx : Option Value) (vy : Value) (u m₀ : Str → Option Value) : Str → Option Value :=
  fun z => if z = x then vx else if z = y then some vy else if temps.contains z then u z else m₀ z

section
variable {prog : Program} {w : World} {A : Around} {E : Value → Shared → Prop} {s : Shared} {env : Env} {h₀ : Heap} {x : Str} {body : List Stmt} {Q : Flow → Shared → Prop}

noncomputable def TurnJ (x y : Str) (temps : List Str) (g : Nat → Tok → Value) (P : Nat → Prop) (m₀ : Str → Option Value) (news : List (Addr × Obj)) (i : Nat) (m' : Str → Option Value) (nx : List (Addr × Obj)) : Prop :=
  nx = news ∧ P i ∧ (∃ t, m' y = some (g i t)) ∧ ∀ z, z ≠ x → z ≠ y → temps.contains z = false → m' z = m₀ z

theorem map_of {y : Str} {temps : List Str} {m₁ m₀ : Str → Option Value} {vy : Value} {vx : Option Value} (hy : m₁ y = some vy) (hm : ∀ z, z ≠ x → z ≠ y → temps.contains z = false → m₁ z = m₀ z) :
    (fun z => if z = x then vx else m₁ z) = fun z => if z = x then vx else if z = y then some vy else if temps.contains z then m₁ z else m₀ z := by
  funext z
  by_cases h1 : z = x
  · simp [h1]
  · simp only [if_neg h1]
    by_cases h2 : z = y
    · subst h2; simp [hy]
    · simp only [if_neg h2]
      cases h3 : temps.contains z with
      | true => simp
      | false => simp only [Bool.false_eq_true, if_false]; exact hm z h1 h2 h3
theorem map_of' {y : Str} {temps : List Str} {m₁ m₀ : Str → Option Value} {vy : Value} (hy : m₁ y = some vy) (hm : ∀ z, z ≠ x → z ≠ y → temps.contains z = false → m₁ z = m₀ z) :
    m₁ = fun z => if z = x then m₁ z else if z = y then some vy else if temps.contains z then m₁ z else m₀ z := by
  funext z
  by_cases h1 : z = x
  · simp [h1]
  · simp only [if_neg h1]
    by_cases h2 : z = y
    · subst h2; simp [hy]
    · simp only [if_neg h2]
      cases h3 : temps.contains z with
      | true => simp
      | false => simp only [Bool.false_eq_true, if_false]; exact hm z h1 h2 h3

theorem rangeLoop {r : Addr} {b₀ : Int} {t₀ u₀ v₀ : Tok} {n : Nat} {m₀ : Str → Option Value} {news : List (Addr × Obj)} (y : Str) (temps : List Str) (g : Nat → Tok → Value) (P : Nat → Prop) {ty : Tok}
    (hh : A.handled = none) (hr : IsRange s.heap r 0 b₀ 1 t₀ u₀ v₀) (hsmall : Builtin.Range.small 0 b₀ 1 = true) (hn : Builtin.Range.rangeSize 0 b₀ 1 = (n : Int)) (F : Fr h₀ env.locals s.heap m₀) (N : News h₀ env.locals s.heap news)
    (hy : m₀ y = some (g 0 ty)) (hP : P 0)
    (turn : ∀ (i : Nat) t ty (u : Str → Option Value) h tk own, i < n → P i → OwnOff own (news.map (·.1)) →
      Fr h₀ env.locals h (fun z => if z = x then some (.int (i : Int) t) else if z = y then some (g i ty) else if temps.contains z then u z else m₀ z) → News h₀ env.locals h (news ++ own) →
      wpAny (model prog w) A (execs body env) (InvPostN h₀ env.locals (TurnJ x y temps g P m₀ news (i + 1)) own (news.map (·.1)) { s with heap := h, toks := tk } Q) E { s with heap := h, toks := tk })
    (done : ∀ (u : Str → Option Value) ty h tk, P n → Fr h₀ env.locals h (fun z => if z = x then u z else if z = y then some (g n ty) else if temps.contains z then u z else m₀ z) → News h₀ env.locals h news → Q .next { s with heap := h, toks := tk }) :
    wpAny (model prog w) A (pyIter (.ref r)) (fun it s₂ => LoopAtV prog w A h₀ env x body Q E it s₂) E s := by
  refine wpAny_pyIter_range hr hsmall ?_
  have W : Walks prog w A s.heap.objs.size [s.heap.objs.size] [s.heap.objs.size] n (fun i v => ∃ t, v = .int (0 + i * 1) t)
      (fun i h => IsRangeIter h s.heap.objs.size (0 + (i : Nat) * 1) ((n : Int) - (i : Nat)) 1) := Walks.range hh _ 0 1 n
  refine loop_invN (TurnJ x y temps g P m₀ news) W ?_ ?_ ?_ ?_ (by show IsRangeIter _ _ _ _ _; rw [hn]; simpa using Heap.get?_push_size _ rfl) (F.push _) (fun p hp => ⟨Heap.get?_push_of_some _ (N p hp).1, (N p hp).2⟩) ⟨rfl, hP, ⟨ty, hy⟩, fun _ _ _ _ => rfl⟩ ?_ ?_
  · intro hm
    exact absurd F.ns.lt ((List.mem_singleton.mp hm) ▸ Nat.lt_irrefl _)
  · intro b hb
    rw [List.mem_singleton.mp hb]
    exact next_is_new F
  · intro p hp hI
    exact absurd (Heap.lt_size (N p hp).1) ((List.mem_singleton.mp hI) ▸ Nat.lt_irrefl _)
  · intro p hp hI
    exact absurd (Heap.lt_size (N p hp).1) ((List.mem_singleton.mp hI) ▸ Nat.lt_irrefl _)
  · rintro i v m₁ news₁ h tk own hin ⟨t, rfl⟩ _ hsep ⟨rfl, hPi, ⟨ty', hy'⟩, hm⟩ F₁ N₁
    rw [map_of hy' hm] at F₁
    have e : (0 + (i : Int) * 1) = (i : Int) := by omega
    rw [e] at F₁
    exact turn i t ty' m₁ h tk own hin hPi hsep F₁ N₁
  · rintro m₁ nx h tk ⟨rfl, hPn, ⟨ty', hy'⟩, hm⟩ F₁ N₁
    refine done m₁ ty' h tk hPn ?_ N₁
    rw [← map_of' hy' hm]; exact F₁

theorem turn_done {L : Addr} {y : Str} {temps : List Str} {g : Nat → Tok → Value} {P : Nat → Prop} {m₀ m' : Str → Option Value} {news own news' : List (Addr × Obj)} {i : Nat} {s₁ : Shared} {h' : Heap} {tk : Nat} {v : Value}
    (F : Fr h₀ L h' m') (N : News h₀ L h' news') (sub : ∀ p ∈ news ++ own, p ∈ news') (hy : m' y = some v) (hv : ∃ t, v = g (i + 1) t) (hP : P (i + 1)) (hm : ∀ z, z ≠ x → z ≠ y → temps.contains z = false → m' z = m₀ z) :
    InvEndN h₀ L (TurnJ x y temps g P m₀ news (i + 1)) own (news.map (·.1)) s₁ { s₁ with heap := h', toks := tk } :=
  ⟨h', tk, m', news', news, rfl, F, N, fun p hp => sub p (List.mem_append_left _ hp), fun p hp => sub p (List.mem_append_right _ hp), rfl, rfl, hP, hv.elim fun t ht => ⟨t, by rw [hy, ht]⟩, hm⟩

noncomputable def TurnN (x : Str) (J : Nat → List (Addr × Obj) → Prop) (m₀ : Str → Option Value) (i : Nat) (m' : Str → Option Value) (nx : List (Addr × Obj)) : Prop :=
  J i nx ∧ ∀ z, z ≠ x → m' z = m₀ z
theorem map_on {m₁ m₀ : Str → Option Value} {vx : Option Value} (hm : ∀ z, z ≠ x → m₁ z = m₀ z) : (fun z => if z = x then vx else m₁ z) = fun z => if z = x then vx else m₀ z := by
  funext z
  by_cases h1 : z = x
  · simp [h1]
  · simp only [if_neg h1]; exact hm z h1
theorem map_on' {m₁ m₀ : Str → Option Value} (hm : ∀ z, z ≠ x → m₁ z = m₀ z) : m₁ = fun z => if z = x then m₁ z else m₀ z := by
  funext z
  by_cases h1 : z = x
  · simp [h1]
  · simp only [if_neg h1]; exact hm z h1

/-- a loop over range(n) that changes the ledger's objects and no name but its own -/
theorem rangeLoopN {r : Addr} {b₀ : Int} {t₀ u₀ v₀ : Tok} {n : Nat} {m₀ : Str → Option Value} {news : List (Addr × Obj)} (J : Nat → List (Addr × Obj) → Prop)
    (hh : A.handled = none) (hr : IsRange s.heap r 0 b₀ 1 t₀ u₀ v₀) (hsmall : Builtin.Range.small 0 b₀ 1 = true) (hn : Builtin.Range.rangeSize 0 b₀ 1 = (n : Int)) (F : Fr h₀ env.locals s.heap m₀) (N : News h₀ env.locals s.heap news) (hJ : J 0 news)
    (turn : ∀ (i : Nat) t nx h tk own, i < n → J i nx → nx.map (·.1) = news.map (·.1) → OwnOff own (news.map (·.1)) →
      Fr h₀ env.locals h (fun z => if z = x then some (.int (i : Int) t) else m₀ z) → News h₀ env.locals h (nx ++ own) →
      wpAny (model prog w) A (execs body env) (InvPostN h₀ env.locals (TurnN x J m₀ (i + 1)) own (news.map (·.1)) { s with heap := h, toks := tk } Q) E { s with heap := h, toks := tk })
    (done : ∀ (u : Str → Option Value) nx h tk, J n nx → Fr h₀ env.locals h (fun z => if z = x then u z else m₀ z) → News h₀ env.locals h nx → Q .next { s with heap := h, toks := tk }) :
    wpAny (model prog w) A (pyIter (.ref r)) (fun it s₂ => LoopAtV prog w A h₀ env x body Q E it s₂) E s := by
  refine wpAny_pyIter_range hr hsmall ?_
  have W : Walks prog w A s.heap.objs.size [s.heap.objs.size] [s.heap.objs.size] n (fun i v => ∃ t, v = .int (0 + i * 1) t)
      (fun i h => IsRangeIter h s.heap.objs.size (0 + (i : Nat) * 1) ((n : Int) - (i : Nat)) 1) := Walks.range hh _ 0 1 n
  refine loop_invN (TurnN x J m₀) W ?_ ?_ ?_ ?_ (by show IsRangeIter _ _ _ _ _; rw [hn]; simpa using Heap.get?_push_size _ rfl) (F.push _) (fun p hp => ⟨Heap.get?_push_of_some _ (N p hp).1, (N p hp).2⟩) ⟨hJ, fun _ _ => rfl⟩ ?_ ?_
  · intro hm
    exact absurd F.ns.lt ((List.mem_singleton.mp hm) ▸ Nat.lt_irrefl _)
  · intro b hb
    rw [List.mem_singleton.mp hb]
    exact next_is_new F
  · intro p hp hI
    exact absurd (Heap.lt_size (N p hp).1) ((List.mem_singleton.mp hI) ▸ Nat.lt_irrefl _)
  · intro p hp hI
    exact absurd (Heap.lt_size (N p hp).1) ((List.mem_singleton.mp hI) ▸ Nat.lt_irrefl _)
  · rintro i v m₁ news₁ h tk own hin ⟨t, rfl⟩ hadr hsep ⟨hJi, hm⟩ F₁ N₁
    rw [map_on hm] at F₁
    have e : (0 + (i : Int) * 1) = (i : Int) := by omega
    rw [e] at F₁
    exact turn i t news₁ h tk own hin hJi hadr hsep F₁ N₁
  · rintro m₁ nx h tk ⟨hJn, hm⟩ F₁ N₁
    refine done m₁ nx h tk hJn ?_ N₁
    rw [← map_on' hm]; exact F₁
theorem turn_doneN {L : Addr} {J : Nat → List (Addr × Obj) → Prop} {m₀ m' : Str → Option Value} {nx own news' : List (Addr × Obj)} {adr : List Addr} {i : Nat} {s₁ : Shared} {h' : Heap} {tk : Nat}
    (F : Fr h₀ L h' m') (N : News h₀ L h' news') (hJ : J (i + 1) nx) (hadr : nx.map (·.1) = adr) (sub : ∀ p ∈ nx, p ∈ news') (sub' : ∀ p ∈ own, p ∈ news') (hm : ∀ z, z ≠ x → m' z = m₀ z) :
    InvEndN h₀ L (TurnN x J m₀ (i + 1)) own adr s₁ { s₁ with heap := h', toks := tk } :=
  ⟨h', tk, m', news', nx, rfl, F, N, sub, sub', hadr, hJ, hm⟩
end
end Mine
-- part Data
namespace Mine
set_option maxRecDepth 100000
set_option maxHeartbeats 8000000

noncomputable def codes : List Int := [0, 1, 65, 255, 256, 65535, 65536, 1048575, 1048576, 1114111]
noncomputable def bitV (op : Str) (a b : Int) : Int := if op = Str.ofString "&" then Builtin.bitAnd a b else if op = Str.ofString "|" then Builtin.bitOr a b else Builtin.bitXor a b
noncomputable def many (op : Str) (l r : List Int) : Nat := if op = Str.ofString "&" then min l.length r.length else max l.length r.length
noncomputable def dueAt (op : Str) (l r : List Int) (i : Nat) : Int := bitV op (l.getD i 0) (r.getD i 0)
noncomputable def dueN (op : Str) (l r : List Int) (n : Nat) : List Int := (List.range n).map (dueAt op l r)
noncomputable def txt (l : List Int) : Str := ⟨(l.map Int.toNat).toArray⟩

noncomputable def bitF (op : Str) (x y : Int) : Int := if op = Str.ofString "&" then x * y else if op = Str.ofString "|" then max x y else (x + y) % 2
noncomputable def bitK (op : Str) (a b : Int) (k : Nat) : Int := bitF op (a / 2 ^ k % 2) (b / 2 ^ k % 2) * 2 ^ k
noncomputable def lawBits (op : Str) (a b : Int) : Int := ((List.range 21).map (bitK op a b)).sum
noncomputable def lawAt (op : Str) (l r : List Int) (i : Nat) : Int := lawBits op (l.getD i 0) (r.getD i 0)
noncomputable def lawN (op : Str) (l r : List Int) (n : Nat) : List Int := (List.range n).map (lawAt op l r)
theorem lawN_succ (op : Str) (l r : List Int) (n : Nat) : lawN op l r (n + 1) = lawN op l r n ++ [lawAt op l r n] := by
  unfold lawN
  rw [List.range_succ, List.map_append]
  rfl
theorem txt_length (l : List Int) : (txt l).length = l.length := by
  show ((l.map Int.toNat).toArray).size = _
  simp
theorem txt_nil : txt [] = Str.ofString "" := by decide
theorem txt_snoc (l : List Int) (c : Int) : txt l ++ (⟨#[c.toNat]⟩ : Str) = txt (l ++ [c]) := by
  show (⟨(txt l).cps ++ #[c.toNat]⟩ : Str) = _
  unfold txt
  simp
theorem dueN_succ (op : Str) (l r : List Int) (n : Nat) : dueN op l r (n + 1) = dueN op l r n ++ [dueAt op l r n] := by
  unfold dueN
  rw [List.range_succ, List.map_append]
  rfl
theorem dueN_length (op : Str) (l r : List Int) (n : Nat) : (dueN op l r n).length = n := by simp [dueN]
theorem txt_at {l : List Int} {i : Nat} (h0 : ∀ c ∈ l, 0 ≤ c) (hi : i < l.length) : (((txt l).cps.getD i 0 : Nat) : Int) = l.getD i 0 := by
  have h1 : (txt l).cps.getD i 0 = (l.getD i 0).toNat := by
    unfold txt
    simp only [Array.getD_eq_getD_getElem?, List.getElem?_toArray, List.getElem?_map, List.getD_eq_getElem?_getD]
    rw [List.getElem?_eq_getElem hi]
    rfl
  rw [h1]
  have h2 : l.getD i 0 ∈ l := by
    rw [List.getD_eq_getElem?_getD, List.getElem?_eq_getElem hi]
    exact List.getElem_mem hi
  exact Int.toNat_of_nonneg (h0 _ h2)
theorem getD_out {l : List Int} {i : Nat} (hi : ¬ i < l.length) : l.getD i 0 = 0 := by
  rw [List.getD_eq_getElem?_getD, List.getElem?_eq_none (Nat.le_of_not_lt hi)]
  rfl
theorem item_code {l : List Int} {i : Nat} (h0 : ∀ c ∈ l, 0 ≤ c) (hi : (i : Int) < ((txt l).length : Int)) : (((Txt.item (txt l) (i : Int)).cps.getD 0 0 : Nat) : Int) = l.getD i 0 := by
  have hl : (txt l).length = l.length := txt_length l
  have hi' : i < l.length := by omega
  rw [item_meets ⟨by omega, hi⟩]
  have e : ((⟨#[(txt l).cps.getD (i : Int).toNat 0]⟩ : Str).cps.getD 0 0 : Nat) = (txt l).cps.getD i 0 := by simp
  rw [e]
  exact txt_at h0 hi'
theorem off_code {l : List Int} {i : Nat} (hi : ¬ (i : Int) < ((txt l).length : Int)) : (0 : Int) = l.getD i 0 := by
  have hl : (txt l).length = l.length := txt_length l
  rw [getD_out (by omega)]
theorem below_succ {P : Nat → Prop} {i : Nat} (h : ∀ j, j < i → P j) (hi : P i) : ∀ j, j < i + 1 → P j := fun j hj => by
  by_cases e : j = i
  · rw [e]; exact hi
  · exact h j (by omega)
theorem bad_due {op : Str} {l r : List Int} {i : Nat} {x : Int} (h : 1114111 < x) (e : x = dueAt op l r i) : 1114111 < dueAt op l r i := e ▸ h
theorem cong2 (f : Int → Int → Int) {a b c d : Int} (h1 : a = c) (h2 : b = d) : f a b = f c d := by rw [h1, h2]
theorem due_and (l r : List Int) (i : Nat) : dueAt (Str.ofString "&") l r i = Builtin.bitAnd (l.getD i 0) (r.getD i 0) := by
  unfold dueAt bitV
  rw [if_pos rfl]
theorem due_or (l r : List Int) (i : Nat) : dueAt (Str.ofString "|") l r i = Builtin.bitOr (l.getD i 0) (r.getD i 0) := by
  unfold dueAt bitV
  rw [if_neg (by decide), if_pos rfl]
theorem due_xor (l r : List Int) (i : Nat) : dueAt (Str.ofString "^") l r i = Builtin.bitXor (l.getD i 0) (r.getD i 0) := by
  unfold dueAt bitV
  rw [if_neg (by decide), if_neg (by decide)]
theorem due_snoc (op : Str) (l r : List Int) (i : Nat) : txt (dueN op l r i) ++ (⟨#[(dueAt op l r i).toNat]⟩ : Str) = txt (dueN op l r (i + 1)) := by
  rw [txt_snoc, dueN_succ]
theorem many_and {op : Str} (h : (op == Str.ofString "&") = true) {l r : List Int} : many op l r = min l.length r.length := by
  unfold many; rw [if_pos (beq_iff_eq.mp h)]
theorem many_no {op : Str} (h : (op == Str.ofString "&") = false) {l r : List Int} : many op l r = max l.length r.length := by
  unfold many; rw [if_neg (fun e => by rw [e] at h; simp at h)]
section
variable {prog : Program} {w : World} {A : Around} {E : Value → Shared → Prop} {s : Shared} {Q : Value → Shared → Prop}
theorem chr_due {op : Str} {l r : List Int} {i : Nat} {x : Int} {t : Tok} (e : x = dueAt op l r i) (h0 : 0 ≤ dueAt op l r i) (h1 : ¬ 1114111 < x) (h : dueAt op l r i ≤ 1114111 → Q (.str ⟨#[(dueAt op l r i).toNat]⟩ s.toks) { s with toks := s.toks + 1 }) :
    wpAny (model prog w) A (call (.builtin "chr") [.int x t]) Q E s := by
  subst e
  exact chr_of_range h0 (by omega) (h (by omega))
end
end Mine
-- part Die1
namespace Mine
set_option maxRecDepth 100000
set_option maxHeartbeats 8000000

section
variable {prog : Program} {w : World} {A : Around} {E : Value → Shared → Prop} {h : Heap} {g : Array GenState} {d : Drawn} {t : Nat} {os : OsState}
variable {nm q : Str} {C N P : Addr} {bs bm : List Value} {hdct : Bool} {sn : List Str} {sub : List Value} {ab : Bool} {col : Option Bool} {dd : Option Addr} {k0 k1 k2 k3 k5 : Option Value} {B newId initId : String}

theorem two_has {X : String} : (Value.ref C :: Value.ref P :: bm).contains (.type X) = bm.contains (.type X) := by
  rw [List.contains_cons, List.contains_cons]; rfl
theorem two_self : (Value.ref C :: Value.ref P :: bm).contains (.ref C) = true := by simp

theorem check_new_two (F : ExcBaseFacts B newId initId bm) {rest : List Value} {Q : Unit → Shared → Prop} (hC : h.get? C = some (excClassObj nm q C N bs (.ref P :: bm) hdct sn sub ab col dd k0 k1 k2 k3 k5 newId))
    (hq : Q () ⟨h, g, d, t, os⟩) : wpAny (model prog w) A (checkBuiltinCall newId ⟨.ref C :: rest, []⟩) Q E ⟨h, g, d, t, os⟩ := by
  have hcont : (Value.ref C :: Value.ref P :: bm).contains (.type B) = true := by rw [two_has, F.hasB]
  have hstar := F.noStar
  simp only [checkBuiltinCall, F.newKind, F.newSplit, F.newRow]
  repeat (first | refine wpAny_loadPart_at hC ?_ | (refine wpAny_isSubtype_exc hC ?_; rw [hcont]) | refine wpAny_staticBase_exc hC ?_ | refine wpAny_madeBy_exc hC ?_ | simp only [bne_self_eq_false, Bool.false_eq_true, if_false] | wp_step)
  exact hq

theorem exc_new_two (F : ExcBaseFacts B newId initId bm) {R : Result → Shared → Prop} {rest : List Value} (hC : h.get? C = some (excClassObj nm q C N bs (.ref P :: bm) hdct sn sub ab col dd k0 k1 k2 k3 k5 newId))
    (hq : R (.ok (.ret (.ref (h.objs.size + 1)))) ⟨(h.push { cls := .type "tuple", data := .seq rest.toArray }).push
      { cls := .ref C, data := .fields #[.ref h.objs.size, .none, .none, .none, .bool false, .none] }, g, d, t, os⟩) (hrest : rest.length ≤ sizeLine) :
    codeAny (model prog w) A (.builtin newId ⟨.ref C :: rest, []⟩) R ⟨h, g, d, t, os⟩ := by
  have hends := F.ends
  have hcB : (Value.ref C :: Value.ref P :: bm).contains (.type B) = true := by rw [two_has, F.hasB]
  have hcA : (Value.ref C :: Value.ref P :: bm).contains (.type "AttributeError") = false := by rw [two_has, F.noAttr]
  have hcN : (Value.ref C :: Value.ref P :: bm).contains (.type "NameError") = false := by rw [two_has, F.noName]
  refine codeAny_builtinAt F.entry ?_
  unfold Builtin.«BaseException.__new__»
  refine PySem.wpAt_bind ?_
  show PySem.wpAt _ _ _ (stack >>= _) _ _ _
  refine PySem.wpAt_bind (PySem.wpAt_stack fun p below => PySem.wpAt_of_wpAny ?_)
  wp_walk
  refine PySem.wpAt_of_wpAny ?_
  rw [F.owner]
  repeat (first | with_reducible refine wpAny_madeHere_exc F.canon hC ?_ | with_reducible refine wpAny_loadPart_at hC ?_ | (with_reducible refine wpAny_isSubtype_exc hC ?_; first | rw [hcB] | rw [hcA] | rw [hcN]) | wp_step)
  show R _ _
  rw [Heap.size_push]
  exact hq

theorem type_call_two (F : ExcBaseFacts B newId initId bm) {mN : Str → Option Value} {rest : List Value} {fI : Addr} {oI : Obj} {Q : Fin → Shared → Prop}
    (hC : h.get? C = some (excClassObj nm q C N bs (.ref P :: bm) hdct sn sub ab col dd k0 k1 k2 k3 k5 newId)) (hn : h.Ns N mN) (hi : mN "__init__" = some (.ref fI))
    (hfI : h.get? fI = some oI) (hfc : oI.cls = .type "function")
    (hq : ∀ h' e, Heap.MadeExcOf h h' e (.ref C) rest → 
      wpAny (model prog w) A (call (.ref fI) (.ref e :: rest)) (fun r s' => r = .none ∧ Q (.done (.ret (.ref e))) s') E ⟨h', g, d, t, os⟩) (hrest : rest.length ≤ sizeLine) :
    wpAny (model prog w) A (Builtin.«type.__call__» ⟨.ref C :: rest, []⟩) Q E ⟨h, g, d, t, os⟩ := by
  repeat (first | with_reducible refine wpAny_loadPart_at hC ?_ | with_reducible refine wpAny_madeBy_exc hC ?_ | wp_step)
  refine codeAny_call_builtin_code (Code.quiet_builtin _ F.quiet) (check_new_two F hC ?_)
  refine exc_new_two F hC ?_ hrest
  show wpAny _ _ _ _ _ _
  have hC₁ := Heap.get?_push_of_some { cls := .ref C, data := .fields #[.ref h.objs.size, .none, .none, .none, .bool false, .none] }
    (Heap.get?_push_of_some { cls := .type "tuple", data := .seq rest.toArray } hC)
  have hfI₁ := Heap.get?_push_of_some { cls := .ref C, data := .fields #[.ref h.objs.size, .none, .none, .none, .bool false, .none] }
    (Heap.get?_push_of_some { cls := .type "tuple", data := .seq rest.toArray } hfI)
  have hn₁ : ((h.push { cls := .type "tuple", data := .seq rest.toArray }).push { cls := .ref C, data := .fields #[.ref h.objs.size, .none, .none, .none, .bool false, .none] }).Ns N mN :=
    let ⟨o, es, ep, e, r⟩ := hn; ⟨o, es, ep, Heap.get?_push_of_some _ (Heap.get?_push_of_some _ e), r⟩
  have hget : ((h.push { cls := .type "tuple", data := .seq rest.toArray }).push
      { cls := .ref C, data := .fields #[.ref h.objs.size, .none, .none, .none, .bool false, .none] }).get? (h.objs.size + 1) = some
      { cls := .ref C, data := .fields #[.ref h.objs.size, .none, .none, .none, .bool false, .none] } := by heap_get
  have hcC := two_self (C := C) (P := P) (bm := bm)
  unfold isInstance
  repeat (first | with_reducible refine wpAny_loadPart_at hget ?_ | (with_reducible refine wpAny_isSubtype_exc hC₁ ?_; rw [hcC]) | wp_step)
  show wpAny _ _ (typeLookup (.ref C) _) _ _ _
  rw [typeLookup_eq]
  refine wpAny_bind (wpAny_mroOf_exc hC₁ ?_)
  rw [lookupAlong_cons]
  refine wpAny_bind (wpAny_classOwn_exc hC₁ hn₁ ?_)
  rw [hi]
  refine wpAny_pure ?_
  refine wpAny_holding (wpAny_bind ?_)
  unfold bindSpecial
  refine wpAny_bind (wpAny_typeOf (T := "function") ⟨_, hfI₁, hfc⟩ ?_)
  rw [if_pos (by decide)]
  refine wpAny_pure (wpAny_bind (wpAny_mono (hq _ (h.objs.size + 1) ⟨fun b o hb => Heap.get?_push_of_some _ (Heap.get?_push_of_some _ hb), Heap.get?_none_of_le (Nat.le_succ _), h.objs.size, hget, Heap.get?_none_of_le (Nat.le_refl _), ?_⟩) (fun r s' hr => ?_) fun _ _ x => x))
  · exact Heap.get?_push_of_some _ (Heap.get?_push_at rfl rfl)
  · obtain ⟨rfl, hQ⟩ := hr
    wp_walk
    exact hQ

theorem call_two (F : ExcBaseFacts B newId initId bm) {mN : Str → Option Value} {rest : List Value} {fI : Addr} {oI : Obj} {Q : Value → Shared → Prop}
    (hC : h.get? C = some (excClassObj nm q C N bs (.ref P :: bm) hdct sn sub ab col dd k0 k1 k2 k3 k5 newId)) (hn : h.Ns N mN) (hi : mN "__init__" = some (.ref fI))
    (hfI : h.get? fI = some oI) (hfc : oI.cls = .type "function")
    (hq : ∀ h' e, Heap.MadeExcOf h h' e (.ref C) rest →
      wpAny (model prog w) (A.under (.builtin "type.__call__" ⟨.ref C :: rest, []⟩)) (call (.ref fI) (.ref e :: rest)) (fun r s' => r = .none ∧ Q (.ref e) s') E ⟨h', g, d, t, os⟩) (hrest : rest.length ≤ sizeLine) :
    wpAny (model prog w) A (call (.ref C) rest) Q E ⟨h, g, d, t, os⟩ := by
  have f1 := tc_lookup
  have f2 := tc_bind (.ref C)
  have hT : (⟨h, g, d, t, os⟩ : Shared).TypeIs (.ref C) "type" := ⟨_, hC, rfl⟩
  refine wpAny_call (codeAny_of_tree ?_)
  show wpAny _ _ (callAny (.ref C) _) _ _ _
  repeat (any_goals (first | assumption | with_reducible refine wpAny_loadPart_at hC ?_ | wp_step))
  refine ⟨rfl, ?_⟩
  refine codeAny_call_builtin_at (Code.quiet_builtin _ (by decide +kernel)) entry_typeCall (wpAny_check_type_call_sub hC (type_call_two F hC hn hi hfI hfc (fun h' e hm => ?_) hrest))
  exact hq h' e hm

theorem check_init_two (F : ExcBaseFacts B newId initId bm) {e : Addr} {oe : Obj} {rest : List Value} {Q : Unit → Shared → Prop}
    (hC : h.get? C = some (excClassObj nm q C N bs (.ref P :: bm) hdct sn sub ab col dd k0 k1 k2 k3 k5 newId)) (he : h.get? e = some oe) (hcls : oe.cls = .ref C) (hq : Q () ⟨h, g, d, t, os⟩) :
    wpAny (model prog w) A (checkBuiltinCall initId ⟨.ref e :: rest, []⟩) Q E ⟨h, g, d, t, os⟩ := by
  have hcB : (Value.ref C :: Value.ref P :: bm).contains (.type B) = true := by rw [two_has, F.hasB]
  have hshort := F.noStar
  simp only [checkBuiltinCall, F.initKind, F.initSplit, F.initRow]
  repeat (first | (with_reducible refine wpAny_loadPart_at he ?_; rw [hcls]) | with_reducible refine wpAny_loadPart_at hC ?_ | (with_reducible refine wpAny_isSubtype_exc hC ?_; rw [hcB]) | wp_step)
  refine wpAny_onRaise ?_
  rw [show ∀ (a b : String) (n : Nat), Bind.check ⟨.positional, "*", B, .self, [⟨"args", .varPos, false⟩]⟩ a b n (List.map (fun x => x.fst) ({ pos := Value.ref e :: rest } : Args).kw) = pure () from
    fun a b n => check_star_args _ _ _ _ _ _]
  exact wpAny_pure hq

theorem init_two (F : ExcBaseFacts B newId initId bm) {e t0 : Addr} {x : Value} {Q : Value → Shared → Prop}
    (hC : h.get? C = some (excClassObj nm q C N bs (.ref P :: bm) hdct sn sub ab col dd k0 k1 k2 k3 k5 newId))
    (he : h.get? e = some { cls := .ref C, data := .fields #[.ref t0, .none, .none, .none, .bool false, .none] })
    (hq : ∀ h' t', (∀ b o, b ≠ e → h.get? b = some o → h'.get? b = some o) → h'.get? e = some { cls := .ref C, data := .fields #[.ref t', .none, .none, .none, .bool false, .none] } → Q .none ⟨h', g, d, t, os⟩) :
    wpAny (model prog w) A (call (.builtin initId) [.ref e, x]) Q E ⟨h, g, d, t, os⟩ := by
  refine wpAny_call (codeAny_call_builtin F.init.plain F.initEntry (check_init_two F hC he rfl ?_))
  have hrest : [x].length ≤ sizeLine := by rw [sizeLine_eq]; show 1 ≤ 16777216; decide
  wp_walk
  refine hq _ h.objs.size (fun b o hb eb => ?_) ?_
  · rw [Heap.get?_update_other _ _ (Ne.symm hb)]
    exact Heap.get?_push_of_some _ eb
  · exact Heap.get?_update_self _ (Heap.get?_push_of_some _ he) rfl
end
end Mine
-- part Die2
namespace Mine
example : True := by
  w_top off
  trivial
set_option maxRecDepth 100000
set_option maxHeartbeats 8000000
example : PySem.Challenge.rw_qz0090_01 = PySem.Challenge.rw_qz0090_01 ∧ hd.heap_1 = hd.heap_1 := by
  k_fill
  exact ⟨rfl, rfl⟩
noncomputable def Fine (P : Prop) : Prop := P
theorem Fine.out {P : Prop} (h : Fine P) : P := h

local macro_rules | `(tactic| k_room) => `(tactic| ktr_room)
local macro_rules | `(tactic| k_units) => `(tactic| ktr_units)
noncomputable abbrev excObj (t : Addr) : Obj := { cls := .ref 51, data := .fields #[.ref t, .none, .none, .none, .bool false, .none] }

theorem meta_Exception : typeOf (.type "Exception") = pure (.type "type") := by kernel_rfl
theorem init_K {prog : Program} {w : World} {A : Around} {E : Value → Shared → Prop} {s : Shared} {K : Frag} {h₀ : Heap} {L : Addr} {m : Str → Option Value} {e t : Addr} {x : Value} {Q : Value → Shared → Prop}
    {nm q : Str} {N P : Addr} {bs : List Value} {hdct : Bool} {sn : List Str} {sub : List Value} {ab : Bool} {col : Option Bool} {dd : Option Addr} {k0 k1 k2 k3 k5 : Option Value}
    (F : Fr h₀ L s.heap m) (N₁ : News h₀ L s.heap [(e, excObj t)]) (X : K.In h₀)
    (hC : K.lookup 51 = some (excClassObj nm q 51 N bs (.ref P :: [.type "Exception", .type "BaseException", .type "object"]) hdct sn sub ab col dd k0 k1 k2 k3 k5 "Exception.__new__"))
    (hq : ∀ h' t', Fr h₀ L h' m → News h₀ L h' [(e, excObj t')] → (∀ b o, b ≠ e → s.heap.get? b = some o → h'.get? b = some o) → Q .none { s with heap := h' }) :
    wpAny (model prog w) A (call (.builtin "Exception.__init__") [.ref e, x]) Q E s := by
  obtain ⟨h, g, d, tk, os⟩ := s
  have z := N₁ _ (List.Mem.head _)
  refine init_two PySem.F.excBase_Exception (F.keep _ _ (X _ _ hC)) z.1 fun h' t' hk he => ?_
  refine hq h' t' ⟨F.ns.at' fun o eo => hk L o (fun q => z.2.1 q.symm) eo, fun b o eb => hk b o (fun q => ?_) (F.keep b o eb), F.above⟩ (fun p hp => ?_) hk
  · rw [q] at eb
    rw [z.2.2] at eb
    cases eb
  · rw [List.mem_singleton.mp hp]
    exact ⟨he, z.2⟩
local macro_rules | `(tactic| walk_at "getMethod type:Exception") => `(tactic| (k_here; refine' method_type ?F ?X ?m (by decide +kernel) ?e ?h ?_; (case F => k_asm); (case X => k_asm); (case m => exact meta_Exception); (case e => k_dflt k_is); (case h => k_handed)))
local macro_rules | `(tactic| walk_at "call builtin:Exception.__init__") => `(tactic| (k_here; k_dflt (refine' init_K ?F ?N ?X ?C ?_; (case F => k_asm); (case N => k_asm); (case X => k_asm); (case C => k_is); k_whole); intro h' t' F' N' hk'))

theorem refuse_exc (self : Value) : refuseLoop self "__setattr__" [.ref 51, .ref 31, .type "Exception", .type "BaseException", .type "object"] = pure () := by
  rw [refuseLoop_ref, refuseLoop_ref]
  kernel_rfl
noncomputable def dieIn (K : Frag) : Prop := ∃ cd, clsIn K 51 = some cd ∧ cd.mro = [.ref 51, .ref 31, .type "Exception", .type "BaseException", .type "object"] ∧ cd.hasDict = true
theorem exc_open {prog : Program} {w : World} {A : Around} {s : Shared} {K : Frag} {R : Result → Shared → Prop} {x : Addr} {ox : Obj} {od : Option Obj} {name : Str} {tk : Tok} {v : Value} (X : K.In s.heap) (I : InstAt s.heap x ox 51 od) (hp : dieIn K) (ht : takerIn K 51 name = some none)
    (h : ∀ b, wpAny (model prog w) A.in1 (Builtin.ObjectAttr.storeInOwnDict (.ref x) (.ref 51) (.str name tk) name v b)
      (fun fin s' => match fin with | .done f => R (.ok f) s' | .again c' => c'.quiet = true ∧ codeAny (model prog w) A c' R s') (fun e s' => R (.error e) s') s) :
    codeAny (model prog w) A (.call (.builtin "object.__setattr__") ⟨[.ref x, .str name tk, v], []⟩) R s := by
  have SF := PySem.F.store_object
  obtain ⟨cd, hc, ho, _⟩ := hp
  have sub : Looks (model prog w) s.heap (isInstance (.ref x) (.type "object")) true := I.type.andThen (looks_mroIn X (by unfold mroIn; rw [hc, Option.bind_some, ho]; rfl))
  refine codeAny_call_builtin SF.slot.plain SF.entry (@check_slot (model prog w) _ _ s "object.__setattr__" "object" "__setattr__" (.ref x) [.str name tk, v] [] _ SF.kind SF.split sub (SF.args (.ref x) (.str name tk) v) ?_)
  obtain ⟨attr, ha, hr⟩ := Option.bind_eq_some_iff.mp ht
  have hm : Looks (model prog w) s.heap (mroOf (.ref 51)) cd.mro := (looks_clsIn X hc).andThen .now
  have L3 : Looks (model prog w) s.heap (Builtin.ObjectAttr.storeTaker? attr) none := by
    cases attr with
    | none => exact .now
    | some a =>
      obtain ⟨b, hb, hb'⟩ := Option.map_eq_some_iff.mp hr
      refine (looks_takesIn X hb).andThen ?_
      cases b with
      | true => cases hb'
      | false => exact .now
  rw [osa_eq, refuse_eq]
  refine wpAny_bind (wpAny_bind (I.type.here (wpAny_bind (hm.here ?_))))
  rw [ho, refuse_exc]
  exact wpAny_pure (wpAny_bind (I.type.here (wpAny_bind ((looks_findIn X ha).here (wpAny_bind (L3.here (h _)))))))

theorem exc_osa1 {prog : Program} {w : World} {A : Around} {s : Shared} {K : Frag} {h₀ : Heap} {L : Addr} {m : Str → Option Value} {e t : Addr} {name : Str} {v : Value} {tk : Tok} {R : Result → Shared → Prop}
    (F : Fr h₀ L s.heap m) (N : News h₀ L s.heap [(e, excObj t)]) (X : K.In s.heap)
    (hp : dieIn K) (ht : takerIn K 51 name = some none)
    (h : ∀ dx h', Fr h₀ L h' m → News h₀ L h' [(dx, dictOf [⟨PyData.keyHash w.params name, .str name s.toks, v⟩] 1), (e, { excObj t with dict := some dx })] → dx ≠ e → (∀ b o, b ≠ e → s.heap.get? b = some o → h'.get? b = some o) → R (.ok (.ret .none)) { s with heap := h', toks := s.toks + 1 }) :
    codeAny (model prog w) A (.call (.builtin "object.__setattr__") ⟨[.ref e, .str name tk, v], []⟩) R s := by
  have hx : s.heap.get? e = some (excObj t) := (N _ (List.Mem.head _)).1
  have I : InstAt s.heap e (excObj t) 51 none := ⟨hx, rfl, rfl, trivial⟩
  refine exc_open X I hp ht fun b => ?_
  obtain ⟨cd, hc, _, hd'⟩ := hp
  refine wpAny_bind (wpAny_pure (wpAny_bind (wpAny_bind (wpAny_loadPart hx (wpAny_bind ((looks_clsIn X hc).here ?_))))))
  rw [hd']
  have hlt : e < s.heap.objs.size := Heap.lt_size hx
  have hde : s.heap.objs.size ≠ e := Nat.ne_of_gt hlt
  have F1 := F.push (dictOf [] 0)
  have N1 := N.push F (dictOf [] 0)
  obtain ⟨F2, N2⟩ := news_upd (pre := [(s.heap.objs.size, dictOf [] 0)]) (post := []) (d := e) (o := excObj t) (o' := { excObj t with dict := some s.heap.objs.size }) (f := fun o => { o with dict := some s.heap.objs.size }) F1 N1
    (fun p hp => by rw [List.mem_singleton.mp hp]; exact hde) (fun _ hp => nomatch hp) rfl rfl
  obtain ⟨F3, N3⟩ := news_upd (pre := []) (post := [(e, { excObj t with dict := some s.heap.objs.size })]) (d := s.heap.objs.size) (o := dictOf [] 0) (o' := dictOf [⟨PyData.keyHash w.params name, .str name s.toks, v⟩] 1)
    (f := Obj.putName name (PyData.keyHash w.params name) (.str name s.toks) v) F2 N2 (fun _ hp => nomatch hp) (fun p hp => by rw [List.mem_singleton.mp hp]; exact hde.symm) (by rw [putName_dict]; rfl) rfl
  have D : ((s.heap.push (dictOf [] 0)).update e fun o => { o with dict := some s.heap.objs.size }).get? s.heap.objs.size = some (dictOf [] 0) := (N2 _ (List.Mem.head _)).1
  have D' := (N3 _ (List.Mem.head _)).1
  refine wpAny_mono (Q := fun a s' => a = some s.heap.objs.size ∧ s' = { s with heap := (s.heap.push (dictOf [] 0)).update e fun o => { o with dict := some s.heap.objs.size } }) ?_ (fun a s' hq => ?_) fun _ _ x => x
  · show wpAny _ _ (alloc (dictOf [] 0) >>= fun d => update e (fun o => { o with dict := some d }) >>= fun _ => pure (some d)) _ _ _
    refine wpAny_bind (wpAny_alloc (wpAny_bind (wpAny_updatePart (part := none) (Heap.get?_push_of_some _ hx) (wpAny_pure ⟨rfl, rfl⟩))))
  · obtain ⟨rfl, rfl⟩ := hq
    show wpAny _ _ (Builtin.ObjectAttr.storeInDict s.heap.objs.size (Value.str name tk) name v) _ _ _
    refine wpAny_bind (wpAny_pure (wpAny_bind ?_))
    unfold nsSet
    refine wpAny_bind (wpAny_bind (wpAny_askSetting (wpAny_pure (wpAny_bind (wpAny_mkText (wpAny_bind (wpAny_loadPart D ?_)))))))
    dsimp only
    have c : (!(([] : List DictEntry).toArray).any (·.key.isStr name) && (([] : List DictEntry).toArray).any (·.refKey)) = false := by simp
    rw [aRefKeyMayBeTheName_at, c]
    refine wpAny_updatePart D ?_
    refine wpAny_bind (wpAny_lookBehind D' (pastItsLine_dict (by rw [List.size_toArray, sizeLine_eq]; show 1 ≤ _; omega)) ?_)
    refine wpAny_pure (h _ _ F3 N3 hde fun b o hb eb => ?_)
    rw [Heap.get?_update_other _ _ (Nat.ne_of_gt (Heap.lt_size eb)), Heap.get?_update_other _ _ (Ne.symm hb)]
    exact Heap.get?_push_of_some _ eb

theorem exc_store1 {prog : Program} {w : World} {A : Around} {E : Value → Shared → Prop} {s : Shared} {K : Frag} {h₀ : Heap} {L : Addr} {m : Str → Option Value} {e t : Addr} {name : Str} {v : Value} {Q : Unit → Shared → Prop}
    (F : Fr h₀ L s.heap m) (N : News h₀ L s.heap [(e, excObj t)]) (X₀ : K.In h₀)
    (hs : findIn K (.ref 51) "__setattr__" = some (some (.builtin "object.__setattr__"))) (hp : dieIn K) (ht : takerIn K 51 name = some none)
    (h : ∀ dx h', Fr h₀ L h' m → News h₀ L h' [(dx, dictOf [⟨PyData.keyHash w.params name, .str name (s.toks + 1), v⟩] 1), (e, { excObj t with dict := some dx })] → dx ≠ e → (∀ b o, b ≠ e → s.heap.get? b = some o → h'.get? b = some o) → Q () { s with heap := h', toks := s.toks + 2 }) :
    wpAny (model prog w) A (setAttr (.ref e) name v) Q E s := by
  have X := X₀.keeps F.keep
  have hx : s.heap.get? e = some (excObj t) := (N _ (List.Mem.head _)).1
  have I : InstAt s.heap e (excObj t) 51 none := ⟨hx, rfl, rfl, trivial⟩
  exact set_plain X I hs (exc_osa1 (s := { s with toks := s.toks + 1 }) F N X hp ht fun dx h' F' N' hne hk => h dx h' F' N' hne hk)

theorem exc_osa2 {prog : Program} {w : World} {A : Around} {s : Shared} {K : Frag} {h₀ : Heap} {L : Addr} {m : Str → Option Value} {e t dx : Addr} {name : Str} {v : Value} {tk : Tok} {es : List DictEntry} {n : Nat} {R : Result → Shared → Prop}
    (F : Fr h₀ L s.heap m) (N : News h₀ L s.heap [(dx, dictOf es n), (e, { excObj t with dict := some dx })]) (hne : dx ≠ e) (X : K.In s.heap)
    (hp : dieIn K) (ht : takerIn K 51 name = some none) (hl : (es.any fun x => x.refKey) = false) (hz : (putL name (PyData.keyHash w.params name) (.str name s.toks) v es).length ≤ 1000)
    (h : ∀ es' n' h', Fr h₀ L h' m → News h₀ L h' [(dx, dictOf es' n'), (e, { excObj t with dict := some dx })] → R (.ok (.ret .none)) { s with heap := h', toks := s.toks + 1 }) :
    codeAny (model prog w) A (.call (.builtin "object.__setattr__") ⟨[.ref e, .str name tk, v], []⟩) R s := by
  have hx : s.heap.get? e = some { excObj t with dict := some dx } := (N _ (List.Mem.tail _ (List.Mem.head _))).1
  have D : s.heap.get? dx = some (dictOf es n) := (N _ (List.Mem.head _)).1
  have I : InstAt s.heap e { excObj t with dict := some dx } 51 (some (dictOf es n)) := ⟨hx, rfl, rfl, D⟩
  refine exc_open X I hp ht fun b => ?_
  obtain ⟨cd, hc, _, hd'⟩ := hp
  refine wpAny_bind (wpAny_pure (wpAny_bind (wpAny_bind (wpAny_loadPart hx (wpAny_bind ((looks_clsIn X hc).here ?_))))))
  rw [hd']
  obtain ⟨F3, N3⟩ := news_upd (pre := []) (post := [(e, { excObj t with dict := some dx })]) (d := dx) (o := dictOf es n) (o' := dictOf (putL name (PyData.keyHash w.params name) (.str name s.toks) v es) (putN name es n))
    (f := Obj.putName name (PyData.keyHash w.params name) (.str name s.toks) v) F N (fun _ hp => nomatch hp) (fun p hp => by rw [List.mem_singleton.mp hp]; exact hne.symm) (by rw [putName_dict]) rfl
  have D' := (N3 _ (List.Mem.head _)).1
  refine wpAny_pure (a := some dx) (wpAny_bind (wpAny_pure (wpAny_bind ?_)))
  unfold nsSet
  refine wpAny_bind (wpAny_bind (wpAny_askSetting (wpAny_pure (wpAny_bind (wpAny_mkText (wpAny_bind (wpAny_loadPart D ?_)))))))
  dsimp only
  have c : (!(es.toArray).any (·.key.isStr name) && (es.toArray).any (·.refKey)) = false := by
    rw [← Array.any_toList, ← Array.any_toList]
    show (_ && es.any fun x => x.refKey) = false
    rw [hl, Bool.and_false]
  rw [aRefKeyMayBeTheName_at, c]
  refine wpAny_updatePart D ?_
  refine wpAny_bind (wpAny_lookBehind D' (pastItsLine_dict (by rw [List.size_toArray, sizeLine_eq]; omega)) ?_)
  exact wpAny_pure (h _ _ _ F3 N3)

theorem exc_store2 {prog : Program} {w : World} {A : Around} {E : Value → Shared → Prop} {s : Shared} {K : Frag} {h₀ : Heap} {L : Addr} {m : Str → Option Value} {e t dx : Addr} {name : Str} {v : Value} {es : List DictEntry} {n : Nat} {Q : Unit → Shared → Prop}
    (F : Fr h₀ L s.heap m) (N : News h₀ L s.heap [(dx, dictOf es n), (e, { excObj t with dict := some dx })]) (hne : dx ≠ e) (X₀ : K.In h₀)
    (hs : findIn K (.ref 51) "__setattr__" = some (some (.builtin "object.__setattr__"))) (hp : dieIn K) (ht : takerIn K 51 name = some none) (hl : (es.any fun x => x.refKey) = false)
    (hz : (putL name (PyData.keyHash w.params name) (.str name (s.toks + 1)) v es).length ≤ 1000)
    (h : ∀ es' n' h', Fr h₀ L h' m → News h₀ L h' [(dx, dictOf es' n'), (e, { excObj t with dict := some dx })] → Q () { s with heap := h', toks := s.toks + 2 }) :
    wpAny (model prog w) A (setAttr (.ref e) name v) Q E s := by
  have X := X₀.keeps F.keep
  have hx : s.heap.get? e = some { excObj t with dict := some dx } := (N _ (List.Mem.tail _ (List.Mem.head _))).1
  have hdx : s.heap.get? dx = some (dictOf es n) := (N _ (List.Mem.head _)).1
  have I : InstAt s.heap e { excObj t with dict := some dx } 51 (some (dictOf es n)) := ⟨hx, rfl, rfl, hdx⟩
  exact set_plain X I hs (exc_osa2 (s := { s with toks := s.toks + 1 }) F N hne X hp ht hl hz fun es' n' h' F' N' => h es' n' h' F' N')
theorem die_in (w : World) : dieIn (hd.heap_1 w.params) := by
  refine ⟨_, (by k_is : clsIn (hd.heap_1 w.params) 51 = some _), ?_, ?_⟩ <;> rfl
local macro_rules | `(tactic| walk_at "setAttr ref") => `(tactic| (k_here; k_dflt (refine' exc_store1 ?F ?N ?X ?hs ?hp ?ht ?_; (case F => k_asm); (case N => k_asm); (case X => k_asm); (case hs => k_is); (case hp => exact die_in _); (case ht => exact rfl); k_whole); intro dx' h' F' N' hne' hk'))
local macro_rules | `(tactic| walk_at "setAttr ref") => `(tactic| (k_here; k_dflt (refine' exc_store2 ?F ?N ?hne ?X ?hs ?hp ?ht ?hl ?hz ?_; (case F => k_asm); (case N => k_asm); (case hne => k_asm); (case X => k_asm); (case hs => k_is); (case hp => exact die_in _); (case ht => exact rfl); (case hl => exact rfl); (case hz => exact Nat.le_of_ble_eq_true rfl); k_whole); intro es' n' h' F' N'))

theorem c_dieinit {w : World} {mean : ExcName → Option Value} {mg mb : Str → Option Value} {dp un : Nat} {gd : Option (List Code)} {cn : Str} {cs : Scope} {a : Addr} {ccd : Value} {cl : List (Str × Addr)} {outer : List Env} {A₀ : Around} {base h₀ : Heap} {L : Addr} {m : Str → Option Value} {s : Shared} {E : Value → Shared → Prop}
    (B : Below A₀ base outer h₀) (F : Fr h₀ L s.heap m) (X : (hd.heap_1 w.params).In h₀) (T : TOP mean mg mb h₀) (hk : cs.kind = .function) (hdp : dp + 20 < recursionLimit) (hun : un + 200 < cLine)
    (e t : Addr) (msg : Str) (tk : Tok) (N : News h₀ L s.heap [(e, excObj t)]) :
    wpAny (model PR w) (ktrTop dp un gd cn cs L a ccd cl outer) (call (.ref 48) [.ref e, .str msg tk])
      (fun v s' => Fine (v = .none ∧ Goes [e] s s' ∧ ∃ t' dx, s'.heap.get? e = some { excObj t' with dict := some dx })) E s := by
  refine wpAny_call ?_
  refine' code_defG ?k1 ?k2 ?k3 ?k4 ?k5 ?kA ?kF ?kK ?k6 ?k7 ?k8 ?k9 ?kB ?_ ?c2 ?c3 ?c4 ?c5
  case kA => exact rfl
  case kF => exact rfl
  case kK => assumption
  case k1 => k_asm
  case k2 => k_asm
  case k3 => k_asm
  case k4 => k_asm
  case k5 => k_asm
  case k6 => k_is
  case k7 => k_is
  case k8 => ktr_room
  case k9 => exact BindsTo.of_eq rfl
  case c5 => decide
  case kB => exact locs rfl
  case c2 => exact rfl
  case c3 => exact rfl
  case c4 => exact rfl
  intro g' L' h' FG' F' N' B' X' T' kG'
  dsimp only
  k_fold
  k_with_none
  k_steps
  rename News g' L' _ _ => Nz
  rename Fr g' L' _ _ => Fz
  have z := (Nz _ (List.Mem.tail _ (List.Mem.head _))).1
  exact ⟨rfl, ⟨_, _, rfl, fun b o hb eb => Fz.keep b o (kG' b o eb hb)⟩, _, _, z⟩
end Mine
-- part Fly
namespace Mine
set_option maxRecDepth 100000
set_option maxHeartbeats 8000000
/-- what holds of a Die's members on its way: it was raised with nothing handled -/
noncomputable def Calm (vs : Array Value) : Prop := (∃ a, vs[0]? = some a) ∧ vs[2]? = some .none
theorem Calm.set {vs : Array Value} (h : Calm vs) (x : Value) : Calm (vs.setIfInBounds 1 x) := by
  obtain ⟨⟨a, h0⟩, h2⟩ := h
  exact ⟨⟨a, by rw [Array.getElem?_setIfInBounds_ne (by decide)]; exact h0⟩, by rw [Array.getElem?_setIfInBounds_ne (by decide)]; exact h2⟩
/-- e is traced: its newest trace entry T says fl of the flight -/
noncomputable def Traced (base h : Heap) (e : Addr) (cls fl : Value) : Prop :=
  ∃ oe vs T oT ts, h.get? e = some oe ∧ oe.cls = cls ∧ Calm vs ∧ oe.data = .fields vs ∧ vs[1]? = some (.ref T) ∧ base.get? T = none ∧ T ≠ e ∧ h.get? T = some oT ∧ oT.data = .fields ts ∧ ts[3]? = some fl
noncomputable def Fly (base : Heap) (l : List Env) (e : Addr) (cls fl : Value) (h : Heap) : Prop :=
  base.StaysIn h ∧ base.get? e = none ∧ h.FunFrames base l ∧ Traced base h e cls fl
theorem Fly.tail {base h : Heap} {env : Env} {l : List Env} {e : Addr} {cls fl : Value} (x : Fly base (env :: l) e cls fl h) : Fly base l e cls fl h := ⟨x.1, x.2.1, x.2.2.1.2.2, x.2.2.2⟩
theorem Fly.there {base h : Heap} {l : List Env} {e : Addr} {cls fl : Value} (x : Fly base l e cls fl h) : ∃ ob vs, h.get? e = some ob ∧ ob.cls = cls ∧ ob.data = .fields vs ∧ Calm vs := by
  obtain ⟨_, _, _, oe, vs, _, _, _, he, hc, hP, hd, _⟩ := x
  exact ⟨oe, vs, he, hc, hd, hP⟩
theorem Fly.lower {base B h : Heap} (k : base.StaysIn B) {l : List Env} {e : Addr} {cls fl : Value} (x : Fly B l e cls fl h) : Fly base l e cls fl h := by
  obtain ⟨f1, f2, f3, oe, vs, T, oT, ts, a1, a2, aP, a3, a4, a5, a6⟩ := x
  exact ⟨fun b o q => f1 b o (k b o q), fresh_of_stays k f2, funFrames_base k f3, oe, vs, T, oT, ts, a1, a2, aP, a3, a4, fresh_of_stays k a5, a6⟩
section
variable {M : Model} {A : Around} {E : Value → Shared → Prop} {s : Shared} {base : Heap} {env : Env} {outer : List Env} {L e : Addr} {oe : Obj} {vs : Array Value} {Q : Unit → Shared → Prop}
theorem not_record {h : Heap} {x : Addr} {ox : Obj} {ws : Array Value} (hx : h.get? x = some ox) (hd : ox.data = .fields ws) : ∀ b o, h.get? b = some o → (∀ vs, o.data ≠ .fields vs) → b ≠ x := fun b o hb hn q => by
  rw [q, hx] at hb
  cases hb
  exact hn ws hd
theorem new_entry {head : Value} {hadNext : Bool} (hfr : A.frames = some (env :: outer)) (hl : s.heap.FunFrames base (env :: outer)) (hf : env.frame = some L)
    (he : s.heap.get? e = some oe) (hkb : base.StaysIn s.heap) (hen : base.get? e = none) (hd : oe.data = .fields vs) (hP : Calm vs) (hsz : 1 < vs.size)
    (h : ∀ h', Fly base (env :: outer) e oe.cls (rawInt L) h' → s.heap.UpToSlots h' → Q () { s with heap := h' }) :
    wpAny M A (do let a ← frameOf env; let pl ← entryPlaceOf L hadNext; let b ← EntryCells.newEntry head a .none (rawInt L) .none pl; setField (.ref e) 1 b) Q E s := by
  have off : e ∉ (env :: outer).filterMap (·.frame) := fun hm => by
    obtain ⟨_, o, ho, hnf⟩ := hl.mem hm
    rw [he] at ho
    cases ho
    exact hnf vs hd
  refine wpAny_bind (wpAny_frameOf_fun hfr hl hf fun h₁ hs₁ => ?_)
  refine wpAny_bind (wpAny_entryPlaceOf fun pl hpl => ?_)
  unfold EntryCells.newEntry newFields
  refine wpAny_bind (wpAny_newObj_type ?_ (hpl.sizeOk5 _ _ _ _ _))
  have e₁ : h₁.get? e = some oe := (hs₁.2.1 e off).trans he
  have k₁ : base.StaysIn h₁ := fun b o hb => (hs₁.2.1 b fun hm => by rw [(hl.mem hm).1] at hb; cases hb).trans (hkb b o hb)
  have ne : h₁.objs.size ≠ e := Nat.ne_of_gt (Heap.lt_size e₁)
  have hts : ((([head, .ref L, .none, rawInt L, .none] ++ (if pl.isEmpty then List.replicate 6 Value.none else pl)).toArray : Array Value))[3]? = some (rawInt L) := by
    first | (simp; done) | (rcases hpl with rfl | ⟨_, _, _, _, _, _, _, rfl⟩ <;> simp)
  generalize ([head, .ref L, .none, rawInt L, .none] ++ (if pl.isEmpty then List.replicate 6 Value.none else pl)).toArray = ts at hts ⊢
  have e₂ := Heap.get?_push_of_some (h := h₁) { cls := .type "traceback", dict := none, data := .fields ts } e₁
  have hd₃ := Obj.data_mapFields hd (·.setIfInBounds 1 (Value.ref h₁.objs.size))
  have e₃ := Heap.get?_update_self (Obj.mapFields (·.setIfInBounds 1 (Value.ref h₁.objs.size))) e₂ (Obj.isFreed_of_fields hd₃)
  have t₃ := (Heap.get?_update_other (h₁.push { cls := .type "traceback", dict := none, data := .fields ts }) (Obj.mapFields (·.setIfInBounds 1 (Value.ref h₁.objs.size))) (Ne.symm ne)).trans (Heap.get?_push_size h₁ rfl)
  have keep : ∀ b o, b ≠ e → h₁.get? b = some o → ((h₁.push { cls := .type "traceback", dict := none, data := .fields ts }).update e (Obj.mapFields (·.setIfInBounds 1 (Value.ref h₁.objs.size)))).get? b = some o := fun b o hbe hb => by
    rw [Heap.get?_update_other _ _ (Ne.symm hbe)]
    exact Heap.get?_push_of_some _ hb
  have apart := not_record he hd
  have slots : s.heap.UpToSlots ((h₁.push { cls := .type "traceback", dict := none, data := .fields ts }).update e (Obj.mapFields (·.setIfInBounds 1 (Value.ref h₁.objs.size)))) := fun b o hb hn => by
    obtain ⟨sl, hs⟩ := hs₁.2.2 b o hb
    exact ⟨sl, keep b _ (apart b o hb hn) hs⟩
  refine wpAny_setField e₂ hd hsz (h _ ⟨fun b o hb => keep b o (fun q => by rw [q, hen] at hb; cases hb) (k₁ b o hb), hen, hl.of_keeps fun b o hb hn => ?_, ?_⟩ slots)
  · obtain ⟨sl, hs⟩ := slots b o hb hn
    exact ⟨_, hs, rfl⟩
  · exact ⟨_, _, h₁.objs.size, _, _, e₃, Obj.cls_mapFields _ _, hP.set _, hd₃, by simp [hsz], k₁.fresh, ne, t₃, rfl, hts⟩
theorem look_first (hfr : A.frames = some (env :: outer)) (hl : s.heap.FunFrames base (env :: outer)) (hf : env.frame = some L)
    (he : s.heap.get? e = some oe) (hkb : base.StaysIn s.heap) (hen : base.get? e = none) (hd : oe.data = .fields vs) (hP : Calm vs) (h1 : vs[1]? = some .none)
    (h : ∀ h', Fly base (env :: outer) e oe.cls (rawInt L) h' → s.heap.UpToSlots h' → Q () { s with heap := h' }) : wpAny M A (noteFrame (.ref e) env) Q E s := by
  unfold noteFrame
  simp only [hf]
  refine wpAny_bind (wpAny_field he hd h1 ?_)
  rw [if_neg (by decide)]
  exact new_entry hfr hl hf he hkb hen hd hP (Array.getElem?_eq_some_iff.mp h1).1 h
theorem look_on {cls : Value} (hfr : A.frames = some (env :: outer)) (hf : env.frame = some L) (x : Fly base (env :: outer) e cls .none s.heap)
    (h : ∀ h', Fly base (env :: outer) e cls (rawInt L) h' → s.heap.UpToSlots h' → Q () { s with heap := h' }) : wpAny M A (noteFrame (.ref e) env) Q E s := by
  obtain ⟨hkb, hen, hl, oe, vs, T, oT, ts, he, hcls, hP, hd, h1, hnT, hTe, hT, hdT, h3⟩ := x
  subst hcls
  unfold noteFrame
  simp only [hf]
  refine wpAny_bind (wpAny_field he hd h1 ?_)
  rw [if_pos (show (Value.ref T != Value.none) = true from by simp)]
  refine wpAny_bind (wpAny_field hT hdT h3 ?_)
  rw [if_neg (show ¬ ((Value.none == rawInt L) = true) from by simp [rawInt])]
  refine wpAny_bind (wpAny_setField hT hdT (Array.getElem?_eq_some_iff.mp h3).1 ?_)
  have same : ∀ b, b ≠ T → (s.heap.update T (Obj.mapFields (·.setIfInBounds 3 Value.none))).get? b = s.heap.get? b := fun b hb => Heap.get?_update_other _ _ (Ne.symm hb)
  have apart := not_record hT hdT
  refine new_entry hfr (hl.of_keeps fun b o hb hn => ⟨o, (same b (apart b o hb hn)).trans hb, rfl⟩) hf ((same e (Ne.symm hTe)).trans he)
    (fun b o hb => (same b fun q => by rw [q, hnT] at hb; cases hb).trans (hkb b o hb)) hen hd hP (Array.getElem?_eq_some_iff.mp h1).1
    fun h' x1 x2 => h h' x1 fun b o hb hn => x2 b o ((same b (apart b o hb hn)).trans hb) hn
theorem land {l : List Env} {cls fl : Value} (x : Fly base l e cls fl s.heap) (h : ∀ h', Fly base l e cls .none h' → s.heap.UpToSlots h' → Q () { s with heap := h' }) : wpAny M A (setFlight (.ref e) none) Q E s := by
  obtain ⟨hkb, hen, hl, oe, vs, T, oT, ts, he, hcls, hP, hd, h1, hnT, hTe, hT, hdT, h3⟩ := x
  have hsz := (Array.getElem?_eq_some_iff.mp h3).1
  have same : ∀ b, b ≠ T → (s.heap.update T (Obj.mapFields (·.setIfInBounds 3 ((none : Option Addr).elim Value.none fun f => rawInt f)))).get? b = s.heap.get? b := fun b hb => Heap.get?_update_other _ _ (Ne.symm hb)
  have apart := not_record hT hdT
  unfold setFlight
  refine wpAny_bind (wpAny_field he hd h1 ?_)
  rw [if_pos (show (Value.ref T != Value.none) = true from by simp)]
  refine wpAny_setField hT hdT hsz (h _ ⟨fun b o hb => (same b fun q => by rw [q, hnT] at hb; cases hb).trans (hkb b o hb), hen, hl.of_keeps fun b o hb hn => ⟨o, (same b (apart b o hb hn)).trans hb, rfl⟩, ?_⟩
    fun b o hb hn => ⟨o.slots, (same b (apart b o hb hn)).trans hb⟩)
  exact ⟨oe, vs, T, _, _, (same e (Ne.symm hTe)).trans he, hcls, hP, hd, h1, hnT, hTe, Heap.get?_update_self _ hT (Obj.isFreed_of_fields (Obj.data_mapFields hdT _)), Obj.data_mapFields hdT _, by simp [hsz]⟩
theorem leave_one (hfr : A.frames = some (env :: outer)) (hl : s.heap.FunFrames base (env :: outer)) (hf : env.frame = some L)
    (he : s.heap.get? e = some oe) (hkb : base.StaysIn s.heap) (hen : base.get? e = none) (hd : oe.data = .fields vs) (hP : Calm vs) (h1 : vs[1]? = some .none)
    (h : ∀ h', Fly base outer e oe.cls .none h' → s.heap.UpToSlots h' → Q () { s with heap := h' }) : wpAny M A (leaving env (.ref e)) Q E s := by
  unfold leaving
  refine wpAny_bind (look_first hfr hl hf he hkb hen hd hP h1 fun h₁ x₁ u₁ => ?_)
  exact land x₁ fun h₂ x₂ u₂ => h h₂ x₂.tail (u₁.trans u₂)
theorem leave_more {cls : Value} (hfr : A.frames = some (env :: outer)) (hf : env.frame = some L) (x : Fly base (env :: outer) e cls .none s.heap)
    (h : ∀ h', Fly base outer e cls .none h' → s.heap.UpToSlots h' → Q () { s with heap := h' }) : wpAny M A (leaving env (.ref e)) Q E s := by
  unfold leaving
  refine wpAny_bind (look_on hfr hf x fun h₁ x₁ u₁ => ?_)
  exact land x₁ fun h₂ x₂ u₂ => h h₂ x₂.tail (u₁.trans u₂)
end
end Mine
-- part Die3
namespace Mine
set_option maxRecDepth 100000
set_option maxHeartbeats 8000000

example : PySem.Challenge.rw_qz0090_01 = PySem.Challenge.rw_qz0090_01 ∧ hd.heap_1 = hd.heap_1 := by
  k_fill
  exact ⟨rfl, rfl⟩

theorem funFrames_on {h base B : Heap} : ∀ {l : List Env}, h.FunFrames base l → (∀ env ∈ l, ∀ b, env.frame = some b → B.get? b = none) → h.FunFrames B l
  | [], _, _ => trivial
  | env :: _, ⟨hk, ⟨L, o, hf, _, ho, hd⟩, hr⟩, hin => ⟨hk, ⟨L, o, hf, hin env (.head _) L hf, ho, hd⟩, funFrames_on hr fun e he => hin e (.tail _ he)⟩

noncomputable def framesOf (l : List Env) : List Addr := l.filterMap (·.frame)

/-- the exception e, a Die, flies above the frames of l; what the heap held stands, but for the frames' slots -/
noncomputable def DieUp (l : List Env) (s s' : Shared) (e : Addr) : Prop :=
  ∃ h' tk B, s' = { s with heap := h', toks := tk } ∧ Fly B l e (.ref 51) .none h' ∧ s.heap.UpToSlots h' ∧ ∀ b o, s.heap.get? b = some o → b ∉ framesOf l → B.get? b = some o

section
variable {M : Model} {A : Around} {E : Value → Shared → Prop} {s' : Shared} {base g h : Heap} {outer : List Env} {L a e : Addr} {m : Str → Option Value} {name : Str} {scope : Scope} {cd : Value} {Q : Unit → Shared → Prop}
theorem leave_first {oe : Obj} {vs : Array Value} (K : Below A base outer g) (F : Fr g L s'.heap m) (he : s'.heap.get? e = some oe) (hcls : oe.cls = .ref 51) (hd : oe.data = .fields vs) (h1 : vs[1]? = some .none) (h0 : Calm vs) (hnew : g.get? e = none)
    (hQ : ∀ h', Fly (hideAll g (framesOf outer)) outer e (.ref 51) .none h' → g.UpToSlots h' → Q () { s' with heap := h' }) (hk : scope.kind = .function) :
    wpAny M (A.deeper (envOf name scope L a cd)) (leaving (envOf name scope L a cd) (.ref e)) Q E s' := by
  have K' := K.push (name := name) (a := a) (cd := cd) F hk
  have hin : ∀ env ∈ (envOf name scope L a cd :: outer), ∀ b, env.frame = some b → (hideAll g (framesOf outer)).get? b = none := fun env hm b hb => by
    rcases List.mem_cons.mp hm with rfl | hm
    · have hbL : L = b := Option.some.inj hb
      subst hbL
      cases q : (hideAll g (framesOf outer)).get? L with
      | none => rfl
      | some o => exact absurd (Heap.lt_size (of_hideAll _ q)) (Nat.not_lt.mpr F.above)
    · exact hideAll_none _ (List.mem_filterMap.mpr ⟨env, hm, hb⟩)
  have hen : (hideAll g (framesOf outer)).get? e = none := by
    cases q : (hideAll g (framesOf outer)).get? e with
    | none => rfl
    | some o => have := of_hideAll _ q; rw [hnew] at this; cases this
  refine leave_one K'.stack (funFrames_on K'.frames hin) rfl he (fun b o q => F.keep b o (of_hideAll _ q)) hen hd h0 h1 fun h' hL hs => ?_
  rw [hcls] at hL
  exact hQ h' hL ((Heap.UpToSlots.of_keeps F.keep).trans hs)
end

noncomputable def Thrown (E : Value → Shared → Prop) (v : Value) (s₁ : Shared) : Prop :=
  ∃ e t dx, v = .ref e ∧ s₁.heap.get? e = some { excObj t with dict := some dx } ∧ E (.ref e) s₁

section
variable {prog : Program} {w : World} {A : Around} {E : Value → Shared → Prop} {env : Env}
variable {nm q : Str} {N P : Addr} {bs : List Value} {hdct : Bool} {sn : List Str} {sub : List Value} {ab : Bool} {col : Option Bool} {dd : Option Addr} {k0 k1 k2 k3 k5 : Option Value}
theorem raiseStmt_die {s : Shared} {x : Sem Value} {Q : Flow → Shared → Prop} (hh : A.handled = none)
    (h : wpAny (model prog w) A x (fun v s₁ => s₁.heap.get? 51 = some (excClassObj nm q 51 N bs (.ref P :: [.type "Exception", .type "BaseException", .type "object"]) hdct sn sub ab col dd k0 k1 k2 k3 k5 "Exception.__new__") ∧ Thrown E v s₁) E s) :
    wpAny (model prog w) A (raiseStmt env (some x) none) Q E s := by
  have hcB : (Value.ref 51 :: Value.ref P :: [.type "Exception", .type "BaseException", .type "object"]).contains (.type "BaseException") = true := by rw [two_has]; rfl
  unfold raiseStmt
  refine wpAny_bind (wpAny_mono h (fun v s₁ h₁ => ?_) fun _ _ x => x)
  obtain ⟨hC, e, t, dx, rfl, he, hE⟩ := h₁
  obtain ⟨hp, g, d, tk, os⟩ := s₁
  repeat (first | with_reducible refine wpAny_loadPart_at he ?_ | with_reducible refine wpAny_loadPart_at hC ?_ | (with_reducible refine wpAny_isSubtype_exc hC ?_; rw [hcB]) | wp_step)
  exact wpAny_raiseNew_none hh hE

noncomputable def ThrownK (K : Frag) (E : Value → Shared → Prop) (v : Value) (s₁ : Shared) : Prop := K.In s₁.heap ∧ Thrown E v s₁
theorem Raise_die {K : Frag} {s : Shared} {x : Expr} {pos : Pos} {Q : Flow → Shared → Prop} {h₀ : Heap} (_X : K.In h₀) (hh : A.handled = none)
    (hC : K.lookup 51 = some (excClassObj nm q 51 N bs (.ref P :: [.type "Exception", .type "BaseException", .type "object"]) hdct sn sub ab col dd k0 k1 k2 k3 k5 "Exception.__new__"))
    (h : wpAny (model prog w) A (eval x env) (ThrownK K E) E s) :
    wpAny (model prog w) A (exec (.Raise (some x) none pos) env) Q E s := by
  rw [arm_exec_Raise]
  simp only [evalOpt, Option.map]
  refine wpAny_bind (wpAny_standAt (raiseStmt_die hh (wpAny_bind (wpAny_mono h (fun v s₁ h₁ => wpAny_bind (wpAny_standAt (wpAny_pure ⟨h₁.1 _ _ hC, h₁.2⟩))) fun _ _ x => x))))
end

theorem ns_some_of {K : Frag} {h : Heap} {N : Addr} {mg : Str → Option Value} {n : Str} {v : Value} (X : K.In h) (G : h.Ns N mg) (e : nsIn K N n = some (some v)) : mg n = some v := by
  obtain ⟨o, es, ep, ho, hd, _, hf⟩ := G
  unfold nsIn at e
  split at e
  · rename_i c d es' n' sl q
    have := X _ _ q
    rw [ho] at this
    cases this
    cases hd
    split at e
    · rename_i en he
      cases e
      rw [← hf]
      unfold nsFind findBy
      rw [← Array.find?_toList, he]
      rfl
    · split at e <;> cases e
  · cases e

noncomputable def DieMade (s : Shared) (v : Value) (s' : Shared) : Prop :=
  ∃ e t dx h' tk, v = .ref e ∧ s' = { s with heap := h', toks := tk } ∧ (∀ b o, s.heap.get? b = some o → h'.get? b = some o) ∧ s.heap.get? e = none ∧ h'.get? e = some { excObj t with dict := some dx }

theorem call_die {w : World} {mean : ExcName → Option Value} {mg mb : Str → Option Value} {dp un : Nat} {gd : Option (List Code)} {cn : Str} {cs : Scope} {a : Addr} {ccd : Value} {cl : List (Str × Addr)} {outer : List Env} {A₀ : Around} {base h₀ : Heap} {L : Addr} {m : Str → Option Value} {s : Shared} {E : Value → Shared → Prop}
    (B : Below A₀ base outer h₀) (F : Fr h₀ L s.heap m) (X : (hd.heap_1 w.params).In h₀) (T : TOP mean mg mb h₀) (hk : cs.kind = .function) (hdp : dp + 30 < recursionLimit) (hun : un + 300 < cLine)
    (msg : Str) (tk : Tok) :
    wpAny (model PR w) (ktrTop dp un gd cn cs L a ccd cl outer) (call (.ref 51) [.str msg tk]) (DieMade s) E s := by
  obtain ⟨h, g, d, t, os⟩ := s
  have Xs := X.keeps F.keep
  have hN : h.Ns 50 (h.nsMap 50) := .of_isNs (isNs_of_in Xs (by kernel_rfl))
  have hi : h.nsMap 50 "__init__" = some (.ref 48) := ns_some_of Xs hN (by k_is)
  obtain ⟨oI, hI, hf⟩ : ∃ o, (hd.heap_1 w.params).lookup 48 = some o ∧ o.cls = .type "function" := by
    refine ⟨_, (by k_is : (hd.heap_1 w.params).lookup 48 = some _), ?_⟩
    rfl
  refine' call_two PySem.F.excBase_Exception (Xs _ _ ?hC) hN hi (Xs _ _ hI) hf ?hq ?hr
  case hC => k_is
  case hr => rw [sizeLine_eq]; show 1 ≤ 16777216; decide
  intro h' e hm
  obtain ⟨t', he, _, _⟩ := hm.there
  have F' : Fr h₀ L h' m := F.keeps hm.keeps
  have heL : e ≠ L := fun q => by
    have := hm.new
    obtain ⟨o, _, _, ho, _⟩ := F.ns
    rw [q] at this
    exact nomatch (this.symm.trans ho)
  have he0 : h₀.get? e = none := by
    cases q : h₀.get? e with
    | none => rfl
    | some o => exact nomatch (hm.new.symm.trans (F.keep _ _ q))
  have N' : News h₀ L h' [(e, excObj t')] := fun p hp => by
    rw [List.mem_singleton.mp hp]
    exact ⟨he, heL, he0⟩
  have key := c_dieinit (w := w) (dp := dp + 1) (un := un + 1) (gd := gd) (cn := cn) (a := a) (ccd := ccd) (cl := cl) (s := ⟨h', g, d, t, os⟩) (E := E) B F' X T hk (by omega) (by omega) e t' msg tk N'
  have eA : (ktrTop dp un gd cn cs L a ccd cl outer).under (.builtin "type.__call__" ⟨.ref 51 :: [.str msg tk], []⟩) = ktrTop (dp + 1) (un + 1) gd cn cs L a ccd cl outer := by rfl
  rw [eA]
  refine wpAny_mono key (fun v s' hq => ?_) fun _ _ x => x
  obtain ⟨hv, ⟨h2, tk2, rfl, hk2⟩, t2, dx, he2⟩ := hq
  refine ⟨hv, e, t2, dx, h2, tk2, rfl, rfl, fun b o eb => hk2 b o (fun hb => ?_) (hm.keeps b o eb), hm.new, he2⟩
  rw [List.mem_singleton.mp hb] at eb
  exact nomatch (hm.new.symm.trans eb)

theorem die_end {prog : Program} {w : World} {K : Frag} {A : Around} {base g' : Heap} {outer' : List Env} {L' a : Addr} {m' : Str → Option Value} {name : Str} {scope : Scope} {cd : Value} {s s₁ s' : Shared} {v : Value} {E : Value → Shared → Prop} {E2 : Value → Value → Shared → Prop}
    (B' : Below A base outer' g') (F : Fr g' L' s₁.heap m') (X' : K.In g') (hkg : ∀ b o, s.heap.get? b = some o → g'.get? b = some o) (hs : s₁ = { s with heap := s₁.heap, toks := s₁.toks }) (hd : DieMade s₁ v s') (hk : scope.kind = .function)
    (hQ : ∀ e s'', DieUp outer' s s'' e → E (.ref e) s'') :
    ThrownK K (fun e s' => wpAny (model prog w) (A.deeper (envOf name scope L' a cd)) (leaving (envOf name scope L' a cd) e) (fun _ s'' => E e s'') (E2 e) s') v s' := by
  obtain ⟨e, t, dx, h', tk, rfl, rfl, hkeep, hnew, he⟩ := hd
  have F' : Fr g' L' h' m' := F.keeps hkeep
  refine ⟨X'.keeps F'.keep, e, t, dx, rfl, he, ?_⟩
  have hgnew : g'.get? e = none := by
    cases q : g'.get? e with
    | none => rfl
    | some o => exact nomatch (hnew.symm.trans (F.keep _ _ q))
  refine leave_first B' F' he rfl rfl rfl ⟨⟨_, rfl⟩, rfl⟩ hgnew (fun h'' hfl hup => hQ e _ ⟨h'', tk, _, ?_, hfl, (Heap.UpToSlots.of_keeps hkg).trans hup, fun b o eb hb => hideAll_get _ (hkg b o eb) hb⟩) hk
  rw [hs]

theorem die_pass {prog : Program} {w : World} {A : Around} {base g' : Heap} {outer' : List Env} {L' a e : Addr} {m' : Str → Option Value} {name : Str} {scope : Scope} {cd : Value} {s s₁ s' : Shared} {E : Value → Shared → Prop} {E2 : Value → Shared → Prop}
    (B' : Below A base outer' g') (F : Fr g' L' s₁.heap m') (hkg : ∀ b o, s.heap.get? b = some o → g'.get? b = some o) (hs : s₁ = { s with heap := s₁.heap, toks := s₁.toks })
    (hup : DieUp (envOf name scope L' a cd :: outer') s₁ s' e) (hQ : ∀ s'', DieUp outer' s s'' e → E (.ref e) s'') :
    wpAny (model prog w) (A.deeper (envOf name scope L' a cd)) (leaving (envOf name scope L' a cd) (.ref e)) (fun _ s'' => E (.ref e) s'') E2 s' := by
  obtain ⟨h', tk, B, rfl, hfl, hus, hB⟩ := hup
  refine leave_more (Around.frames_deeper B'.stack) rfl hfl fun h'' hfl' hus' => hQ _ ⟨h'', tk, B, ?_, hfl', ?_, fun b o eb hb => hB b o (F.keep b o (hkg b o eb)) fun hm => ?_⟩
  · rw [hs]
  · exact ((Heap.UpToSlots.of_keeps fun b o eb => F.keep b o (hkg b o eb)).trans hus).trans hus'
  · have hm' : b ∈ L' :: framesOf outer' := hm
    rcases List.mem_cons.mp hm' with q | q
    · have h1 := Heap.lt_size (hkg b o eb)
      rw [q] at h1
      exact absurd h1 (Nat.not_lt.mpr F.above)
    · exact hb q

noncomputable def BitsOk (op : Str) (l r : List Int) (s : Shared) (v : Value) (s' : Shared) : Prop :=
  (∀ j, j < many op l r → dueAt op l r j ≤ 1114111) ∧ Goes [] s s' ∧ ∃ t, v = .str (txt (dueN op l r (many op l r))) t
noncomputable def BitsBad (op : Str) (l r : List Int) (fr : List Env) (s : Shared) (v : Value) (s' : Shared) : Prop :=
  (∃ i, i < many op l r ∧ 1114111 < dueAt op l r i) ∧ ∃ e, v = .ref e ∧ DieUp fr s s' e
end Mine
-- part C2
namespace Mine
example : True := by
  w_top off
  trivial
set_option maxRecDepth 100000
set_option maxHeartbeats 8000000
example : PySem.Challenge.rw_qz0090_01 = PySem.Challenge.rw_qz0090_01 ∧ hd.heap_1 = hd.heap_1 := by
  k_fill
  exact ⟨rfl, rfl⟩
local macro_rules | `(tactic| walk_at "pyIter ref") => `(tactic| k_extra "my pyIter")
local macro_rules | `(tactic| walk_at "InvPostN") => `(tactic| k_extra "my turn")
local macro_rules | `(tactic| walk_at "InvEndN") => `(tactic| k_extra "my turn")

local macro_rules | `(tactic| k_room) => `(tactic| ktr_room)
local macro_rules | `(tactic| k_units) => `(tactic| ktr_units)
local macro_rules | `(tactic| walk_at "exec Raise some none") => `(tactic| (k_here; k_dflt (refine' Raise_die ?X ?hh ?hC ?_; (case X => k_asm); (case hh => rfl); (case hC => k_is); k_whole)))
local macro_rules | `(tactic| walk_at "call ref") => `(tactic| (k_here; (with_reducible show wpAny _ _ (call (Value.ref 51) _) _ _ _); k_dflt (refine' wpAny_mono (call_die ?B ?F ?X ?T ?hk ?hdp ?hun _ _) ?_ (fun _ _ x => x); (case B => k_asm); (case F => k_asm); (case X => k_asm); (case T => k_asm); (case hk => exact rfl); (case hdp => k_extra "my room"); (case hun => k_extra "my room"))))
local macro_rules | `(tactic| walk_at "call builtin:chr") => `(tactic| k_extra "my chr")

theorem c_bits_and {w : World} {mean : ExcName → Option Value} {mg mb : Str → Option Value} {dp un : Nat} {gd : Option (List Code)} {cn : Str} {cs : Scope} {a : Addr} {ccd : Value} {cl : List (Str × Addr)} {outer : List Env} {A₀ : Around} {base h₀ : Heap} {L : Addr} {m : Str → Option Value} {s : Shared} 
    (B : Below A₀ base outer h₀) (F : Fr h₀ L s.heap m) (X : (hd.heap_1 w.params).In h₀) (T : TOP mean mg mb h₀) (hk : cs.kind = .function) (hdp : dp + 40 < recursionLimit) (hun : un + 400 < cLine)
    (l r : List Int) (t0 t1 t2 : Tok) (hx : l.length ≤ 4) (hy : r.length ≤ 4) (hl : ∀ c ∈ l, 0 ≤ c) (hr : ∀ c ∈ r, 0 ≤ c) (hpos : ∀ i, 0 ≤ dueAt (Str.ofString "&") l r i) :
    wpAny (model PR w) (ktrTop dp un gd cn cs L a ccd cl outer) (call (.ref 298) [.str (Str.ofString "&") t0, .str (txt l) t1, .str (txt r) t2])
      (BitsOk (Str.ofString "&") l r s)
      (BitsBad (Str.ofString "&") l r (envX cn cs L a ccd cl :: outer) s) s := by
  have N : News h₀ L s.heap [] := News.nil
  have hx1 := txt_length l
  have hy1 := txt_length r
  have hm4 : many (Str.ofString "&") l r ≤ 4 := by unfold many; rw [if_pos rfl]; omega
  have hm1 : many (Str.ofString "&") l r = min l.length r.length := rfl
  refine wpAny_call ?_
  refine' code_defG ?k1 ?k2 ?k3 ?k4 ?k5 ?kA ?kF ?kK ?k6 ?k7 ?k8 ?k9 ?kB ?_ ?c2 ?c3 ?c4 ?c5
  case kA => exact rfl
  case kF => exact rfl
  case kK => assumption
  case k1 => k_asm
  case k2 => k_asm
  case k3 => k_asm
  case k4 => k_asm
  case k5 => k_asm
  case k6 => k_is
  case k7 => k_is
  case k8 => ktr_room
  case k9 => exact BindsTo.of_eq rfl
  case c5 => decide
  case kB => exact locs rfl
  case c2 => exact rfl
  case c3 => exact rfl
  case c4 => exact rfl
  intro g' L' h' FG' F' N' B' X' T' kG'
  dsimp only
  k_fold
  k_with_none
  k_with "my room" => ((try dsimp only [ktrTop]); (try simp only [depth_deeper, units_deeper]); omega)
  k_with "my pyIter" => ((rename Fr _ _ _ _ => lF); (rename News _ _ _ _ => lN); (rename IsRange _ _ _ _ _ _ _ _ => rgX); (with_unfolding_all refine' rangeLoop (n := many (Str.ofString "&") l r) (Str.ofString "out") [Str.ofString "a", Str.ofString "b", Str.ofString "code", Str.ofString "word"] (fun i t => Value.str (txt (dueN (Str.ofString "&") l r i)) t) (fun i => ∀ j, j < i → dueAt (Str.ofString "&") l r j ≤ 1114111) ?q1 rgX ?q2 ?q3 lF lN ?q4 ?q5 (fun i ti ty u hi' tki own hin hPi hsep Fi Ni => ?_) (fun u ty hd' tkd hPn Fd Nd => ?_)); (case q2 => k_extra "my small"); (case q3 => k_extra "my size"); (case q5 => (intro j hj; exact absurd hj (Nat.not_lt_zero _))); (try clear lF lN))
  k_with "my turn" => (exact turn_done (by assumption) (by assumption) (fun _ hp => hp) (by with_unfolding_all rfl) ⟨_, by rw [due_snoc]⟩ (below_succ hPi (by assumption)) (by ktm_same2))
  k_with "my small" => (exact small_one (by omega) (by omega) (by split <;> omega) (by split <;> omega))
  k_with "my size" => (rw [rangeSize_nat]; congr 1; omega)
  k_with "my chr" => (refine chr_due (op := Str.ofString "&") (l := l) (r := r) (i := i) ?ce (hpos i) ?cb ?_; (case ce => (rw [due_and]; (refine cong2 Builtin.bitAnd ?cx ?cy); (case cx => (first | exact item_code hl (by first | assumption | omega) | exact off_code (by first | assumption | omega))); (case cy => (first | exact item_code hr (by first | assumption | omega) | exact off_code (by first | assumption | omega))))); (case cb => assumption); intro hle; (have hlen := txt_length (dueN (Str.ofString "&") l r i)); rw [dueN_length] at hlen; (try dsimp only))
  k_steps
  all_goals first
    | (rename DieMade _ _ _ => hmade
       rename Fr g' L' _ _ => Fz
       rename 1114111 < _ => hbig
       refine die_end B' Fz X' (fun b o eb => kG' b o eb (fun hb => nomatch hb)) rfl hmade rfl (fun ez sz hup => ⟨⟨i, hin, bad_due hbig ?_⟩, ez, rfl, hup⟩)
       rw [due_and]
       exact cong2 Builtin.bitAnd (by first | exact item_code hl (by first | assumption | omega) | exact off_code (by first | assumption | omega)) (by first | exact item_code hr (by first | assumption | omega) | exact off_code (by first | assumption | omega)))
    | exact ⟨hPn, ⟨_, _, rfl, fun b o hb eb => Fd.keep b o (kG' b o eb (fun hb => nomatch hb))⟩, _, rfl⟩
theorem c_bits_or {w : World} {mean : ExcName → Option Value} {mg mb : Str → Option Value} {dp un : Nat} {gd : Option (List Code)} {cn : Str} {cs : Scope} {a : Addr} {ccd : Value} {cl : List (Str × Addr)} {outer : List Env} {A₀ : Around} {base h₀ : Heap} {L : Addr} {m : Str → Option Value} {s : Shared} 
    (B : Below A₀ base outer h₀) (F : Fr h₀ L s.heap m) (X : (hd.heap_1 w.params).In h₀) (T : TOP mean mg mb h₀) (hk : cs.kind = .function) (hdp : dp + 40 < recursionLimit) (hun : un + 400 < cLine)
    (l r : List Int) (t0 t1 t2 : Tok) (hx : l.length ≤ 4) (hy : r.length ≤ 4) (hl : ∀ c ∈ l, 0 ≤ c) (hr : ∀ c ∈ r, 0 ≤ c) (hpos : ∀ i, 0 ≤ dueAt (Str.ofString "|") l r i) :
    wpAny (model PR w) (ktrTop dp un gd cn cs L a ccd cl outer) (call (.ref 298) [.str (Str.ofString "|") t0, .str (txt l) t1, .str (txt r) t2])
      (BitsOk (Str.ofString "|") l r s)
      (BitsBad (Str.ofString "|") l r (envX cn cs L a ccd cl :: outer) s) s := by
  have N : News h₀ L s.heap [] := News.nil
  have hx1 := txt_length l
  have hy1 := txt_length r
  have hm4 : many (Str.ofString "|") l r ≤ 4 := by unfold many; rw [if_neg (by decide)]; omega
  have hm1 : many (Str.ofString "|") l r = max l.length r.length := rfl
  refine wpAny_call ?_
  refine' code_defG ?k1 ?k2 ?k3 ?k4 ?k5 ?kA ?kF ?kK ?k6 ?k7 ?k8 ?k9 ?kB ?_ ?c2 ?c3 ?c4 ?c5
  case kA => exact rfl
  case kF => exact rfl
  case kK => assumption
  case k1 => k_asm
  case k2 => k_asm
  case k3 => k_asm
  case k4 => k_asm
  case k5 => k_asm
  case k6 => k_is
  case k7 => k_is
  case k8 => ktr_room
  case k9 => exact BindsTo.of_eq rfl
  case c5 => decide
  case kB => exact locs rfl
  case c2 => exact rfl
  case c3 => exact rfl
  case c4 => exact rfl
  intro g' L' h' FG' F' N' B' X' T' kG'
  dsimp only
  k_fold
  k_with_none
  k_with "my room" => ((try dsimp only [ktrTop]); (try simp only [depth_deeper, units_deeper]); omega)
  k_with "my pyIter" => ((rename Fr _ _ _ _ => lF); (rename News _ _ _ _ => lN); (rename IsRange _ _ _ _ _ _ _ _ => rgX); (with_unfolding_all refine' rangeLoop (n := many (Str.ofString "|") l r) (Str.ofString "out") [Str.ofString "a", Str.ofString "b", Str.ofString "code", Str.ofString "word"] (fun i t => Value.str (txt (dueN (Str.ofString "|") l r i)) t) (fun i => ∀ j, j < i → dueAt (Str.ofString "|") l r j ≤ 1114111) ?q1 rgX ?q2 ?q3 lF lN ?q4 ?q5 (fun i ti ty u hi' tki own hin hPi hsep Fi Ni => ?_) (fun u ty hd' tkd hPn Fd Nd => ?_)); (case q2 => k_extra "my small"); (case q3 => k_extra "my size"); (case q5 => (intro j hj; exact absurd hj (Nat.not_lt_zero _))); (try clear lF lN))
  k_with "my turn" => (exact turn_done (by assumption) (by assumption) (fun _ hp => hp) (by with_unfolding_all rfl) ⟨_, by rw [due_snoc]⟩ (below_succ hPi (by assumption)) (by ktm_same2))
  k_with "my small" => (exact small_one (by omega) (by omega) (by split <;> omega) (by split <;> omega))
  k_with "my size" => (rw [rangeSize_nat]; congr 1; omega)
  k_with "my chr" => (refine chr_due (op := Str.ofString "|") (l := l) (r := r) (i := i) ?ce (hpos i) ?cb ?_; (case ce => (rw [due_or]; (refine cong2 Builtin.bitOr ?cx ?cy); (case cx => (first | exact item_code hl (by first | assumption | omega) | exact off_code (by first | assumption | omega))); (case cy => (first | exact item_code hr (by first | assumption | omega) | exact off_code (by first | assumption | omega))))); (case cb => assumption); intro hle; (have hlen := txt_length (dueN (Str.ofString "|") l r i)); rw [dueN_length] at hlen; (try dsimp only))
  k_steps
  all_goals first
    | (rename DieMade _ _ _ => hmade
       rename Fr g' L' _ _ => Fz
       rename 1114111 < _ => hbig
       refine die_end B' Fz X' (fun b o eb => kG' b o eb (fun hb => nomatch hb)) rfl hmade rfl (fun ez sz hup => ⟨⟨i, hin, bad_due hbig ?_⟩, ez, rfl, hup⟩)
       rw [due_or]
       exact cong2 Builtin.bitOr (by first | exact item_code hl (by first | assumption | omega) | exact off_code (by first | assumption | omega)) (by first | exact item_code hr (by first | assumption | omega) | exact off_code (by first | assumption | omega)))
    | exact ⟨hPn, ⟨_, _, rfl, fun b o hb eb => Fd.keep b o (kG' b o eb (fun hb => nomatch hb))⟩, _, rfl⟩
theorem c_bits_xor {w : World} {mean : ExcName → Option Value} {mg mb : Str → Option Value} {dp un : Nat} {gd : Option (List Code)} {cn : Str} {cs : Scope} {a : Addr} {ccd : Value} {cl : List (Str × Addr)} {outer : List Env} {A₀ : Around} {base h₀ : Heap} {L : Addr} {m : Str → Option Value} {s : Shared} 
    (B : Below A₀ base outer h₀) (F : Fr h₀ L s.heap m) (X : (hd.heap_1 w.params).In h₀) (T : TOP mean mg mb h₀) (hk : cs.kind = .function) (hdp : dp + 40 < recursionLimit) (hun : un + 400 < cLine)
    (l r : List Int) (t0 t1 t2 : Tok) (hx : l.length ≤ 4) (hy : r.length ≤ 4) (hl : ∀ c ∈ l, 0 ≤ c) (hr : ∀ c ∈ r, 0 ≤ c) (hpos : ∀ i, 0 ≤ dueAt (Str.ofString "^") l r i) :
    wpAny (model PR w) (ktrTop dp un gd cn cs L a ccd cl outer) (call (.ref 298) [.str (Str.ofString "^") t0, .str (txt l) t1, .str (txt r) t2])
      (BitsOk (Str.ofString "^") l r s)
      (BitsBad (Str.ofString "^") l r (envX cn cs L a ccd cl :: outer) s) s := by
  have N : News h₀ L s.heap [] := News.nil
  have hx1 := txt_length l
  have hy1 := txt_length r
  have hm4 : many (Str.ofString "^") l r ≤ 4 := by unfold many; rw [if_neg (by decide)]; omega
  have hm1 : many (Str.ofString "^") l r = max l.length r.length := rfl
  refine wpAny_call ?_
  refine' code_defG ?k1 ?k2 ?k3 ?k4 ?k5 ?kA ?kF ?kK ?k6 ?k7 ?k8 ?k9 ?kB ?_ ?c2 ?c3 ?c4 ?c5
  case kA => exact rfl
  case kF => exact rfl
  case kK => assumption
  case k1 => k_asm
  case k2 => k_asm
  case k3 => k_asm
  case k4 => k_asm
  case k5 => k_asm
  case k6 => k_is
  case k7 => k_is
  case k8 => ktr_room
  case k9 => exact BindsTo.of_eq rfl
  case c5 => decide
  case kB => exact locs rfl
  case c2 => exact rfl
  case c3 => exact rfl
  case c4 => exact rfl
  intro g' L' h' FG' F' N' B' X' T' kG'
  dsimp only
  k_fold
  k_with_none
  k_with "my room" => ((try dsimp only [ktrTop]); (try simp only [depth_deeper, units_deeper]); omega)
  k_with "my pyIter" => ((rename Fr _ _ _ _ => lF); (rename News _ _ _ _ => lN); (rename IsRange _ _ _ _ _ _ _ _ => rgX); (with_unfolding_all refine' rangeLoop (n := many (Str.ofString "^") l r) (Str.ofString "out") [Str.ofString "a", Str.ofString "b", Str.ofString "code", Str.ofString "word"] (fun i t => Value.str (txt (dueN (Str.ofString "^") l r i)) t) (fun i => ∀ j, j < i → dueAt (Str.ofString "^") l r j ≤ 1114111) ?q1 rgX ?q2 ?q3 lF lN ?q4 ?q5 (fun i ti ty u hi' tki own hin hPi hsep Fi Ni => ?_) (fun u ty hd' tkd hPn Fd Nd => ?_)); (case q2 => k_extra "my small"); (case q3 => k_extra "my size"); (case q5 => (intro j hj; exact absurd hj (Nat.not_lt_zero _))); (try clear lF lN))
  k_with "my turn" => (exact turn_done (by assumption) (by assumption) (fun _ hp => hp) (by with_unfolding_all rfl) ⟨_, by rw [due_snoc]⟩ (below_succ hPi (by assumption)) (by ktm_same2))
  k_with "my small" => (exact small_one (by omega) (by omega) (by split <;> omega) (by split <;> omega))
  k_with "my size" => (rw [rangeSize_nat]; congr 1; omega)
  k_with "my chr" => (refine chr_due (op := Str.ofString "^") (l := l) (r := r) (i := i) ?ce (hpos i) ?cb ?_; (case ce => (rw [due_xor]; (refine cong2 Builtin.bitXor ?cx ?cy); (case cx => (first | exact item_code hl (by first | assumption | omega) | exact off_code (by first | assumption | omega))); (case cy => (first | exact item_code hr (by first | assumption | omega) | exact off_code (by first | assumption | omega))))); (case cb => assumption); intro hle; (have hlen := txt_length (dueN (Str.ofString "^") l r i)); rw [dueN_length] at hlen; (try dsimp only))
  k_steps
  all_goals first
    | (rename DieMade _ _ _ => hmade
       rename Fr g' L' _ _ => Fz
       rename 1114111 < _ => hbig
       refine die_end B' Fz X' (fun b o eb => kG' b o eb (fun hb => nomatch hb)) rfl hmade rfl (fun ez sz hup => ⟨⟨i, hin, bad_due hbig ?_⟩, ez, rfl, hup⟩)
       rw [due_xor]
       exact cong2 Builtin.bitXor (by first | exact item_code hl (by first | assumption | omega) | exact off_code (by first | assumption | omega)) (by first | exact item_code hr (by first | assumption | omega) | exact off_code (by first | assumption | omega)))
    | exact ⟨hPn, ⟨_, _, rfl, fun b o hb eb => Fd.keep b o (kG' b o eb (fun hb => nomatch hb))⟩, _, rfl⟩
end Mine
-- part C3
namespace Mine
example : True := by
  w_top off
  trivial
set_option maxRecDepth 100000
set_option maxHeartbeats 8000000
example : PySem.Challenge.rw_qz0090_01 = PySem.Challenge.rw_qz0090_01 ∧ hd.heap_1 = hd.heap_1 := by
  k_fill
  exact ⟨rfl, rfl⟩
local macro_rules | `(tactic| k_room) => `(tactic| ktr_room)
local macro_rules | `(tactic| k_units) => `(tactic| ktr_units)
local macro_rules | `(tactic| walk_at "call ref") => `(tactic| k_extra "my call")
theorem c_op_and {w : World} {mean : ExcName → Option Value} {mg mb : Str → Option Value} {dp un : Nat} {gd : Option (List Code)} {cn : Str} {cs : Scope} {a : Addr} {ccd : Value} {cl : List (Str × Addr)} {outer : List Env} {A₀ : Around} {base h₀ : Heap} {L : Addr} {m : Str → Option Value} {s : Shared} 
    (B : Below A₀ base outer h₀) (F : Fr h₀ L s.heap m) (X : (hd.heap_1 w.params).In h₀) (T : TOP mean mg mb h₀) (hk : cs.kind = .function) (hdp : dp + 50 < recursionLimit) (hun : un + 500 < cLine)
    (l r : List Int) (t1 t2 : Tok) (lim : Value) (hx : l.length ≤ 4) (hy : r.length ≤ 4) (hl : ∀ c ∈ l, 0 ≤ c) (hr : ∀ c ∈ r, 0 ≤ c) (hpos : ∀ i, 0 ≤ dueAt (Str.ofString "&") l r i) :
    wpAny (model PR w) (ktrTop dp un gd cn cs L a ccd cl outer) (call (.ref 333) [.str (txt l) t1, .str (txt r) t2, lim])
      (BitsOk (Str.ofString "&") l r s)
      (BitsBad (Str.ofString "&") l r (envX cn cs L a ccd cl :: outer) s) s := by
  have N : News h₀ L s.heap [] := News.nil
  refine wpAny_call ?_
  refine' code_defG ?k1 ?k2 ?k3 ?k4 ?k5 ?kA ?kF ?kK ?k6 ?k7 ?k8 ?k9 ?kB ?_ ?c2 ?c3 ?c4 ?c5
  case kA => exact rfl
  case kF => exact rfl
  case kK => assumption
  case k1 => k_asm
  case k2 => k_asm
  case k3 => k_asm
  case k4 => k_asm
  case k5 => k_asm
  case k6 => k_is
  case k7 => k_is
  case k8 => ktr_room
  case k9 => exact BindsTo.of_eq rfl
  case c5 => decide
  case kB => exact locs rfl
  case c2 => exact rfl
  case c3 => exact rfl
  case c4 => exact rfl
  intro g' L' h' FG' F' N' B' X' T' kG'
  dsimp only
  k_fold
  k_with_none
  k_with "my room" => ((try dsimp only [ktrTop]); (try simp only [depth_deeper, units_deeper]); omega)
  k_with "my call" => ((with_reducible show wpAny _ _ (call (Value.ref 298) _) _ _ _); (rename Fr g' L' _ _ => Fz); k_dflt (refine' wpAny_mono (c_bits_and ?mB Fz ?mX ?mT ?mk ?mdp ?mun l r _ _ _ hx hy hl hr hpos) ?_ ?_; (case mB => k_asm); (case mX => k_asm); (case mT => k_asm); (case mk => exact rfl); (case mdp => k_extra "my room"); (case mun => k_extra "my room")))
  k_steps
  · rename BitsOk _ _ _ _ _ _ => hq
    rename Fr g' L' _ _ => Fz
    obtain ⟨hle, ⟨h2, tk2, rfl, hk2⟩, t2, rfl⟩ := hq
    have hk3 : ∀ b o, _ → h2.get? b = some o := fun b o => hk2 b o (fun hb => nomatch hb)
    have F2 := Fz.keeps hk3
    exact leaveK_ F2 News.nil fun _ _ => ⟨hle, ⟨_, _, rfl, fun b o hb eb => F2.keep b o (kG' b o eb (fun hb => nomatch hb))⟩, _, rfl⟩
  · rename BitsBad _ _ _ _ _ _ _ => hq
    rename Fr g' L' _ _ => Fz
    obtain ⟨hbad, e2, rfl, hup⟩ := hq
    exact die_pass (E := BitsBad (Str.ofString "&") l r (envX cn cs L a ccd cl :: outer) s) B' Fz (fun b o eb => kG' b o eb (fun hb => nomatch hb)) rfl hup (fun s'' hup2 => ⟨hbad, e2, rfl, hup2⟩)
theorem c_op_or {w : World} {mean : ExcName → Option Value} {mg mb : Str → Option Value} {dp un : Nat} {gd : Option (List Code)} {cn : Str} {cs : Scope} {a : Addr} {ccd : Value} {cl : List (Str × Addr)} {outer : List Env} {A₀ : Around} {base h₀ : Heap} {L : Addr} {m : Str → Option Value} {s : Shared} 
    (B : Below A₀ base outer h₀) (F : Fr h₀ L s.heap m) (X : (hd.heap_1 w.params).In h₀) (T : TOP mean mg mb h₀) (hk : cs.kind = .function) (hdp : dp + 50 < recursionLimit) (hun : un + 500 < cLine)
    (l r : List Int) (t1 t2 : Tok) (lim : Value) (hx : l.length ≤ 4) (hy : r.length ≤ 4) (hl : ∀ c ∈ l, 0 ≤ c) (hr : ∀ c ∈ r, 0 ≤ c) (hpos : ∀ i, 0 ≤ dueAt (Str.ofString "|") l r i) :
    wpAny (model PR w) (ktrTop dp un gd cn cs L a ccd cl outer) (call (.ref 340) [.str (txt l) t1, .str (txt r) t2, lim])
      (BitsOk (Str.ofString "|") l r s)
      (BitsBad (Str.ofString "|") l r (envX cn cs L a ccd cl :: outer) s) s := by
  have N : News h₀ L s.heap [] := News.nil
  refine wpAny_call ?_
  refine' code_defG ?k1 ?k2 ?k3 ?k4 ?k5 ?kA ?kF ?kK ?k6 ?k7 ?k8 ?k9 ?kB ?_ ?c2 ?c3 ?c4 ?c5
  case kA => exact rfl
  case kF => exact rfl
  case kK => assumption
  case k1 => k_asm
  case k2 => k_asm
  case k3 => k_asm
  case k4 => k_asm
  case k5 => k_asm
  case k6 => k_is
  case k7 => k_is
  case k8 => ktr_room
  case k9 => exact BindsTo.of_eq rfl
  case c5 => decide
  case kB => exact locs rfl
  case c2 => exact rfl
  case c3 => exact rfl
  case c4 => exact rfl
  intro g' L' h' FG' F' N' B' X' T' kG'
  dsimp only
  k_fold
  k_with_none
  k_with "my room" => ((try dsimp only [ktrTop]); (try simp only [depth_deeper, units_deeper]); omega)
  k_with "my call" => ((with_reducible show wpAny _ _ (call (Value.ref 298) _) _ _ _); (rename Fr g' L' _ _ => Fz); k_dflt (refine' wpAny_mono (c_bits_or ?mB Fz ?mX ?mT ?mk ?mdp ?mun l r _ _ _ hx hy hl hr hpos) ?_ ?_; (case mB => k_asm); (case mX => k_asm); (case mT => k_asm); (case mk => exact rfl); (case mdp => k_extra "my room"); (case mun => k_extra "my room")))
  k_steps
  · rename BitsOk _ _ _ _ _ _ => hq
    rename Fr g' L' _ _ => Fz
    obtain ⟨hle, ⟨h2, tk2, rfl, hk2⟩, t2, rfl⟩ := hq
    have hk3 : ∀ b o, _ → h2.get? b = some o := fun b o => hk2 b o (fun hb => nomatch hb)
    have F2 := Fz.keeps hk3
    exact leaveK_ F2 News.nil fun _ _ => ⟨hle, ⟨_, _, rfl, fun b o hb eb => F2.keep b o (kG' b o eb (fun hb => nomatch hb))⟩, _, rfl⟩
  · rename BitsBad _ _ _ _ _ _ _ => hq
    rename Fr g' L' _ _ => Fz
    obtain ⟨hbad, e2, rfl, hup⟩ := hq
    exact die_pass (E := BitsBad (Str.ofString "|") l r (envX cn cs L a ccd cl :: outer) s) B' Fz (fun b o eb => kG' b o eb (fun hb => nomatch hb)) rfl hup (fun s'' hup2 => ⟨hbad, e2, rfl, hup2⟩)
theorem c_op_xor {w : World} {mean : ExcName → Option Value} {mg mb : Str → Option Value} {dp un : Nat} {gd : Option (List Code)} {cn : Str} {cs : Scope} {a : Addr} {ccd : Value} {cl : List (Str × Addr)} {outer : List Env} {A₀ : Around} {base h₀ : Heap} {L : Addr} {m : Str → Option Value} {s : Shared} 
    (B : Below A₀ base outer h₀) (F : Fr h₀ L s.heap m) (X : (hd.heap_1 w.params).In h₀) (T : TOP mean mg mb h₀) (hk : cs.kind = .function) (hdp : dp + 50 < recursionLimit) (hun : un + 500 < cLine)
    (l r : List Int) (t1 t2 : Tok) (lim : Value) (hx : l.length ≤ 4) (hy : r.length ≤ 4) (hl : ∀ c ∈ l, 0 ≤ c) (hr : ∀ c ∈ r, 0 ≤ c) (hpos : ∀ i, 0 ≤ dueAt (Str.ofString "^") l r i) :
    wpAny (model PR w) (ktrTop dp un gd cn cs L a ccd cl outer) (call (.ref 347) [.str (txt l) t1, .str (txt r) t2, lim])
      (BitsOk (Str.ofString "^") l r s)
      (BitsBad (Str.ofString "^") l r (envX cn cs L a ccd cl :: outer) s) s := by
  have N : News h₀ L s.heap [] := News.nil
  refine wpAny_call ?_
  refine' code_defG ?k1 ?k2 ?k3 ?k4 ?k5 ?kA ?kF ?kK ?k6 ?k7 ?k8 ?k9 ?kB ?_ ?c2 ?c3 ?c4 ?c5
  case kA => exact rfl
  case kF => exact rfl
  case kK => assumption
  case k1 => k_asm
  case k2 => k_asm
  case k3 => k_asm
  case k4 => k_asm
  case k5 => k_asm
  case k6 => k_is
  case k7 => k_is
  case k8 => ktr_room
  case k9 => exact BindsTo.of_eq rfl
  case c5 => decide
  case kB => exact locs rfl
  case c2 => exact rfl
  case c3 => exact rfl
  case c4 => exact rfl
  intro g' L' h' FG' F' N' B' X' T' kG'
  dsimp only
  k_fold
  k_with_none
  k_with "my room" => ((try dsimp only [ktrTop]); (try simp only [depth_deeper, units_deeper]); omega)
  k_with "my call" => ((with_reducible show wpAny _ _ (call (Value.ref 298) _) _ _ _); (rename Fr g' L' _ _ => Fz); k_dflt (refine' wpAny_mono (c_bits_xor ?mB Fz ?mX ?mT ?mk ?mdp ?mun l r _ _ _ hx hy hl hr hpos) ?_ ?_; (case mB => k_asm); (case mX => k_asm); (case mT => k_asm); (case mk => exact rfl); (case mdp => k_extra "my room"); (case mun => k_extra "my room")))
  k_steps
  · rename BitsOk _ _ _ _ _ _ => hq
    rename Fr g' L' _ _ => Fz
    obtain ⟨hle, ⟨h2, tk2, rfl, hk2⟩, t2, rfl⟩ := hq
    have hk3 : ∀ b o, _ → h2.get? b = some o := fun b o => hk2 b o (fun hb => nomatch hb)
    have F2 := Fz.keeps hk3
    exact leaveK_ F2 News.nil fun _ _ => ⟨hle, ⟨_, _, rfl, fun b o hb eb => F2.keep b o (kG' b o eb (fun hb => nomatch hb))⟩, _, rfl⟩
  · rename BitsBad _ _ _ _ _ _ _ => hq
    rename Fr g' L' _ _ => Fz
    obtain ⟨hbad, e2, rfl, hup⟩ := hq
    exact die_pass (E := BitsBad (Str.ofString "^") l r (envX cn cs L a ccd cl :: outer) s) B' Fz (fun b o eb => kG' b o eb (fun hb => nomatch hb)) rfl hup (fun s'' hup2 => ⟨hbad, e2, rfl, hup2⟩)
end Mine
-- part Cells
namespace Mine
set_option maxRecDepth 100000
set_option maxHeartbeats 8000000
section
variable {prog : Program} {w : World} {A₀ A : Around} {s : Shared} {base h₀ : Heap} {outer : List Env} {L : Addr} {m mg mb : Str → Option Value} {env : Env} {news : List (Addr × Obj)} {K : Frag} {p : Program} {loose : List Str} {mean : ExcName → Option Value}
/-- into a def whose locals are captured; all but the ledger's objects stand in the callee's ground -/
theorem code_cells {R : Result → Shared → Prop} {name qual : Str} {params : Arguments} {body : List Stmt} {scope : Scope} {dV kV doc pm cdv ct oc : Value} {an od : Option Addr} {osl : Array (Option Value)} {f : Addr} {args : Args} {binds : List (Str × Value)}
    (B : Below A₀ base outer h₀) (F : Fr h₀ L s.heap m) (X₀ : K.In h₀) (N : News h₀ L s.heap news) (T : Top p loose mean mg mb h₀) (hA : A.frames = some (env :: outer)) (hf : env.frame = some L) (hke : env.scope.kind = .function)
    (ho : K.lookup f = some ⟨oc, od, .func (fnOf name qual params body scope dV kV doc pm an cdv ct), osl⟩) (hcd : codeIn K cdv qual = true) (hroom : A.depth < recursionLimit)
    (hbind : BindsTo s (fnOf name qual params body scope dV kV doc pm an cdv ct) args binds) (hkind : (binds.all fun y => scope.names.lookup y.1 == some .local || scope.names.lookup y.1 == some .cell) = true)
    (hnd : ((cellsFrom 0 scope.names []).map (·.1)).Nodup)
    (h : ∀ g L' h₁ tk cells, Fr g L' h₁ (bindL (envOfC qual scope L' f cdv).kindOf binds fun _ => none) → News g L' h₁ (cells ++ news) →
      CellsAre (bindC (envOfC qual scope L' f cdv).kindOf binds fun _ => none) (cellsFrom (L' + 1) scope.names []) cells → Below A base (env :: outer) g → K.In g → Top p loose mean mg mb g → (∀ p ∈ news, p.1 < L') → GSub s.heap g (news.map (·.1)) →
      wpAny (model prog w) (A.deeper (envOfC qual scope L' f cdv)) (execs body (envOfC qual scope L' f cdv))
        (fun fl s' => LeaveK h₀ L m g R (match fl with | .ret v => v | _ => .none) s')
        (fun e s' => wpAny (model prog w) (A.deeper (envOfC qual scope L' f cdv)) (leaving (envOfC qual scope L' f cdv) e) (fun _ s'' => R (.error e) s'') (fun e' s'' => R (.error e') s'') s')
        { s with heap := h₁, toks := tk })
    (hco : scope.isCoroutine = false) (hgen : scope.isGenerator = false) (hk : scope.kind = .function) : codeAny (model prog w) A (.call (.ref f) args) R s := by
  obtain ⟨FG, BG, st, lv⟩ := groundX (R := R) B F N hA hf hke
  have hFd : (fnX name qual params body scope [] dV kV doc pm an cdv ct).closure = [] := rfl
  refine codeAny_call_function (fd := fnX name qual params body scope [] dV kV doc pm an cdv ct) hroom ((X₀.keeps F.keep) _ _ ho) rfl hco hgen rfl (codeRec_of (X₀.keeps F.keep) hcd) (hbind _ _ _ _ ?_)
  refine wpAny_newFunctionEnv_cells hk (kindsX hkind _) fun env' he s' x => ?_
  subst he
  refine ⟨(T.nolimit.keeps F.keep).keeps x.toInCall.keep, codeAny_func ?_⟩
  obtain ⟨h₁, tk, rfl, _⟩ := x.done
  have hk₁ := x.toInCall.keep
  obtain ⟨cells, NC, Y⟩ := Cl.news (h₀ := s.heap) (Nat.le_refl _) fun n c hm => ⟨x.cell n c (lookup_of_mem_nodup (cellsFrom_names scope.names 0 (s.heap.objs.size + 1) [] [] rfl ▸ hnd) hm), x.above n c hm⟩
  refine wpAny_mono (h _ s.heap.objs.size h₁ tk cells ⟨x.toInCall.ns, fun b o e => hk₁ b o (of_hideAll _ e), Nat.le_of_eq (hideAll_size _ _)⟩ (fun p hp => ?_) Y BG (X₀.keeps st) (T.keeps st) (fun p hp => Heap.lt_size (N p hp).1) (fun b o e n => hideAll_get _ e n)) (fun fl s' hl => lv _ _ hl) fun _ _ y => y
  rcases List.mem_append.mp hp with hp | hp
  · refine ⟨(NC p hp).1, (NC p hp).2.1, ?_⟩
    cases q : (hideAll s.heap (news.map (·.1))).get? p.1 with
    | none => rfl
    | some o => have := of_hideAll _ q; rw [(NC p hp).2.2] at this; cases this
  · exact ⟨hk₁ _ _ (N p hp).1, Nat.ne_of_lt (Heap.lt_size (N p hp).1), hideAll_none _ (List.mem_map_of_mem hp)⟩
end
end Mine
-- part C1
namespace Mine
example : True := by
  w_top off
  trivial
set_option maxRecDepth 100000
set_option maxHeartbeats 8000000
example : PySem.Challenge.rw_qz0090_01 = PySem.Challenge.rw_qz0090_01 ∧ hd.heap_1 = hd.heap_1 := by
  k_fill
  exact ⟨rfl, rfl⟩
local macro_rules | `(tactic| k_room) => `(tactic| ktr_room)
local macro_rules | `(tactic| k_units) => `(tactic| ktr_units)
noncomputable def IntOut (n : Int) (s : Shared) (v : Value) (s' : Shared) : Prop := Goes [] s s' ∧ ∃ t, v = .int n t
theorem goes_of {g h' : Heap} {L : Addr} {m : Str → Option Value} {s : Shared} {tk : Nat} (F : Fr g L h' m) (k : GSub s.heap g []) : Goes [] s { s with heap := h', toks := tk } :=
  ⟨h', tk, rfl, fun b o hb eb => F.keep b o (k b o eb hb)⟩
theorem ne_of_beq {a b : Str} (h : (a == b) = false) : ¬ a = b := fun e => by
  rw [e] at h
  simp at h
theorem bit_and {op : Str} {x y : Int} {t : Tok} (h : (op == Str.ofString "&") = true) : ∃ t', Value.int (x * y) t = .int (bitF op x y) t' := by
  unfold bitF; rw [if_pos (beq_iff_eq.mp h)]; exact ⟨_, rfl⟩
theorem bit_or {op : Str} {x y : Int} {t : Tok} (h : (op == Str.ofString "&") = false) (h2 : (op == Str.ofString "|") = true) : ∃ t', Value.int (if y > x then y else x) t = .int (bitF op x y) t' := by
  unfold bitF; rw [if_neg (ne_of_beq h), if_pos (beq_iff_eq.mp h2)]
  have e : (if y > x then y else x) = max x y := by
    rw [Int.max_def]; split <;> split <;> omega
  rw [e]; exact ⟨_, rfl⟩
theorem bit_xor {op : Str} {x y : Int} {t : Tok} (h : (op == Str.ofString "&") = false) (h2 : (op == Str.ofString "|") = false) : ∃ t', Value.int ((x + y).fmod 2) t = .int (bitF op x y) t' := by
  unfold bitF; rw [if_neg (ne_of_beq h), if_neg (ne_of_beq h2)]
  rw [Int.fmod_eq_emod_of_nonneg _ (by decide)]; exact ⟨_, rfl⟩

theorem c_bit {w : World} {mean : ExcName → Option Value} {mg mb : Str → Option Value} {dp un : Nat} {gd : Option (List Code)} {cn : Str} {cs : Scope} {a : Addr} {ccd : Value} {cl : List (Str × Addr)} {outer : List Env} {A₀ : Around} {base h₀ : Heap} {L : Addr} {m : Str → Option Value} {s : Shared} {E : Value → Shared → Prop}
    (B : Below A₀ base outer h₀) (F : Fr h₀ L s.heap m) (X : (hd.heap_1 w.params).In h₀) (T : TOP mean mg mb h₀) (hk : cs.kind = .function) (hdp : dp + 20 < recursionLimit) (hun : un + 200 < cLine)
    (op : Str) (x y : Int) (t0 t1 t2 : Tok) (hx : 0 ≤ x) (hx1 : x ≤ 1) (hy : 0 ≤ y) (hy1 : y ≤ 1) :
    wpAny (model PR w) (ktrTop dp un gd cn cs L a ccd cl outer) (call (.ref 391) [.str op t0, .int x t1, .int y t2]) (IntOut (bitF op x y) s) E s := by
  have N : News h₀ L s.heap [] := News.nil
  refine wpAny_call ?_
  refine' code_defG ?k1 ?k2 ?k3 ?k4 ?k5 ?kA ?kF ?kK ?k6 ?k7 ?k8 ?k9 ?kB ?_ ?c2 ?c3 ?c4 ?c5
  case kA => exact rfl
  case kF => exact rfl
  case kK => assumption
  case k1 => k_asm
  case k2 => k_asm
  case k3 => k_asm
  case k4 => k_asm
  case k5 => k_asm
  case k6 => k_is
  case k7 => k_is
  case k8 => ktr_room
  case k9 => exact BindsTo.of_eq rfl
  case c5 => decide
  case kB => exact locs rfl
  case c2 => exact rfl
  case c3 => exact rfl
  case c4 => exact rfl
  intro g' L' h' FG' F' N' B' X' T' kG'
  dsimp only
  k_fold
  k_with_none
  k_steps
  · rename Fr g' L' _ _ => Fz
    exact ⟨goes_of Fz kG', bit_and (by assumption)⟩
  · rename Fr g' L' _ _ => Fz
    exact ⟨goes_of Fz kG', bit_or (by assumption) (by assumption)⟩
  · rename Fr g' L' _ _ => Fz
    exact ⟨goes_of Fz kG', bit_xor (by assumption) (by assumption)⟩
end Mine
-- part Arith
namespace Mine
set_option maxRecDepth 100000
set_option maxHeartbeats 8000000
@[irreducible] noncomputable def p2 (k : Nat) : Int := 2 ^ k
theorem p2_def (k : Nat) : p2 k = 2 ^ k := by unfold p2; rfl
@[irreducible] noncomputable def shr (a : Int) (k : Nat) : Int := a / 2 ^ k
@[irreducible] noncomputable def bitAt (a : Int) (k : Nat) : Int := a / 2 ^ k % 2
theorem bitAt_def (a : Int) (k : Nat) : bitAt a k = a / 2 ^ k % 2 := by unfold bitAt; rfl
theorem shr_def (a : Int) (k : Nat) : shr a k = a / 2 ^ k := by unfold shr; rfl
theorem bitAt_lo (a : Int) (k : Nat) : 0 ≤ bitAt a k := by rw [bitAt_def]; omega
theorem bitAt_hi (a : Int) (k : Nat) : bitAt a k ≤ 1 := by rw [bitAt_def]; omega
theorem p2_small : ∀ k, k < 21 → 1 ≤ p2 k ∧ p2 k ≤ 1048576 := by
  intro k hk
  rw [p2_def]
  have h : ∀ k, k < 21 → 1 ≤ (2 : Int) ^ k ∧ (2 : Int) ^ k ≤ 1048576 := by decide
  exact h k hk
theorem bitF_small (op : Str) {x y : Int} (hx : 0 ≤ x) (hx1 : x ≤ 1) (hy : 0 ≤ y) (hy1 : y ≤ 1) : 0 ≤ bitF op x y ∧ bitF op x y ≤ 1 := by
  have h1 : x = 0 ∨ x = 1 := by omega
  have h2 : y = 0 ∨ y = 1 := by omega
  unfold bitF
  rcases h1 with rfl | rfl <;> rcases h2 with rfl | rfl <;> (split <;> (try split) <;> decide)
section
variable {prog : Program} {w : World} {A : Around} {E : Value → Shared → Prop} {s : Shared} {Q : Value → Shared → Prop} {t u : Tok}
theorem pow_p2 {k : Nat} (hk : k < 21) (h : Q (.int (p2 k) s.toks) { s with toks := s.toks + 1 }) : wpAny (model prog w) A (binaryOp .Pow (.int 2 t) (.int (k : Int) u)) Q E s := by
  by_cases h0 : k = 0
  · subst h0
    refine AutoIntOps.pow_0 (by decide) (by decide) ?_
    have e : p2 0 = 1 := by rw [p2_def]; rfl
    rw [e] at h
    exact h
  · refine AutoIntOps.pow_4 (by omega) (by simp; omega) (by decide) (by decide) ?_ ?_
    · have hb : ∀ k : Nat, k < 21 → ¬ Builtin.Int.intTooBig (((Builtin.Int.intBits 2 : Nat) : Int) * (k : Int)) = true := by decide
      exact hb k hk
    · rw [p2_def] at h
      have e : (2 : Int) ^ (k : Int).toNat = 2 ^ k := by rw [Int.toNat_natCast]
      show (Made.int ((2 : Int) ^ (k : Int).toNat)).post Q s
      rw [e]
      exact h
theorem div_p2 {k : Nat} {a : Int} (hk : k < 21) (h : Q (.int (shr a k) s.toks) { s with toks := s.toks + 1 }) : wpAny (model prog w) A (binaryOp .FloorDiv (.int a t) (.int (p2 k) u)) Q E s := by
  have hp := p2_small k hk
  refine floordiv_int (by omega) ?_ (.inl (PyProof.noPylong_small (by omega)))
  have e : a.fdiv (p2 k) = shr a k := by
    rw [shr_def, p2_def]
    exact Int.fdiv_eq_ediv_of_nonneg _ (by rw [← p2_def]; omega)
  rw [e]
  exact h
theorem mod_p2 {k : Nat} {a : Int} (h : Q (.int (bitAt a k) s.toks) { s with toks := s.toks + 1 }) : wpAny (model prog w) A (binaryOp .Mod (.int (shr a k) t) (.int 2 u)) Q E s := by
  refine mod_int' (by decide) ?_
  have e : (shr a k).fmod 2 = bitAt a k := by
    rw [shr_def, bitAt_def]
    exact Int.fmod_eq_emod_of_nonneg _ (by decide)
  rw [e]
  exact h
theorem mul_p2 {op : Str} {k : Nat} {a b : Int} (h : Q (.int (bitK op a b k) s.toks) { s with toks := s.toks + 1 }) : wpAny (model prog w) A (binaryOp .Mult (.int (bitF op (bitAt a k) (bitAt b k)) t) (.int (p2 k) u)) Q E s := by
  have hb := bitF_small op (bitAt_lo a k) (bitAt_hi a k) (bitAt_lo b k) (bitAt_hi b k)
  refine mul_int ?_ (IntMulOk.of_left (intBits_le_64 (by omega) (by omega)))
  have e : bitF op (bitAt a k) (bitAt b k) * p2 k = bitK op a b k := by
    rw [p2_def, bitAt_def, bitAt_def]; rfl
  rw [e]
  exact h
end
end Mine
-- part Comp
namespace Mine
set_option maxRecDepth 100000
set_option maxHeartbeats 8000000
section
variable {prog : Program} {w : World} {A : Around} {E : Value → Shared → Prop} {s : Shared} {h₀ : Heap} {L : Addr} {m : Str → Option Value} {env : Env}
/-- the end of a comprehension's turn, with a word of what holds then -/
noncomputable def EltEnd (h₀ : Heap) (L : Addr) (m : Str → Option Value) (s₁ : Shared) (I : Addr) (oI : Obj) (C : Addr) (oC : Obj) (D : Addr) (oD : Obj) (J : Value → List (Addr × Obj) → Prop) (y : Value) (s₂ : Shared) : Prop :=
  ∃ h' tk news', s₂ = { s₁ with heap := h', toks := tk } ∧ Fr h₀ L h' m ∧ News h₀ L h' ((I, oI) :: (C, oC) :: (D, oD) :: news') ∧ LCg.Off3 I C D news' ∧ J y news'
theorem compRest_inv {elt : Expr} {x : Str} {scope : Scope} {cl : List (Str × Addr)} {S : List (Addr × Obj) → Prop} {P : Nat → Value → Prop} {Fin : List Value → List (Addr × Obj) → Prop} (n : Nat) (Inv : Nat → List Value → List (Addr × Obj) → Prop)
    (hS : ∀ i ys news, Inv i ys news → S news)
    (step : ∀ i ys news v I oI C oC D m₂ h tk (E' : Value → Shared → Prop), i < n → Inv i ys news → P i v → LCg.NsObj oC m₂ → m₂ x = some v → Fr h₀ L h m → News h₀ L h ((I, oI) :: (C, oC) :: (D, LCg.lst ys) :: news) → LCg.Off3 I C D news → ((@Ne Nat I C) ∧ (@Ne Nat I D) ∧ (@Ne Nat C D)) →
      wpAny (model prog w) A (eval elt (compEnvC scope cl C env)) (EltEnd h₀ L m { s with heap := h, toks := tk } I oI C oC D (LCg.lst ys) (fun y news' => Inv (i + 1) (ys ++ [y]) news')) E' { s with heap := h, toks := tk })
    (fin : ∀ ys news, Inv n ys news → Fin ys news) : ∀ k i ys news, i + k = n → Inv i ys news → LCg.CompRest prog w A h₀ L m env elt x scope cl s S P Fin k i ys news
  | 0, i, ys, news, e, hI => LCg.CompRest.zero (fin ys news ((show i = n by omega) ▸ hI))
  | k + 1, i, ys, news, e, hI => LCg.CompRest.succ fun v I oI C oC D m₂ h tk E' hP hoC hx F N off ne =>
    wpAny_mono (step i ys news v I oI C oC D m₂ h tk E' (by omega) hI hP hoC hx F N off ne) (fun y s₂ ⟨h', tk', news', e', F', N', off', hI'⟩ =>
      ⟨h', tk', news', e', F', N', off', hS _ _ _ hI', compRest_inv n Inv hS step fin k (i + 1) (ys ++ [y]) news' (by omega) hI'⟩) fun _ _ e => e

theorem EltEnd.intro {s₁ : Shared} {I C D : Addr} {oI oC oD : Obj} {J : Value → List (Addr × Obj) → Prop} {y : Value} {h' : Heap} {tk : Nat} {all news' : List (Addr × Obj)}
    (F : Fr h₀ L h' m) (N : News h₀ L h' all) (sub : ∀ p ∈ (I, oI) :: (C, oC) :: (D, oD) :: news', p ∈ all) (off : LCg.Off3 I C D news') (hJ : J y news') :
    EltEnd h₀ L m s₁ I oI C oC D oD J y { s₁ with heap := h', toks := tk } := ⟨h', tk, news', rfl, F, fun p hp => N p (sub p hp), off, hJ⟩

noncomputable def CompGo (prog : Program) (w : World) (A : Around) (h₀ : Heap) (L : Addr) (m : Str → Option Value) (env : Env) (elt : Expr) (x : Str) (scope : Scope) (cl : List (Str × Addr)) (n : Nat) (Inv : Nat → List Value → List (Addr × Obj) → Prop) (Q : Value → Shared → Prop) (xv : Value) (s₁ : Shared) : Prop :=
  ∃ r b t u v news, xv = .ref r ∧ Fr h₀ L s₁.heap m ∧ News h₀ L s₁.heap news ∧ IsRange s₁.heap r 0 b 1 t u v ∧ Builtin.Range.small 0 b 1 = true ∧ Builtin.Range.rangeSize 0 b 1 = (n : Int) ∧ n ≤ sizeLine ∧ Inv 0 [] news ∧
      (∀ i ys news v I oI C oC D m₂ h tk (E' : Value → Shared → Prop), i < n → Inv i ys news → (∃ t, v = .int (i : Int) t) → LCg.NsObj oC m₂ → m₂ x = some v → Fr h₀ L h m → News h₀ L h ((I, oI) :: (C, oC) :: (D, LCg.lst ys) :: news) → LCg.Off3 I C D news → ((@Ne Nat I C) ∧ (@Ne Nat I D) ∧ (@Ne Nat C D)) →
        wpAny (model prog w) A (eval elt (compEnvC scope cl C env)) (EltEnd h₀ L m { s₁ with heap := h, toks := tk } I oI C oC D (LCg.lst ys) (fun y news' => Inv (i + 1) (ys ++ [y]) news')) E' { s₁ with heap := h, toks := tk }) ∧
      (∀ ys news D h tk, Inv n ys news → Fr h₀ L h m → News h₀ L h ((D, LCg.lst ys) :: news) → LCg.Off1 D news → Q (.ref D) { s₁ with heap := h, toks := tk })
theorem CompGo.intro {elt : Expr} {x : Str} {scope : Scope} {cl : List (Str × Addr)} {n : Nat} {Inv : Nat → List Value → List (Addr × Obj) → Prop} {Q : Value → Shared → Prop} {s₁ : Shared} {r : Addr} {b : Int} {t u v : Tok} {news : List (Addr × Obj)}
    (F : Fr h₀ L s₁.heap m) (N : News h₀ L s₁.heap news) (hr : IsRange s₁.heap r 0 b 1 t u v) (hsm : Builtin.Range.small 0 b 1 = true) (hn : Builtin.Range.rangeSize 0 b 1 = (n : Int)) (hsz : n ≤ sizeLine) (hI : Inv 0 [] news)
    (step : ∀ i ys news t I oI C oC D m₂ h tk (E' : Value → Shared → Prop), i < n → Inv i ys news → LCg.NsObj oC m₂ → m₂ x = some (.int (i : Int) t) → Fr h₀ L h m → News h₀ L h ((I, oI) :: (C, oC) :: (D, LCg.lst ys) :: news) → LCg.Off3 I C D news → ((@Ne Nat I C) ∧ (@Ne Nat I D) ∧ (@Ne Nat C D)) →
        wpAny (model prog w) A (eval elt (compEnvC scope cl C env)) (EltEnd h₀ L m { s₁ with heap := h, toks := tk } I oI C oC D (LCg.lst ys) (fun y news' => Inv (i + 1) (ys ++ [y]) news')) E' { s₁ with heap := h, toks := tk })
    (fin : ∀ ys news D h tk, Inv n ys news → Fr h₀ L h m → News h₀ L h ((D, LCg.lst ys) :: news) → LCg.Off1 D news → Q (.ref D) { s₁ with heap := h, toks := tk }) :
    CompGo prog w A h₀ L m env elt x scope cl n Inv Q (.ref r) s₁ :=
  ⟨r, b, t, u, v, news, rfl, F, N, hr, hsm, hn, hsz, hI, fun i ys news v I oI C oC D m₂ h tk E' hi hI hP hoC hx F N off ne => by
    obtain ⟨t, rfl⟩ := hP
    exact step i ys news t I oI C oC D m₂ h tk E' hi hI hoC hx F N off ne, fin⟩

/-- a comprehension over range(n), whatever its element stores -/
theorem ListComp_range {elt : Expr} {x : Str} {px : Pos} {iter : Expr} {scope : Scope} {cl : List (Str × Addr)} {pos : Pos} {Q : Value → Shared → Prop} (n : Nat) (Inv : Nat → List Value → List (Addr × Obj) → Prop) (F₀ : Fr h₀ L s.heap m)
    (hclos : closureFor scope env = pure cl) (hcell : ∀ y ∈ scope.names, y.2 ≠ .cell) (hkind : scope.kind = .function)
    (hnames : ∀ y ∈ scope.names, y.2 = .local → scope.names.lookup y.1 = some .local) (hx : scope.names.lookup x = some .local) (hh : A.handled = none)
    (hs : ∀ x, foldedSetIterable iter env x = pure x)
    (h : wpAny (model prog w) A (eval iter env) (CompGo prog w A h₀ L m env elt x scope cl n Inv Q) E s) :
    wpAny (model prog w) A (eval (.ListComp elt [⟨.Name x px, iter, [], 0⟩] scope pos) env) Q E s := by
  refine LCg.ListComp_U F₀ hclos hcell hkind hnames hx (wpAny_mono h (fun xv s₁ ⟨r, b, t, u, v, news, hxv, F, N, hr, hsm, hn, hsz, hI, step, fin⟩ => ?_) fun _ _ e => e) hs
  subst hxv
  refine LCg.CompSrc.range hh F N hr hsm hn hsz fun g => compRest_inv n Inv (fun _ _ _ _ => trivial) (fun i ys news v I oI C oC D m₂ h tk E' hi hI hP => ?_) (fun ys news hI => ?_) n 0 [] news (by omega) hI
  · exact step i ys news v I oI C oC D m₂ h tk E' hi hI (by obtain ⟨t, rfl⟩ := hP; exact ⟨t, by rw [Int.zero_add]⟩)
  · exact fun D h tk F N off => fin ys news D h tk hI F N off
theorem Assign_ListComp_range {elt : Expr} {x y : Str} {px py : Pos} {iter : Expr} {scope : Scope} {cl : List (Str × Addr)} {pos spos : Pos} {Q : Flow → Shared → Prop} (n : Nat) (Inv : Nat → List Value → List (Addr × Obj) → Prop) (F₀ : Fr h₀ L s.heap m) (hLe : env.locals = L)
    (hsw : swapsWith (.ListComp elt [⟨.Name x px, iter, [], 0⟩] scope pos) (some (.Name y py)) spos.line env = pure true)
    (hclos : closureFor scope env = pure cl) (hcell : ∀ y ∈ scope.names, y.2 ≠ .cell) (hkind : scope.kind = .function)
    (hnames : ∀ y ∈ scope.names, y.2 = .local → scope.names.lookup y.1 = some .local) (hx : scope.names.lookup x = some .local) (hh : A.handled = none)
    (hy : env.kindOf y = some .local) (hp : (env.scope.kind == .class || (env.scope.kind == .module && env.locals != env.globals)) = false)
    (hs : ∀ x, foldedSetIterable iter env x = pure x)
    (h : wpAny (model prog w) A (eval iter env) (fun xv s₁ => ∃ r b t u v news, xv = .ref r ∧ Fr h₀ L s₁.heap m ∧ News h₀ L s₁.heap news ∧ IsRange s₁.heap r 0 b 1 t u v ∧ Builtin.Range.small 0 b 1 = true ∧ Builtin.Range.rangeSize 0 b 1 = (n : Int) ∧ n ≤ sizeLine ∧ Inv 0 [] news ∧
      (∀ i ys news v I oI C oC D m₂ h tk (E' : Value → Shared → Prop), i < n → Inv i ys news → (∃ t, v = .int (i : Int) t) → LCg.NsObj oC m₂ → m₂ x = some v → Fr h₀ L h m → News h₀ L h ((I, oI) :: (C, oC) :: (D, LCg.lst ys) :: news) → LCg.Off3 I C D news → ((@Ne Nat I C) ∧ (@Ne Nat I D) ∧ (@Ne Nat C D)) →
        wpAny (model prog w) A (eval elt (compEnvC scope cl C env)) (EltEnd h₀ L m { s₁ with heap := h, toks := tk } I oI C oC D (LCg.lst ys) (fun y news' => Inv (i + 1) (ys ++ [y]) news')) E' { s₁ with heap := h, toks := tk }) ∧
      (∀ ys news D h tk, Inv n ys news → Fr h₀ L h (fun z => if z = y then some (.ref D) else m z) → News h₀ L h ((D, LCg.lst ys) :: news) → LCg.Off1 D news → Q .next { s₁ with heap := h, toks := tk })) E s) :
    wpAny (model prog w) A (exec (.Assign [.Name y py] (.ListComp elt [⟨.Name x px, iter, [], 0⟩] scope pos) spos) env) Q E s := by
  refine LCg.Assign_ListComp_U F₀ hLe hsw hclos hcell hkind hnames hx hy hp (wpAny_mono h (fun xv s₁ ⟨r, b, t, u, v, news, hxv, F, N, hr, hsm, hn, hsz, hI, step, fin⟩ => ?_) fun _ _ e => e) hs
  subst hxv
  refine LCg.CompSrc.range hh F N hr hsm hn hsz fun g => compRest_inv n Inv (fun _ _ _ _ => trivial) (fun i ys news v I oI C oC D m₂ h tk E' hi hI hP => ?_) (fun ys news hI => ?_) n 0 [] news (by omega) hI
  · exact step i ys news v I oI C oC D m₂ h tk E' hi hI (by obtain ⟨t, rfl⟩ := hP; exact ⟨t, by rw [Int.zero_add]⟩)
  · exact fun D h tk F N off => fin ys news D h tk hI F N off
end
end Mine
-- part Filt
namespace Mine
set_option maxRecDepth 100000
set_option maxHeartbeats 8000000
theorem ints_at {vs : List Value} {f : List Int} (h : IntsAre vs f) : ∀ {i : Nat} {v : Value}, vs[i]? = some v → i < f.length ∧ ∃ t, v = .int (f.getD i 0) t := by
  induction h with
  | nil => intro i v e; exact absurd e (by simp)
  | @cons n t vs ns _ ih =>
    intro i v e
    cases i with
    | zero =>
      simp at e
      exact ⟨by simp, t, by rw [← e]; rfl⟩
    | succ i =>
      simp at e
      obtain ⟨h1, t, h2⟩ := ih e
      exact ⟨by simp; omega, t, by rw [h2]; rfl⟩
theorem filter_snoc (p : Int → Bool) (f : List Int) (i : Nat) (hi : i < f.length) : (f.take (i + 1)).filter p = (f.take i).filter p ++ (if p (f.getD i 0) = true then [f.getD i 0] else []) := by
  rw [List.take_succ, List.filter_append, List.getD_eq_getElem?_getD, List.getElem?_eq_getElem hi]
  simp [List.filter_cons]
section
variable {prog : Program} {w : World} {A : Around} {E : Value → Shared → Prop} {s : Shared} {h₀ : Heap} {L : Addr} {m : Str → Option Value} {env : Env}
noncomputable def FiltTurn (prog : Program) (w : World) (A : Around) (h₀ : Heap) (L : Addr) (m : Str → Option Value) (env : Env) (ct elt : Expr) (x : Str) (scope : Scope) (cl : List (Str × Addr)) (p : Int → Bool) (nw : List (Addr × Obj)) (n : Int) (s₁ : Shared) : Prop :=
  ∀ t I oI C oC D ys m₂ h tk (E' : Value → Shared → Prop), LCg.NsObj oC m₂ → m₂ x = some (.int n t) → Fr h₀ L h m → News h₀ L h ((I, oI) :: (C, oC) :: (D, LCg.lst ys) :: nw) → LCg.Off3 I C D nw → ((@Ne Nat I C) ∧ (@Ne Nat I D) ∧ (@Ne Nat C D)) →
    wpAny (model prog w) A (isTrue ct (compEnvC scope cl C env) (eval ct (compEnvC scope cl C env))) (fun ok s' => if ok = true then
      wpAny (model prog w) A (eval elt (compEnvC scope cl C env)) (EltEnd h₀ L m { s₁ with heap := h, toks := tk } I oI C oC D (LCg.lst ys) (fun y news' => news' = nw ∧ p n = true ∧ ∃ t, y = .int n t)) E' s'
      else EltEnd h₀ L m { s₁ with heap := h, toks := tk } I oI C oC D (LCg.lst ys) (fun _ news' => news' = nw ∧ p n = false) Value.none s') E' { s₁ with heap := h, toks := tk }
noncomputable def FiltGo (prog : Program) (w : World) (A : Around) (h₀ : Heap) (L : Addr) (m : Str → Option Value) (env : Env) (ct elt : Expr) (x : Str) (scope : Scope) (cl : List (Str × Addr)) (f : List Int) (p : Int → Bool) (Q : Value → Shared → Prop) (xv : Value) (s₁ : Shared) : Prop :=
  ∃ ax vs c nw, xv = .ref ax ∧ Fr h₀ L s₁.heap m ∧ News h₀ L s₁.heap nw ∧ (ax, W.listOf vs.toArray c) ∈ nw ∧ IntsAre vs f ∧ vs.length ≤ sizeLine ∧
    (∀ n, n ∈ f → FiltTurn prog w A h₀ L m env ct elt x scope cl p nw n s₁) ∧
    ∀ ys D h tk, IntsAre ys (f.filter p) → Fr h₀ L h m → News h₀ L h ((D, LCg.lst ys) :: nw) → LCg.Off1 D nw → Q (.ref D) { s₁ with heap := h, toks := tk }
theorem FiltGo.intro {ct elt : Expr} {x : Str} {scope : Scope} {cl : List (Str × Addr)} {f : List Int} {p : Int → Bool} {Q : Value → Shared → Prop} {s₁ : Shared} {ax : Addr} {vs : List Value} {c : Nat} {nw : List (Addr × Obj)}
    (F : Fr h₀ L s₁.heap m) (N : News h₀ L s₁.heap nw) (hm : (ax, W.listOf vs.toArray c) ∈ nw) (hv : IntsAre vs f) (hsz : vs.length ≤ sizeLine)
    (step : ∀ n, n ∈ f → FiltTurn prog w A h₀ L m env ct elt x scope cl p nw n s₁)
    (fin : ∀ ys D h tk, IntsAre ys (f.filter p) → Fr h₀ L h m → News h₀ L h ((D, LCg.lst ys) :: nw) → LCg.Off1 D nw → Q (.ref D) { s₁ with heap := h, toks := tk }) :
    FiltGo prog w A h₀ L m env ct elt x scope cl f p Q (.ref ax) s₁ := ⟨ax, vs, c, nw, rfl, F, N, hm, hv, hsz, step, fin⟩
theorem filt_rest {ct elt : Expr} {x : Str} {scope : Scope} {cl : List (Str × Addr)} {S : List (Addr × Obj) → Prop} {vs : List Value} {Fin : List Value → List (Addr × Obj) → Prop} {f : List Int} {p : Int → Bool} {nw : List (Addr × Obj)} (hv : IntsAre vs f) (hS : S nw)
    (step : ∀ n, n ∈ f → FiltTurn prog w A h₀ L m env ct elt x scope cl p nw n s)
    (fin : ∀ ys, IntsAre ys (f.filter p) → Fin ys nw) : ∀ k i ys, i + k = f.length → IntsAre ys ((f.take i).filter p) → LCt.CompRestT prog w A h₀ L m env ct elt x scope cl s S (fun i v => vs.toArray[i]? = some v) Fin k i ys nw
  | 0, i, ys, e, hI => LCt.CompRestT.zero (fin ys (by rw [List.take_of_length_le (by omega)] at hI; exact hI))
  | k + 1, i, ys, e, hI => LCt.CompRestT.succ fun v I oI C oC D m₂ h tk E' hP hoC hx F N off ne => by
    obtain ⟨hi, t, rfl⟩ := ints_at hv (i := i) (v := v) (by simpa using hP)
    have hmem : f.getD i 0 ∈ f := by rw [List.getD_eq_getElem?_getD, List.getElem?_eq_getElem hi]; exact List.getElem_mem hi
    refine wpAny_mono (step _ hmem t I oI C oC D ys m₂ h tk E' hoC hx F N off ne) (fun ok s' hq => ?_) fun _ _ e => e
    by_cases hok : ok = true
    · rw [if_pos hok] at hq ⊢
      refine wpAny_mono hq (fun y s₂ ⟨h', tk', news', e', F', N', off', hnw, hp, t', hy⟩ => ?_) fun _ _ e => e
      subst hnw
      refine ⟨h', tk', news', e', F', N', off', hS, filt_rest hv hS step fin k (i + 1) (ys ++ [y]) (by omega) ?_⟩
      rw [filter_snoc p f i hi, if_pos hp, hy]
      exact hI.append (IntsAre.cons _ _ IntsAre.nil)
    · rw [if_neg hok] at hq ⊢
      obtain ⟨h', tk', news', e', F', N', off', hnw, hp⟩ := hq
      subst hnw
      refine ⟨h', tk', news', e', F', N', off', hS, filt_rest hv hS step fin k (i + 1) ys (by omega) ?_⟩
      rw [filter_snoc p f i hi, if_neg (by rw [hp]; decide), List.append_nil]
      exact hI
/-- a comprehension with a test over a list of whole numbers -/
theorem ListComp_filt {ct elt iter : Expr} {x : Str} {px : Pos} {scope : Scope} {cl : List (Str × Addr)} {pos : Pos} {Q : Value → Shared → Prop} (f : List Int) (p : Int → Bool) (F₀ : Fr h₀ L s.heap m)
    (hclos : closureFor scope env = pure cl) (hcell : ∀ y ∈ scope.names, y.2 ≠ .cell) (hkind : scope.kind = .function)
    (hnames : ∀ y ∈ scope.names, y.2 = .local → scope.names.lookup y.1 = some .local) (hx : scope.names.lookup x = some .local) (hh : A.handled = none)
    (hs : ∀ x, foldedSetIterable iter env x = pure x)
    (h : wpAny (model prog w) A (eval iter env) (FiltGo prog w A h₀ L m env ct elt x scope cl f p Q) E s) :
    wpAny (model prog w) A (eval (.ListComp elt [⟨.Name x px, iter, [ct], 0⟩] scope pos) env) Q E s := by
  refine LCt.ListComp_T F₀ hclos hcell hkind hnames hx (wpAny_mono h (fun xv s₁ ⟨ax, vs, c, nw, hxv, F, N, hm, hv, hsz, step, fin⟩ => ?_) fun _ _ e => e) hs
  subst hxv
  refine LCt.CompSrcT.ledger hh F N hm (by rw [List.size_toArray]; exact hsz) fun g => ?_
  have hS : LCg.SrcAt h₀ ax vs.toArray nw := Or.inr ⟨_, hm, rfl, _, rfl⟩
  refine filt_rest (s := { s₁ with heap := g }) (f := f) (p := p) hv hS (fun n hn => step n hn) (fun ys hI => ?_) vs.toArray.size 0 [] (by rw [List.size_toArray, hv.length]; omega) IntsAre.nil
  exact fun D h tk F N off => fin ys D h tk hI F N off
end
end Mine
-- part C4
namespace Mine
example : True := by
  w_top off
  trivial
set_option maxRecDepth 100000
set_option maxHeartbeats 8000000
example : PySem.Challenge.rw_qz0090_01 = PySem.Challenge.rw_qz0090_01 ∧ hd.heap_1 = hd.heap_1 := by
  k_fill
  exact ⟨rfl, rfl⟩
local macro_rules | `(tactic| k_room) => `(tactic| ktr_room)
local macro_rules | `(tactic| k_units) => `(tactic| ktr_units)
local macro_rules | `(tactic| walk_at "pyIter ref") => `(tactic| k_extra "my pyIter")
local macro_rules | `(tactic| walk_at "call ref") => `(tactic| k_extra "my call")

noncomputable def DueJ (fl c2 c1 c0 : Addr) (ow : Obj) (f : Nat → List Int) (i : Nat) (nx : List (Addr × Obj)) : Prop :=
  ∃ o2 o1 v2 v1 c vs, nx = [(fl, W.listOf vs.toArray c), (c2, o2), (c1, o1), (c0, ow)] ∧ IntsAre vs (f i) ∧ o2.data = .cell v2 ∧ o1.data = .cell v1
theorem due_start {fl c2 c1 c0 : Addr} {ow o2 o1 : Obj} {v2 v1 : Option Value} {op : Str} {l r : List Int} (h2 : o2.data = .cell v2) (h1 : o1.data = .cell v1) : DueJ fl c2 c1 c0 ow (lawN op l r) 0 [(fl, W.listOf #[] 0), (c2, o2), (c1, o1), (c0, ow)] :=
  ⟨o2, o1, v2, v1, 0, [], rfl, IntsAre.nil, h2, h1⟩

noncomputable def Halt (P : Prop) : Prop := P
theorem halt {P : Prop} (h : Halt P) : P := h
theorem Halt.out {P : Prop} (h : P) : Halt P := h
noncomputable def BitsJ (nw : List (Addr × Obj)) (f : Nat → List Int) (i : Nat) (ys : List Value) (nx : List (Addr × Obj)) : Prop := nx = nw ∧ IntsAre ys (f i)
theorem ListComp_bits {prog : Program} {w : World} {A : Around} {E : Value → Shared → Prop} {s : Shared} {h₀ : Heap} {L : Addr} {m : Str → Option Value} {env : Env} {elt : Expr} {x : Str} {px : Pos} {iter : Expr} {scope : Scope} {cl : List (Str × Addr)} {pos : Pos} {Q : Value → Shared → Prop} {nw : List (Addr × Obj)} (n : Nat) (f : Nat → List Int) (F₀ : Fr h₀ L s.heap m) (_N₀ : News h₀ L s.heap nw)
    (hclos : closureFor scope env = pure cl) (hcell : ∀ y ∈ scope.names, y.2 ≠ .cell) (hkind : scope.kind = .function)
    (hnames : ∀ y ∈ scope.names, y.2 = .local → scope.names.lookup y.1 = some .local) (hx : scope.names.lookup x = some .local) (hh : A.handled = none)
    (hs : ∀ x, foldedSetIterable iter env x = pure x)
    (h : wpAny (model prog w) A (eval iter env) (CompGo prog w A h₀ L m env elt x scope cl n (BitsJ nw f) Q) E s) :
    wpAny (model prog w) A (eval (.ListComp elt [⟨.Name x px, iter, [], 0⟩] scope pos) env) Q E s := ListComp_range n (BitsJ nw f) F₀ hclos hcell hkind hnames hx hh hs h
noncomputable def bitsN (op : Str) (a b : Int) (n : Nat) : List Int := (List.range n).map (bitK op a b)
local macro_rules | `(tactic| walk_at "eval ListComp") => `(tactic| k_extra "my comp")
local macro_rules | `(tactic| walk_at "CompGo") => `(tactic| k_extra "my go")
local macro_rules | `(tactic| walk_at "FiltGo") => `(tactic| k_extra "my filt")
local macro_rules | `(tactic| walk_at "EltEnd") => `(tactic| k_extra "my elt")

local macro_rules | `(tactic| walk_at "binaryOp Pow int int") => `(tactic| k_extra "my pow")
local macro_rules | `(tactic| walk_at "binaryOp FloorDiv int int") => `(tactic| (refine div_p2 (by assumption) ?_))
local macro_rules | `(tactic| walk_at "binaryOp Mod int int") => `(tactic| (refine mod_p2 ?_))
local macro_rules | `(tactic| walk_at "binaryOp Mult int int") => `(tactic| (refine mul_p2 ?_))

local macro_rules | `(tactic| walk_at "eval IfExp") => `(tactic| k_extra "my if")
local macro_rules | `(tactic| walk_at "IntIs") => `(tactic| k_extra "my int")
noncomputable def IntIs (x : Int) (h₀ : Heap) (L : Addr) (m : Str → Option Value) (nw : List (Addr × Obj)) (s : Shared) (v : Value) (s' : Shared) : Prop := ∃ t h2 tk, v = .int x t ∧ s' = { s with heap := h2, toks := tk } ∧ Fr h₀ L h2 m ∧ News h₀ L h2 nw
theorem IntIs.intro {x y : Int} {h₀ : Heap} {L : Addr} {m : Str → Option Value} {nw : List (Addr × Obj)} {s s' : Shared} {t : Tok} (F : Fr h₀ L s'.heap m) (N : News h₀ L s'.heap nw) (hxy : y = x) (h : ∃ h2 tk, s' = { s with heap := h2, toks := tk }) : IntIs x h₀ L m nw s (.int y t) s' := by
  obtain ⟨h2, tk, rfl⟩ := h
  exact ⟨t, h2, tk, by rw [hxy], rfl, F, N⟩
theorem int_is {prog : Program} {w : World} {A : Around} {E : Value → Shared → Prop} {s : Shared} {Q : Value → Shared → Prop} {c : Sem Value} {h₀ : Heap} {L : Addr} {m : Str → Option Value} {nw : List (Addr × Obj)} (x : Int) (_ : Fr h₀ L s.heap m) (_ : News h₀ L s.heap nw) (h : wpAny (model prog w) A c (IntIs x h₀ L m nw s) E s) (hq : ∀ t h2 tk, Fr h₀ L h2 m → News h₀ L h2 nw → Q (.int x t) { s with heap := h2, toks := tk }) : wpAny (model prog w) A c Q E s :=
  wpAny_mono h (fun v s' ⟨t, h2, tk, hv, hs, F, N⟩ => by rw [hv, hs]; exact hq t h2 tk F N) (fun _ _ e => e)
theorem news_tail {h₀ h : Heap} {L : Addr} {p : Addr × Obj} {nw : List (Addr × Obj)} (N : News h₀ L h (p :: nw)) : News h₀ L h nw := fun q hq => N q (List.mem_cons_of_mem _ hq)
local macro_rules | `(tactic| walk_at "call builtin:list.append") => `(tactic| k_extra "my append")
theorem lawN_length (op : Str) (l r : List Int) (n : Nat) : (lawN op l r n).length = n := by unfold lawN; rw [List.length_map, List.length_range]
theorem due_next {fl c2 c1 c0 : Addr} {ow o2 o1 : Obj} {v2 v1 : Option Value} {op : Str} {l r : List Int} {i c : Nat} {vs : List Value} {t : Tok} (hv : IntsAre vs (lawN op l r i)) (h2 : o2.data = .cell v2) (h1 : o1.data = .cell v1) : DueJ fl c2 c1 c0 ow (lawN op l r) (i + 1) [(fl, W.listOf (vs.toArray.push (.int (bitsN op (l.getD i 0) (r.getD i 0) 21).sum t)) c), (c2, o2), (c1, o1), (c0, ow)] :=
  ⟨o2, o1, v2, v1, c, vs ++ [.int (bitsN op (l.getD i 0) (r.getD i 0) 21).sum t], by rw [List.push_toArray], by rw [lawN_succ]; exact hv.append (IntsAre.cons _ _ IntsAre.nil), h2, h1⟩
local macro_rules | `(tactic| walk_at "InvEndN") => `(tactic| k_extra "my end")
theorem bits_succ {op : Str} {a b : Int} {k : Nat} {ys : List Value} {t : Tok} (h : IntsAre ys (bitsN op a b k)) : IntsAre (ys ++ [.int (bitK op a b k) t]) (bitsN op a b (k + 1)) := by
  unfold bitsN at *
  rw [List.range_succ, List.map_append]
  exact h.append (IntsAre.cons _ _ IntsAre.nil)
theorem many_le (op : Str) (l r : List Int) : many op l r ≤ max l.length r.length := by unfold many; split <;> omega
theorem old_none {H g : Heap} {b : Addr} (k : GSub H g []) (h : g.get? b = none) : H.get? b = none := by
  cases e : H.get? b with
  | none => rfl
  | some o => rw [k b o e (fun hb => nomatch hb)] at h; exact absurd h (by simp)
noncomputable def DueOut (op : Str) (l r : List Int) (s : Shared) (v : Value) (s' : Shared) : Prop :=
  Goes [] s s' ∧ (((lawN op l r (many op l r)).filter (fun x => decide (1114111 < x)) = [] ∧ ∃ ad vs c, v = .ref ad ∧ s.heap.get? ad = none ∧ s'.heap.get? ad = some (W.listOf vs.toArray c) ∧ IntsAre vs (lawN op l r (many op l r))) ∨ (¬ (lawN op l r (many op l r)).filter (fun x => decide (1114111 < x)) = [] ∧ v = .none))
theorem c_due {w : World} {mean : ExcName → Option Value} {mg mb : Str → Option Value} {dp un : Nat} {gd : Option (List Code)} {cn : Str} {cs : Scope} {a : Addr} {ccd : Value} {cl : List (Str × Addr)} {outer : List Env} {A₀ : Around} {base h₀ : Heap} {L : Addr} {m : Str → Option Value} {s : Shared} {E : Value → Shared → Prop}
    (B : Below A₀ base outer h₀) (F : Fr h₀ L s.heap m) (X : (hd.heap_1 w.params).In h₀) (T : TOP mean mg mb h₀) (hk : cs.kind = .function) (hdp : dp + 40 < recursionLimit) (hun : un + 400 < cLine)
    (op : Str) (l r : List Int) (al ar : Addr) (lvs rvs : List Value) (t0 : Tok) (hx : Fine (l.length ≤ 4)) (hy : Fine (r.length ≤ 4)) (hl : s.heap.IsList al lvs.toArray) (hli : IntsAre lvs l) (hr : s.heap.IsList ar rvs.toArray) (hri : IntsAre rvs r) :
    wpAny (model PR w) (ktrTop dp un gd cn cs L a ccd cl outer) (call (.ref 396) [.str op t0, .ref al, .ref ar]) (fun v s' => Fine (DueOut op l r s v s')) E s := by
  have N : News h₀ L s.heap [] := News.nil
  have hw1 : l.length ≤ 1000 := Nat.le_trans hx.out (by decide)
  have hw2 : r.length ≤ 1000 := Nat.le_trans hy.out (by decide)
  have hl1 := hli.length
  have hr1 := hri.length
  refine wpAny_call ?_
  refine' code_cells ?k1 ?k2 ?k3 ?k4 ?k5 ?kA ?kF ?kK ?k6 ?k7 ?k8 ?k9 ?kB ?kD ?_ ?c2 ?c3 ?c4
  case kA => exact rfl
  case kF => exact rfl
  case kK => assumption
  case k1 => k_asm
  case k2 => k_asm
  case k3 => k_asm
  case k4 => k_asm
  case k5 => k_asm
  case k6 => k_is
  case k7 => k_is
  case k8 => ktr_room
  case k9 => exact BindsTo.of_eq rfl
  case kB => exact rfl
  case kD => decide +kernel
  case c2 => exact rfl
  case c3 => exact rfl
  case c4 => exact rfl
  intro g' L' h' tk' cells' F' N' Y' B' X' T' l1 kG'
  k_cells Y'
  simp only [List.cons_append, List.nil_append] at N'
  have hgl : g'.IsList al lvs.toArray := hl.at fun o e => kG' _ o e (fun hb => nomatch hb)
  have hgr : g'.IsList ar rvs.toArray := hr.at fun o e => kG' _ o e (fun hb => nomatch hb)
  dsimp only
  try k_fold
  k_with_none
  k_with "my pyIter" => ((rename Fr _ _ _ _ => lF); (rename News _ _ _ _ => lN); (rename IsRange _ _ _ _ _ _ _ _ => rgX); (with_unfolding_all refine' rangeLoopN (n := many op l r) (DueJ _ _ _ _ _ (lawN op l r)) ?q1 rgX ?q2 ?q3 lF lN (due_start (by assumption) (by assumption)) (fun i ti nx hi' tki own hin hJi hadr hsep Fi Ni => ?_) (fun u nx hd' tkd hJn Fd Nd => ?_)); (case q1 => with_unfolding_all rfl); (case q2 => k_extra "my small"); (case q3 => k_extra "my size"); (all_goals k_dflt (first | (obtain ⟨o2i, o1i, v2i, v1i, ci, vsi, rfl, hvs, hd2, hd1⟩ := hJi; simp only [List.cons_append, List.nil_append] at Ni) | (obtain ⟨o2i, o1i, v2i, v1i, ci, vsi, rfl, hvs, hd2, hd1⟩ := hJn) | skip)); (try clear lF lN))
  k_with "my if" => ((fail_if_success (with_reducible show wpAny _ _ _ (IntIs _ _ _ _ _ _) _ _)); (rename Fr _ _ _ _ => lF); (rename News _ _ _ _ => lN); first | (with_reducible show wpAny _ _ (eval (Expr.IfExp _ _ _ ⟨236, _, _, _⟩) _) _ _ _; refine int_is ((many op l r : Nat) : Int) lF lN ?_ (fun ti hi tki Fi Ni => ?_)) | (with_reducible show wpAny _ _ (eval (Expr.IfExp _ _ _ ⟨239, _, _, _⟩) _) _ _ _; refine int_is (l.getD i 0) lF lN ?_ (fun ti hi tki Fi Ni => ?_)) | (with_reducible show wpAny _ _ (eval (Expr.IfExp _ _ _ ⟨240, _, _, _⟩) _) _ _ _; refine int_is (r.getD i 0) lF lN ?_ (fun ti hi tki Fi Ni => ?_)))
  k_with "my int" => ((rename Fr _ _ _ _ => lF); (rename News _ _ _ _ => lN); refine IntIs.intro lF lN ?_ ⟨_, _, rfl⟩; first | (have e := many_and (by assumption) (l := l) (r := r); split <;> omega) | (have e := many_no (by assumption) (l := l) (r := r); split <;> omega) | (k_dflt exact rfl) | (k_dflt exact (getD_out (by omega)).symm))
  k_with "my comp" => (k_here; (with_reducible show wpAny _ _ (eval (Expr.ListComp (Expr.Name _ _) _ _ _) _) _ _ _); (rename Fr _ _ _ _ => lF); (refine' ListComp_filt (lawN op l r (many op l r)) (fun x => decide (1114111 < x)) lF ?hclos ?hcell ?hkind ?hnames ?hx ?hh ?hs ?_); (case hclos => with_unfolding_all rfl); (case hcell => decide); (case hkind => with_unfolding_all rfl); (case hnames => decide); (case hx => with_unfolding_all rfl); (case hh => with_unfolding_all rfl); (case hs => intro _; with_unfolding_all rfl))
  k_with "my filt" => ((rename Fr _ _ _ _ => lF); (rename News _ _ _ _ => lN); k_dflt ((refine' FiltGo.intro lF lN (List.mem_cons_self ..) hvs ?q1 (fun n hn t I oI C oC Dk ys m₂ hk tok E' hoC hxk Fk Nk offk nek => ?_) (fun ys Dk hk tok hys Fk Nk offk => ?_)); (case q1 => k_extra "my length")))
  k_with "my elt" => ((rename Fr _ _ _ _ => Fz); (rename News _ _ _ _ => Nz); refine EltEnd.intro Fz Nz (fun p hp => hp) offk ?_; k_dflt (first | exact ⟨rfl, decide_eq_true (by assumption), _, rfl⟩ | exact ⟨rfl, decide_eq_false (by assumption)⟩))
  k_with "my comp" => (k_here; (with_reducible show wpAny _ _ (eval (Expr.ListComp (Expr.BinOp _ _ _ _) _ _ _) _) _ _ _); (rename Fr _ _ _ _ => lF); (rename News _ _ _ _ => lN); (refine' ListComp_bits 21 (bitsN op (l.getD i 0) (r.getD i 0)) lF lN ?hclos ?hcell ?hkind ?hnames ?hx ?hh ?hs ?_); (case hclos => with_unfolding_all rfl); (case hcell => decide); (case hkind => with_unfolding_all rfl); (case hnames => decide); (case hx => with_unfolding_all rfl); (case hh => with_unfolding_all rfl); (case hs => intro _; with_unfolding_all rfl))
  k_with "my go" => ((rename Fr _ _ _ _ => lF); (rename News _ _ _ _ => lN); (rename IsRange _ _ _ _ _ _ _ _ => rgX); (with_unfolding_all refine' CompGo.intro lF lN rgX (by decide) (by decide) (by rw [sizeLine_eq]; decide) ⟨rfl, IntsAre.nil⟩ (fun k ys nk tk I oI C oC Dk m₂ hk tok E' hik hIk hoC hxk Fk Nk offk nek => ?_) (fun ys nk Dk hk tok hIk Fk Nk offk => ?_)); (all_goals k_dflt (obtain ⟨rfl, hys⟩ := hIk)))
  k_with "my pow" => (refine pow_p2 hik ?_)
  k_with "my room" => ((try dsimp only [ktrTop]); (try simp only [depth_deeper, units_deeper]); omega)
  k_with "my call" => ((with_reducible show wpAny _ _ (call (Value.ref 391) _) _ _ _); (rename Fr _ _ _ _ => Fz); k_dflt ((refine' wpAny_mono (c_bit ?mB Fz ?mX ?mT ?mk ?mdp ?mun op _ _ _ _ _ (bitAt_lo _ _) (bitAt_hi _ _) (bitAt_lo _ _) (bitAt_hi _ _)) ?_ (fun _ _ x => x)); (case mB => k_asm); (case mX => k_asm); (case mT => k_asm); (case mk => exact rfl); (case mdp => k_extra "my room"); (case mun => k_extra "my room"); intro vz sz hz; (obtain ⟨⟨h2, tk2, rfl, hk2⟩, t2, rfl⟩ := hz); (rename News _ _ _ _ => Nz); (have hk3 : ∀ b o, _ → h2.get? b = some o := fun b o => hk2 b o (fun hb => nomatch hb)); (have F2 := Fz.keeps hk3); (have N2 := Nz.grown hk3); (clear Fz Nz hk3 hk2); (try dsimp only)))
  k_with "my elt" => ((rename Fr _ _ _ _ => Fz); (rename News _ _ _ _ => Nz); refine EltEnd.intro Fz Nz (fun p hp => hp) offk ?_; k_dflt exact ⟨rfl, bits_succ hys⟩)
  k_with "my append" => (k_here; (with_reducible show wpAny _ _ (call (Value.builtin _) [Value.ref _, _]) _ _ _); k_dflt ((refine' append_K ?k1 ?k2 ?k3 ?_ ?z); (case k1 => k_asm); (case k2 => k_asm); (case k3 => k_upd); (case z => k_extra "my length"); k_whole); intro hz Fz Nz; (try k_sweep))
  k_with "my length" => (have hx2 := hx.out; have hy2 := hy.out; have hm := many_le op l r; have hv := hvs.length; rw [lawN_length] at hv; rw [sizeLine_eq, List.size_toArray]; omega)
  k_with "my length" => (have hx2 := hx.out; have hy2 := hy.out; have hm := many_le op l r; have hv := hvs.length; rw [lawN_length] at hv; rw [sizeLine_eq]; omega)
  k_with "my append" => ((rename News _ _ _ ((_, LCg.lst _) :: _) => Nz); (have Nz2 := news_tail Nz); clear Nz)
  k_with "my end" => ((rename Fr _ _ _ _ => Fz); (rename News _ _ _ _ => Nz); refine turn_doneN Fz Nz (due_next hvs (by assumption) (by assumption)) ?_ (fun p hp => List.mem_append_left own hp) (fun p hp => List.mem_append_right [_, _, _, _] hp) (fun z hz => if_neg hz); k_dflt exact rfl)
  k_with "my small" => (have hx2 := hx.out; have hy2 := hy.out; have hm := many_le op l r; exact small_one (by omega) (by omega) (by omega) (by omega))
  k_with "my size" => (have hm := many_le op l r; have hx2 := hx.out; have hy2 := hy.out; rw [rangeSize_nat]; omega)
  k_steps
  · rename Fr g' _ _ _ => Fz
    rename News g' _ _ _ => Nz
    have hnew := Nz _ (List.mem_cons_of_mem _ (List.mem_cons_of_mem _ List.mem_cons_self))
    refine ⟨goes_of Fz kG', Or.inl ⟨of_decide_eq_true (by assumption), _, _, _, rfl, old_none kG' hnew.2.2, hnew.1, hvs⟩⟩
  · rename Fr g' _ _ _ => Fz
    exact ⟨goes_of Fz kG', Or.inr ⟨of_decide_eq_false (by assumption), rfl⟩⟩
end Mine
-- part C5
namespace Mine
example : True := by
  w_top off
  trivial
set_option maxRecDepth 100000
set_option maxHeartbeats 8000000
example : PySem.Challenge.rw_qz0090_01 = PySem.Challenge.rw_qz0090_01 ∧ hd.heap_1 = hd.heap_1 := by
  k_fill
  exact ⟨rfl, rfl⟩
local macro_rules | `(tactic| k_room) => `(tactic| ktr_room)
local macro_rules | `(tactic| k_units) => `(tactic| ktr_units)
noncomputable def TinIs (w : World) (D : Addr) (k : Int) (o : Obj) : Prop := ∃ t, o.IsDictOf (PySem.strKind PR w) [(Str.ofString "cells", Value.ref D), (Str.ofString "at", Value.int k t)]
noncomputable def NipOut (w : World) (d D : Addr) (k many : Int) (s : Shared) (v : Value) (s' : Shared) : Prop :=
  Goes [d] s s' ∧ (∃ r t, v = .int r t ∧ 0 ≤ r ∧ r < many) ∧ ∃ o', s'.heap.get? d = some o' ∧ TinIs w D (k + 1) o'
theorem goes_of1 {g h' : Heap} {d L : Addr} {m : Str → Option Value} {s : Shared} {tk : Nat} (F : Fr g L h' m) (k : GSub s.heap g [d]) : Goes [d] s { s with heap := h', toks := tk } :=
  ⟨h', tk, rfl, fun b o hb eb => F.keep b o (k b o eb hb)⟩

theorem fmod_lo {a b : Int} (h : 0 < b) : 0 ≤ a.fmod b := by rw [Int.fmod_eq_emod_of_nonneg _ (by omega)]; exact Int.emod_nonneg _ (by omega)
theorem fmod_hi {a b : Int} (h : 0 < b) : a.fmod b < b := by rw [Int.fmod_eq_emod_of_nonneg _ (by omega)]; exact Int.emod_lt_of_pos _ h
theorem c_nip10 {w : World} {mean : ExcName → Option Value} {mg mb : Str → Option Value} {dp un : Nat} {gd : Option (List Code)} {cn : Str} {cs : Scope} {a : Addr} {ccd : Value} {cl : List (Str × Addr)} {outer : List Env} {A₀ : Around} {base h₀ : Heap} {L : Addr} {m : Str → Option Value} {s : Shared} {E : Value → Shared → Prop}
    (B : Below A₀ base outer h₀) (F : Fr h₀ L s.heap m) (X : (hd.heap_1 w.params).In h₀) (T : TOP mean mg mb h₀) (hk : cs.kind = .function) (hdp : dp + 20 < recursionLimit) (hun : un + 200 < cLine)
    (d D : Addr) (o : Obj) (k : Int) (t0 : Tok) (ws : List Value) (cells : List Int) (N : News h₀ L s.heap [(d, o)]) (hd0 : TinIs w D k o) (hk0 : 0 ≤ k) (hk1 : k ≤ 1000) (hl : s.heap.IsList D ws.toArray) (hli : IntsAre ws cells) (hlen : cells.length ≤ 1000) (hne : D ≠ d) :
    wpAny (model PR w) (ktrTop dp un gd cn cs L a ccd cl outer) (call (.ref 384) [.ref d, .int 10 t0]) (NipOut w d D k 10 s) E s := by
  obtain ⟨tt, hdd⟩ := hd0
  have hln := hli.length
  refine wpAny_call ?_
  refine' code_defG ?k1 ?k2 ?k3 ?k4 ?k5 ?kA ?kF ?kK ?k6 ?k7 ?k8 ?k9 ?kB ?_ ?c2 ?c3 ?c4 ?c5
  case kA => exact rfl
  case kF => exact rfl
  case kK => assumption
  case k1 => k_asm
  case k2 => k_asm
  case k3 => k_asm
  case k4 => exact N
  case k5 => k_asm
  case k6 => k_is
  case k7 => k_is
  case k8 => ktr_room
  case k9 => exact BindsTo.of_eq rfl
  case c5 => decide
  case kB => exact locs rfl
  case c2 => exact rfl
  case c3 => exact rfl
  case c4 => exact rfl
  intro g' L' h' FG' F' N' B' X' T' kG'
  have hgl : g'.IsList D ws.toArray := hl.at fun o e => kG' _ o e (by simpa using hne)
  dsimp only
  try k_fold
  k_with_none
  k_steps
  all_goals (
    rename Fr g' L' _ _ => Fz
    rename News g' L' _ _ => Nz
    rename Obj.IsDictOf _ _ _ => hdz
    exact ⟨goes_of1 Fz kG', ⟨_, _, rfl, fmod_lo (by decide), fmod_hi (by decide)⟩, _, (Nz _ List.mem_cons_self).1, _, hdz⟩)
theorem c_nip5 {w : World} {mean : ExcName → Option Value} {mg mb : Str → Option Value} {dp un : Nat} {gd : Option (List Code)} {cn : Str} {cs : Scope} {a : Addr} {ccd : Value} {cl : List (Str × Addr)} {outer : List Env} {A₀ : Around} {base h₀ : Heap} {L : Addr} {m : Str → Option Value} {s : Shared} {E : Value → Shared → Prop}
    (B : Below A₀ base outer h₀) (F : Fr h₀ L s.heap m) (X : (hd.heap_1 w.params).In h₀) (T : TOP mean mg mb h₀) (hk : cs.kind = .function) (hdp : dp + 20 < recursionLimit) (hun : un + 200 < cLine)
    (d D : Addr) (o : Obj) (k : Int) (t0 : Tok) (ws : List Value) (cells : List Int) (N : News h₀ L s.heap [(d, o)]) (hd0 : TinIs w D k o) (hk0 : 0 ≤ k) (hk1 : k ≤ 1000) (hl : s.heap.IsList D ws.toArray) (hli : IntsAre ws cells) (hlen : cells.length ≤ 1000) (hne : D ≠ d) :
    wpAny (model PR w) (ktrTop dp un gd cn cs L a ccd cl outer) (call (.ref 384) [.ref d, .int 5 t0]) (NipOut w d D k 5 s) E s := by
  obtain ⟨tt, hdd⟩ := hd0
  have hln := hli.length
  refine wpAny_call ?_
  refine' code_defG ?k1 ?k2 ?k3 ?k4 ?k5 ?kA ?kF ?kK ?k6 ?k7 ?k8 ?k9 ?kB ?_ ?c2 ?c3 ?c4 ?c5
  case kA => exact rfl
  case kF => exact rfl
  case kK => assumption
  case k1 => k_asm
  case k2 => k_asm
  case k3 => k_asm
  case k4 => exact N
  case k5 => k_asm
  case k6 => k_is
  case k7 => k_is
  case k8 => ktr_room
  case k9 => exact BindsTo.of_eq rfl
  case c5 => decide
  case kB => exact locs rfl
  case c2 => exact rfl
  case c3 => exact rfl
  case c4 => exact rfl
  intro g' L' h' FG' F' N' B' X' T' kG'
  have hgl : g'.IsList D ws.toArray := hl.at fun o e => kG' _ o e (by simpa using hne)
  dsimp only
  try k_fold
  k_with_none
  k_steps
  all_goals (
    rename Fr g' L' _ _ => Fz
    rename News g' L' _ _ => Nz
    rename Obj.IsDictOf _ _ _ => hdz
    exact ⟨goes_of1 Fz kG', ⟨_, _, rfl, fmod_lo (by decide), fmod_hi (by decide)⟩, _, (Nz _ List.mem_cons_self).1, _, hdz⟩)
theorem c_nip8 {w : World} {mean : ExcName → Option Value} {mg mb : Str → Option Value} {dp un : Nat} {gd : Option (List Code)} {cn : Str} {cs : Scope} {a : Addr} {ccd : Value} {cl : List (Str × Addr)} {outer : List Env} {A₀ : Around} {base h₀ : Heap} {L : Addr} {m : Str → Option Value} {s : Shared} {E : Value → Shared → Prop}
    (B : Below A₀ base outer h₀) (F : Fr h₀ L s.heap m) (X : (hd.heap_1 w.params).In h₀) (T : TOP mean mg mb h₀) (hk : cs.kind = .function) (hdp : dp + 20 < recursionLimit) (hun : un + 200 < cLine)
    (d D : Addr) (o : Obj) (k : Int) (t0 : Tok) (ws : List Value) (cells : List Int) (N : News h₀ L s.heap [(d, o)]) (hd0 : TinIs w D k o) (hk0 : 0 ≤ k) (hk1 : k ≤ 1000) (hl : s.heap.IsList D ws.toArray) (hli : IntsAre ws cells) (hlen : cells.length ≤ 1000) (hne : D ≠ d) :
    wpAny (model PR w) (ktrTop dp un gd cn cs L a ccd cl outer) (call (.ref 384) [.ref d, .int 8 t0]) (NipOut w d D k 8 s) E s := by
  obtain ⟨tt, hdd⟩ := hd0
  have hln := hli.length
  refine wpAny_call ?_
  refine' code_defG ?k1 ?k2 ?k3 ?k4 ?k5 ?kA ?kF ?kK ?k6 ?k7 ?k8 ?k9 ?kB ?_ ?c2 ?c3 ?c4 ?c5
  case kA => exact rfl
  case kF => exact rfl
  case kK => assumption
  case k1 => k_asm
  case k2 => k_asm
  case k3 => k_asm
  case k4 => exact N
  case k5 => k_asm
  case k6 => k_is
  case k7 => k_is
  case k8 => ktr_room
  case k9 => exact BindsTo.of_eq rfl
  case c5 => decide
  case kB => exact locs rfl
  case c2 => exact rfl
  case c3 => exact rfl
  case c4 => exact rfl
  intro g' L' h' FG' F' N' B' X' T' kG'
  have hgl : g'.IsList D ws.toArray := hl.at fun o e => kG' _ o e (by simpa using hne)
  dsimp only
  try k_fold
  k_with_none
  k_steps
  all_goals (
    rename Fr g' L' _ _ => Fz
    rename News g' L' _ _ => Nz
    rename Obj.IsDictOf _ _ _ => hdz
    exact ⟨goes_of1 Fz kG', ⟨_, _, rfl, fmod_lo (by decide), fmod_hi (by decide)⟩, _, (Nz _ List.mem_cons_self).1, _, hdz⟩)
end Mine
-- part C6
namespace Mine
example : True := by
  w_top off
  trivial
set_option maxRecDepth 100000
set_option maxHeartbeats 8000000
example : PySem.Challenge.rw_qz0090_01 = PySem.Challenge.rw_qz0090_01 ∧ hd.heap_1 = hd.heap_1 := by
  k_fill
  exact ⟨rfl, rfl⟩
local macro_rules | `(tactic| k_room) => `(tactic| ktr_room)
local macro_rules | `(tactic| k_units) => `(tactic| ktr_units)
local macro_rules | `(tactic| walk_at "exec While") => `(tactic| k_extra "my while")
local macro_rules | `(tactic| walk_at "SeqLeaf") => `(tactic| k_extra "my leaf")
local macro_rules | `(tactic| walk_at "StopUp") => `(tactic| k_extra "my stop")
noncomputable def hasIn (st y : Str) : Bool := !(Builtin.Str.occurrences st y 0 st.length 1).isEmpty
noncomputable def inC (st x : Str) (k : Int) : Bool := if k < (x.length : Int) then hasIn st (Txt.item x k) else false
theorem in_yes {st x : Str} {k : Int} (h : k < (x.length : Int)) (h2 : (Builtin.Str.occurrences st (Txt.item x k) 0 st.length 1).isEmpty = false) : true = inC st x k := by unfold inC hasIn; rw [if_pos h, h2]; rfl
theorem in_no {st x : Str} {k : Int} (h : k < (x.length : Int)) (h2 : (Builtin.Str.occurrences st (Txt.item x k) 0 st.length 1).isEmpty = true) : false = inC st x k := by unfold inC hasIn; rw [if_pos h, h2]; rfl
theorem in_end {st x : Str} {k : Int} (h : ¬ k < (x.length : Int)) : false = inC st x k := by unfold inC; rw [if_neg h]
theorem in_stop {st x : Str} {k : Int} : StopUp (inC st x) k (max k (x.length : Int)) := ⟨Int.le_max_left _ _, (in_end (by omega)).symm⟩
noncomputable def skipN (c : Int → Bool) : Nat → Int → Int
  | 0, k => k
  | n + 1, k => if c k = true then skipN c n (k + 1) else k
theorem skipN_eq {c : Int → Bool} : ∀ (n : Nat) {k₀ k : Int}, k₀ ≤ k → k ≤ k₀ + n → (∀ j, k₀ ≤ j → j < k → c j = true) → c k = false → k = skipN c n k₀
  | 0, k₀, k, h0, h1, _, _ => by unfold skipN; omega
  | n + 1, k₀, k, h0, h1, ha, hs => by
    unfold skipN
    by_cases he : k = k₀
    · subst he; rw [if_neg (by rw [hs]; decide)]
    · rw [if_pos (ha k₀ (Int.le_refl _) (by omega))]
      exact skipN_eq n (by omega) (by omega) (fun j h2 h3 => ha j (by omega) h3) hs
noncomputable def skipF (st x : Str) (k : Int) : Int := skipN (inC st x) x.length k
theorem skip_eq {st x : Str} {k₀ k : Int} (h00 : 0 ≤ k₀) (h0 : k₀ ≤ k) (h1 : k ≤ max k₀ (x.length : Int)) (ha : ∀ j, k₀ ≤ j → j < k → inC st x j = true) (hs : inC st x k = false) : k = skipF st x k₀ :=
  skipN_eq _ h0 (by omega) ha hs
theorem keeps_self {s : Shared} {tk : Nat} : Keeps s { s with toks := tk } := ⟨s.heap, tk, rfl, fun _ _ e => e⟩
theorem old_gone {H g : Heap} {b : Addr} (k : GSub H g []) (h : g.get? b = none) : H.get? b = none := by
  cases e : H.get? b with
  | none => rfl
  | some o => rw [k b o e (fun hb => nomatch hb)] at h; exact absurd h (by simp)
noncomputable def headAt (x : Str) : Int := skipF (Str.ofString " \t\n\r\x0c\x0b") x 0
noncomputable def headSign (x : Str) (k : Int) : Bool := Txt.slice x (some k) (some (k + 1)) == Str.ofString "+" || Txt.slice x (some k) (some (k + 1)) == Str.ofString "-"
noncomputable def headE (x : Str) : Int := if headSign x (headAt x) = true then headAt x + 1 else headAt x
noncomputable def headEnd (x : Str) : Int := if skipF (Str.ofString "0123456789") x (headE x) = headE x then headAt x else skipF (Str.ofString "0123456789") x (headE x)
noncomputable def pairOf (a b : Int) (t u : Tok) : Obj := { cls := Value.type "tuple", data := Data.seq #[Value.int a t, Value.int b u] }
noncomputable def HeadOut (x : Str) (s : Shared) (v : Value) (s' : Shared) : Prop :=
  Goes [] s s' ∧ ∃ D a b t u, v = .ref D ∧ s.heap.get? D = none ∧ s'.heap.get? D = some (pairOf a b t u) ∧ a = headAt x ∧ b = headEnd x
theorem c_head {w : World} {mean : ExcName → Option Value} {mg mb : Str → Option Value} {dp un : Nat} {gd : Option (List Code)} {cn : Str} {cs : Scope} {a : Addr} {ccd : Value} {cl : List (Str × Addr)} {outer : List Env} {A₀ : Around} {base h₀ : Heap} {L : Addr} {m : Str → Option Value} {s : Shared} {E : Value → Shared → Prop}
    (B : Below A₀ base outer h₀) (F : Fr h₀ L s.heap m) (X : (hd.heap_1 w.params).In h₀) (T : TOP mean mg mb h₀) (hk : cs.kind = .function) (hdp : dp + 20 < recursionLimit) (hun : un + 200 < cLine)
    (x : Str) (t0 : Tok) (hx : x.length ≤ 1000) :
    wpAny (model PR w) (ktrTop dp un gd cn cs L a ccd cl outer) (call (.ref 109) [.str x t0]) (fun v s' => Fine (HeadOut x s v s')) E s := by
  have N : News h₀ L s.heap [] := News.nil
  refine wpAny_call ?_
  refine' code_defG ?k1 ?k2 ?k3 ?k4 ?k5 ?kA ?kF ?kK ?k6 ?k7 ?k8 ?k9 ?kB ?_ ?c2 ?c3 ?c4 ?c5
  case kA => exact rfl
  case kF => exact rfl
  case kK => assumption
  case k1 => k_asm
  case k2 => k_asm
  case k3 => k_asm
  case k4 => k_asm
  case k5 => k_asm
  case k6 => k_is
  case k7 => k_is
  case k8 => ktr_room
  case k9 => exact BindsTo.of_eq rfl
  case c5 => decide
  case kB => exact locs rfl
  case c2 => exact rfl
  case c3 => exact rfl
  case c4 => exact rfl
  intro g' L' h' FG' F' N' B' X' T' kG'
  dsimp only
  try k_fold
  k_with_none
  k_with "my leaf" => ((refine SeqLeaf.intro ⟨?_, keeps_self⟩); first | exact in_end (by assumption) | exact in_yes (by assumption) (by assumption) | exact in_no (by assumption) (by assumption))
  k_with "my while" => ((with_reducible show wpAny _ _ (exec (Stmt.While _ _ _ ⟨48, _, _, _⟩) _) _ _ _); (rename Fr _ _ _ _ => F'); (rename News _ _ _ _ => N'); (with_reducible apply While_up_aug (c := inC (Str.ofString "0123456789") x) (stop := in_stop)); (case F => with_unfolding_all exact F'); (case Nw => with_unfolding_all exact N'); (case hmi => with_unfolding_all rfl); (case' done => (intro kz tz hz tkz h0z h1z haz hsz mkz Fz Nz; obtain rfl := skip_eq (by omega) h0z h1z haz hsz)); (case' gturn => intros); (case' gtest => (intros; (with_reducible refine wpAny_leafK ?_))))
  k_with "my while" => ((with_reducible show wpAny _ _ (exec (Stmt.While _ _ _ ⟨42, _, _, _⟩) _) _ _ _); (rename Fr _ _ _ _ => F'); (rename News _ _ _ _ => N'); (with_reducible apply While_up_aug (c := inC (Str.ofString " \t\n\r\x0c\x0b") x) (stop := in_stop)); (case F => with_unfolding_all exact F'); (case Nw => with_unfolding_all exact N'); (case hmi => with_unfolding_all rfl); (case' done => (intro kz tz hz tkz h0z h1z haz hsz mkz Fz Nz; obtain rfl := skip_eq (by omega) h0z h1z haz hsz)); (case' gturn => intros); (case' gtest => (intros; (with_reducible refine wpAny_leafK ?_))))
  k_steps
  all_goals (
    rename Fr g' L' _ _ => Fz
    rename News g' L' _ _ => Nz
    refine ⟨goes_of Fz kG', _, _, _, _, _, rfl, old_gone kG' (Nz _ List.mem_cons_self).2.2, (Nz _ List.mem_cons_self).1, rfl, ?_⟩
    unfold headEnd headE headSign headAt
    simp [*])
end Mine
-- part C7
namespace Mine
local macro_rules | `(tactic| walk_at "no such step") => `(tactic| skip)
example : True := by
  w_top off
  trivial
set_option maxRecDepth 100000
set_option maxHeartbeats 8000000
example : PySem.Challenge.rw_qz0090_01 = PySem.Challenge.rw_qz0090_01 ∧ hd.heap_1 = hd.heap_1 := by
  k_fill
  exact ⟨rfl, rfl⟩
local macro_rules | `(tactic| k_room) => `(tactic| ktr_room)
local macro_rules | `(tactic| k_units) => `(tactic| ktr_units)
local macro_rules | `(tactic| walk_at "exec While") => `(tactic| k_extra "my while")
local macro_rules | `(tactic| walk_at "SeqLeaf") => `(tactic| k_extra "my leaf")
local macro_rules | `(tactic| walk_at "call ref") => `(tactic| k_extra "my call")
theorem news_more {h₀ h h' : Heap} {L D : Addr} {m : Str → Option Value} {o : Obj} {nw : List (Addr × Obj)} (F : Fr h₀ L h m) (N : News h₀ L h nw) (k : ∀ b o, h.get? b = some o → h'.get? b = some o) (hn : h.get? D = none) (hs : h'.get? D = some o) : News h₀ L h' ((D, o) :: nw) := by
  intro p hp
  rcases List.mem_cons.mp hp with rfl | hp
  · refine ⟨hs, fun e => ?_, ?_⟩
    · obtain ⟨on, es, ep, en, _⟩ := F.ns
      have e : D = L := e
      rw [← e, hn] at en
      exact nomatch en
    · cases e : h₀.get? D with
      | none => rfl
      | some o => rw [F.keep _ _ e] at hn; exact nomatch hn
  · exact ⟨k _ _ (N p hp).1, (N p hp).2⟩
theorem skipN_ge {c : Int → Bool} : ∀ (n : Nat) (k : Int), k ≤ skipN c n k
  | 0, k => by unfold skipN; omega
  | n + 1, k => by
    unfold skipN
    split
    · have := skipN_ge (c := c) n (k + 1); omega
    · omega
theorem skipN_le {c : Int → Bool} {b : Int} (hc : ∀ j, b ≤ j → c j = false) : ∀ (n : Nat) (k : Int), skipN c n k ≤ max k b
  | 0, k => by unfold skipN; omega
  | n + 1, k => by
    unfold skipN
    split
    · rename_i hk
      have h1 : ¬ b ≤ k := fun h => by rw [hc k h] at hk; exact nomatch hk
      have := skipN_le hc n (k + 1); omega
    · omega
theorem skipF_ge (st x : Str) (k : Int) : k ≤ skipF st x k := skipN_ge _ _
theorem skipF_le (st x : Str) (k : Int) : skipF st x k ≤ max k (x.length : Int) := skipN_le (fun j h => (in_end (by omega)).symm) _ _
theorem headAt_ge (x : Str) : 0 ≤ headAt x := skipF_ge _ _ _
theorem headAt_le (x : Str) : headAt x ≤ (x.length : Int) := by have h := skipF_le (Str.ofString " \t\n\r\x0c\x0b") x 0; unfold headAt; omega
theorem headE_ge (x : Str) : headAt x ≤ headE x := by unfold headE; split <;> omega
theorem headEnd_ge (x : Str) : headAt x ≤ headEnd x := by
  have h := skipF_ge (Str.ofString "0123456789") x (headE x)
  have h2 := headE_ge x
  unfold headEnd
  split <;> omega
theorem headEnd_le (x : Str) : headEnd x ≤ (x.length : Int) := by
  have h := skipF_ge (Str.ofString "0123456789") x (headE x)
  have h1 := skipF_le (Str.ofString "0123456789") x (headE x)
  have h2 := headAt_le x
  have h3 := headE_ge x
  unfold headEnd
  by_cases e : skipF (Str.ofString "0123456789") x (headE x) = headE x
  · rw [if_pos e]; exact h2
  · rw [if_neg e]; omega
noncomputable def looksB (x : Str) : Bool := if headAt x = headEnd x then false else decide (skipF (Str.ofString " \t\n\r\x0c\x0b") x (headEnd x) = (x.length : Int))
noncomputable def LooksOut (x : Str) (s : Shared) (v : Value) (s' : Shared) : Prop := Goes [] s s' ∧ v = .bool (looksB x)
theorem c_looks {w : World} {mean : ExcName → Option Value} {mg mb : Str → Option Value} {dp un : Nat} {gd : Option (List Code)} {cn : Str} {cs : Scope} {a : Addr} {ccd : Value} {cl : List (Str × Addr)} {outer : List Env} {A₀ : Around} {base h₀ : Heap} {L : Addr} {m : Str → Option Value} {s : Shared} {E : Value → Shared → Prop}
    (B : Below A₀ base outer h₀) (F : Fr h₀ L s.heap m) (X : (hd.heap_1 w.params).In h₀) (T : TOP mean mg mb h₀) (hk : cs.kind = .function) (hdp : dp + 40 < recursionLimit) (hun : un + 400 < cLine)
    (x : Str) (t0 : Tok) (hx : x.length ≤ 1000) :
    wpAny (model PR w) (ktrTop dp un gd cn cs L a ccd cl outer) (call (.ref 123) [.str x t0]) (fun v s' => Fine (LooksOut x s v s')) E s := by
  have N : News h₀ L s.heap [] := News.nil
  have hb0 := headAt_ge x
  have hb1 := headEnd_ge x
  have hb2 := headEnd_le x
  refine wpAny_call ?_
  refine' code_defG ?k1 ?k2 ?k3 ?k4 ?k5 ?kA ?kF ?kK ?k6 ?k7 ?k8 ?k9 ?kB ?_ ?c2 ?c3 ?c4 ?c5
  case kA => exact rfl
  case kF => exact rfl
  case kK => assumption
  case k1 => k_asm
  case k2 => k_asm
  case k3 => k_asm
  case k4 => k_asm
  case k5 => k_asm
  case k6 => k_is
  case k7 => k_is
  case k8 => ktr_room
  case k9 => exact BindsTo.of_eq rfl
  case c5 => decide
  case kB => exact locs rfl
  case c2 => exact rfl
  case c3 => exact rfl
  case c4 => exact rfl
  intro g' L' h' FG' F' N' B' X' T' kG'
  dsimp only
  try k_fold
  k_with_none
  k_with "my room" => ((try dsimp only [ktrTop]); (try simp only [depth_deeper, units_deeper]); omega)
  k_with "my call" => ((with_reducible show wpAny _ _ (call (Value.ref 109) _) _ _ _); (rename Fr _ _ _ _ => Fz); k_dflt ((refine' wpAny_mono (c_head ?mB Fz ?mX ?mT ?mk ?mdp ?mun x _ hx) ?_ (fun _ _ x => x)); (case mB => k_asm); (case mX => k_asm); (case mT => k_asm); (case mk => exact rfl); (case mdp => k_extra "my room"); (case mun => k_extra "my room"); intro vz sz hz; (obtain ⟨⟨h2, tk2, rfl, hk2⟩, D2, a2, b2, t2, u2, rfl, hn2, hs2, rfl, rfl⟩ := hz); (rename News _ _ _ _ => Nz); (have hk3 : ∀ b o, _ → h2.get? b = some o := fun b o => hk2 b o (fun hb => nomatch hb)); (have F2 := Fz.keeps hk3); (have N2 := news_more Fz Nz hk3 hn2 hs2); (clear Fz Nz hk3 hk2); unfold pairOf at N2; (try dsimp only)))
  k_with "my leaf" => ((refine SeqLeaf.intro ⟨?_, keeps_self⟩); first | exact in_end (by assumption) | exact in_yes (by assumption) (by assumption) | exact in_no (by assumption) (by assumption))
  k_with "my while" => ((with_reducible show wpAny _ _ (exec (Stmt.While _ _ _ ⟨66, _, _, _⟩) _) _ _ _); (rename Fr _ _ _ _ => F'); (rename News _ _ _ _ => N'); (with_reducible apply While_up_aug (c := inC (Str.ofString " \t\n\r\x0c\x0b") x) (stop := in_stop)); (case F => with_unfolding_all exact F'); (case Nw => with_unfolding_all exact N'); (case hmi => with_unfolding_all rfl); (case' done => (intro kz tz hz tkz h0z h1z haz hsz mkz Fz Nz; obtain rfl := skip_eq (by omega) h0z h1z haz hsz)); (case' gturn => intros); (case' gtest => (intros; (with_reducible refine wpAny_leafK ?_))))
  k_steps
  · rename Fr g' L' _ _ => Fz
    have e : headAt x = headEnd x := by assumption
    exact ⟨goes_of Fz kG', by unfold looksB; rw [if_pos e]⟩
  · have Fy := Fz
    have e : ¬ headAt x = headEnd x := by assumption
    refine ⟨goes_of Fy kG', ?_⟩
    unfold looksB
    rw [if_neg e]
    exact congrArg Value.bool (Bool.eq_iff_iff.mpr ⟨fun h => decide_eq_true (beq_iff_eq.mp h), fun h => beq_iff_eq.mpr (of_decide_eq_true h)⟩)
end Mine
-- part C7b
namespace Mine
example : True := by
  w_top off
  trivial
set_option maxRecDepth 100000
set_option maxHeartbeats 8000000
example : PySem.Challenge.rw_qz0090_01 = PySem.Challenge.rw_qz0090_01 ∧ hd.heap_1 = hd.heap_1 := by
  k_fill
  exact ⟨rfl, rfl⟩
local macro_rules | `(tactic| k_room) => `(tactic| ktr_room)
local macro_rules | `(tactic| k_units) => `(tactic| ktr_units)
local macro_rules | `(tactic| walk_at "pyIter str") => `(tactic| k_extra "my for")
local macro_rules | `(tactic| walk_at "exec For") => `(tactic| k_extra "my exfor")
local macro_rules | `(tactic| walk_at "call ref") => `(tactic| k_extra "my call")
noncomputable def wrapV (n : Int) : Int := if (n % 18446744073709551616) / 9223372036854775808 = 0 then n % 18446744073709551616 else n % 18446744073709551616 - 18446744073709551616
theorem wrap_num {n : Int} : n.fmod (1 * 2 ^ Int.toNat 64) = n % 18446744073709551616 := by
  have e : ((1 : Int) * 2 ^ Int.toNat 64) = 18446744073709551616 := by decide
  rw [e]; exact Int.fmod_eq_emod_of_nonneg _ (by decide)
theorem wrap_top {n : Int} : (n % 18446744073709551616).fdiv (2 ^ (64 - 1 : Int).toNat) = (n % 18446744073709551616) / 9223372036854775808 := by
  have e : ((2 : Int) ^ (64 - 1 : Int).toNat) = 9223372036854775808 := by decide
  rw [e]; exact Int.fdiv_eq_ediv_of_nonneg _ (by decide)
theorem wrap_yes {n : Int} {t : Tok} (h : (n.fmod (1 * 2 ^ Int.toNat 64)).fdiv (2 ^ (64 - 1 : Int).toNat) ≠ 0) : ∃ t', Value.int (n.fmod (1 * 2 ^ Int.toNat 64) - 1 * 2 ^ Int.toNat 64) t = .int (wrapV n) t' := by
  have e : ((1 : Int) * 2 ^ Int.toNat 64) = 18446744073709551616 := by decide
  rw [wrap_num, wrap_top] at h
  rw [wrap_num, e]
  unfold wrapV
  rw [if_neg h]; exact ⟨_, rfl⟩
theorem wrap_no {n : Int} {t : Tok} (h : (n.fmod (1 * 2 ^ Int.toNat 64)).fdiv (2 ^ (64 - 1 : Int).toNat) = 0) : ∃ t', Value.int (n.fmod (1 * 2 ^ Int.toNat 64)) t = .int (wrapV n) t' := by
  rw [wrap_num, wrap_top] at h
  rw [wrap_num]
  unfold wrapV
  rw [if_pos h]; exact ⟨_, rfl⟩
theorem c_wrap {w : World} {mean : ExcName → Option Value} {mg mb : Str → Option Value} {dp un : Nat} {gd : Option (List Code)} {cn : Str} {cs : Scope} {a : Addr} {ccd : Value} {cl : List (Str × Addr)} {outer : List Env} {A₀ : Around} {base h₀ : Heap} {L : Addr} {m : Str → Option Value} {s : Shared} {E : Value → Shared → Prop}
    (B : Below A₀ base outer h₀) (F : Fr h₀ L s.heap m) (X : (hd.heap_1 w.params).In h₀) (T : TOP mean mg mb h₀) (hk : cs.kind = .function) (hdp : dp + 20 < recursionLimit) (hun : un + 200 < cLine)
    (n : Int) (t0 t1 : Tok) (hn0 : -18446744073709551616 ≤ n) (hn1 : n ≤ 18446744073709551616) :
    wpAny (model PR w) (ktrTop dp un gd cn cs L a ccd cl outer) (call (.ref 60) [.int n t0, .int 64 t1]) (fun v s' => Fine (IntOut (wrapV n) s v s')) E s := by
  have N : News h₀ L s.heap [] := News.nil
  refine wpAny_call ?_
  refine' code_defG ?k1 ?k2 ?k3 ?k4 ?k5 ?kA ?kF ?kK ?k6 ?k7 ?k8 ?k9 ?kB ?_ ?c2 ?c3 ?c4 ?c5
  case kA => exact rfl
  case kF => exact rfl
  case kK => assumption
  case k1 => k_asm
  case k2 => k_asm
  case k3 => k_asm
  case k4 => k_asm
  case k5 => k_asm
  case k6 => k_is
  case k7 => k_is
  case k8 => ktr_room
  case k9 => exact BindsTo.of_eq rfl
  case c5 => decide
  case kB => exact locs rfl
  case c2 => exact rfl
  case c3 => exact rfl
  case c4 => exact rfl
  intro g' L' h' FG' F' N' B' X' T' kG'
  dsimp only
  try k_fold
  k_with_none
  k_with "my room" => ((try dsimp only [ktrTop]); (try simp only [depth_deeper, units_deeper]); omega)
  k_steps
  · rename Fr g' L' _ _ => Fz
    exact ⟨goes_of Fz kG', wrap_yes (by assumption)⟩
  · rename Fr g' L' _ _ => Fz
    exact ⟨goes_of Fz kG', wrap_no (by assumption)⟩
theorem c_sub {w : World} {mean : ExcName → Option Value} {mg mb : Str → Option Value} {dp un : Nat} {gd : Option (List Code)} {cn : Str} {cs : Scope} {a : Addr} {ccd : Value} {cl : List (Str × Addr)} {outer : List Env} {A₀ : Around} {base h₀ : Heap} {L : Addr} {m : Str → Option Value} {s : Shared} {E : Value → Shared → Prop}
    (B : Below A₀ base outer h₀) (F : Fr h₀ L s.heap m) (X : (hd.heap_1 w.params).In h₀) (T : TOP mean mg mb h₀) (hk : cs.kind = .function) (hdp : dp + 40 < recursionLimit) (hun : un + 400 < cLine)
    (n : Int) (t0 t1 t2 : Tok) (hn0 : -18446744073709551616 ≤ n) (hn1 : n ≤ 18446744073709551616) :
    wpAny (model PR w) (ktrTop dp un gd cn cs L a ccd cl outer) (call (.ref 67) [.int 0 t2, .int n t0, .int 64 t1]) (fun v s' => Fine (IntOut (wrapV (0 - n)) s v s')) E s := by
  have N : News h₀ L s.heap [] := News.nil
  refine wpAny_call ?_
  refine' code_defG ?k1 ?k2 ?k3 ?k4 ?k5 ?kA ?kF ?kK ?k6 ?k7 ?k8 ?k9 ?kB ?_ ?c2 ?c3 ?c4 ?c5
  case kA => exact rfl
  case kF => exact rfl
  case kK => assumption
  case k1 => k_asm
  case k2 => k_asm
  case k3 => k_asm
  case k4 => k_asm
  case k5 => k_asm
  case k6 => k_is
  case k7 => k_is
  case k8 => ktr_room
  case k9 => exact BindsTo.of_eq rfl
  case c5 => decide
  case kB => exact locs rfl
  case c2 => exact rfl
  case c3 => exact rfl
  case c4 => exact rfl
  intro g' L' h' FG' F' N' B' X' T' kG'
  dsimp only
  try k_fold
  k_with_none
  k_with "my room" => ((try dsimp only [ktrTop]); (try simp only [depth_deeper, units_deeper]); omega)
  k_with "my room" => ((try dsimp only [ktrTop]); (try simp only [depth_deeper, units_deeper]); omega)
  k_with "my call" => ((with_reducible show wpAny _ _ (call (Value.ref 60) _) _ _ _); (rename Fr _ _ _ _ => Fz); k_dflt ((refine' wpAny_mono (c_wrap ?mB Fz ?mX ?mT ?mk ?mdp ?mun _ _ _ (by omega) (by omega)) ?_ (fun _ _ x => x)); (case mB => k_asm); (case mX => k_asm); (case mT => k_asm); (case mk => exact rfl); (case mdp => k_extra "my room"); (case mun => k_extra "my room"); intro vz sz hz; (obtain ⟨⟨h2, tk2, rfl, hk2⟩, t2, rfl⟩ := hz); (rename News _ _ _ _ => Nz); (have hk3 : ∀ b o, _ → h2.get? b = some o := fun b o => hk2 b o (fun hb => nomatch hb)); (have F2 := Fz.keeps hk3); (have N2 := Nz.grown hk3); (try clear Fz); (try clear Nz); (try clear hk3); (try clear hk2); (try dsimp only)))
  k_steps
  rename Fr g' L' _ _ => Fz
  exact ⟨goes_of Fz kG', _, rfl⟩
end Mine
-- part C8
namespace Mine
local macro_rules | `(tactic| walk_at "no such step") => `(tactic| skip)
example : True := by
  w_top off
  trivial
set_option maxRecDepth 100000
set_option maxHeartbeats 8000000
example : PySem.Challenge.rw_qz0090_01 = PySem.Challenge.rw_qz0090_01 ∧ hd.heap_1 = hd.heap_1 := by
  k_fill
  exact ⟨rfl, rfl⟩
local macro_rules | `(tactic| k_room) => `(tactic| ktr_room)
local macro_rules | `(tactic| k_units) => `(tactic| ktr_units)
local macro_rules | `(tactic| walk_at "pyIter str") => `(tactic| k_extra "my for")
local macro_rules | `(tactic| walk_at "exec For") => `(tactic| k_extra "my exfor")
local macro_rules | `(tactic| walk_at "call ref") => `(tactic| k_extra "my call")
noncomputable def numStep (a c : Int) : Int := if hasIn (Str.ofString "0123456789") ⟨#[c.toNat]⟩ = true then (a * 10 + Txt.find (Str.ofString "0123456789") ⟨#[c.toNat]⟩) % 18446744073709551616 else a
noncomputable def numF (l : List Int) : Int := l.foldl numStep 0
theorem numF_snoc (l : List Int) (c : Int) : numF (l ++ [c]) = numStep (numF l) c := by unfold numF; rw [List.foldl_append]; rfl
noncomputable def ntV (x : Str) : Int := numF (KStt.codes (Txt.slice x (some (headAt x)) (some (headEnd x))))
noncomputable def ntS (x : Str) : Bool := if headAt x < headEnd x then Txt.item x (headAt x) == Str.ofString "-" else false
noncomputable def ntN (x : Str) : Int := wrapV (if ntS x = true then - ntV x else ntV x)
theorem num_no {a : Int} {pre : List Int} {n : Nat} (h : (Builtin.Str.occurrences (Str.ofString "0123456789") ⟨#[n]⟩ 0 (Str.ofString "0123456789").length 1).isEmpty = true) (ha : a = numF pre) (h0 : 0 ≤ a) (h1 : a < 18446744073709551616) : a = numF (pre ++ [(n : Int)]) ∧ 0 ≤ a ∧ a < 18446744073709551616 := by
  refine ⟨?_, h0, h1⟩
  rw [numF_snoc, ← ha]
  unfold numStep hasIn
  rw [Int.toNat_natCast, h]
  rfl
theorem num_yes {a : Int} {pre : List Int} {n : Nat} (h : (Builtin.Str.occurrences (Str.ofString "0123456789") ⟨#[n]⟩ 0 (Str.ofString "0123456789").length 1).isEmpty = false) (ha : a = numF pre) : (a * 10 + Txt.find (Str.ofString "0123456789") ⟨#[n]⟩).fmod (1 * 2 ^ Int.toNat 64) = numF (pre ++ [(n : Int)]) ∧ 0 ≤ (a * 10 + Txt.find (Str.ofString "0123456789") ⟨#[n]⟩).fmod (1 * 2 ^ Int.toNat 64) ∧ (a * 10 + Txt.find (Str.ofString "0123456789") ⟨#[n]⟩).fmod (1 * 2 ^ Int.toNat 64) < 18446744073709551616 := by
  rw [wrap_num]
  refine ⟨?_, Int.emod_nonneg _ (by decide), Int.emod_lt_of_pos _ (by decide)⟩
  rw [numF_snoc, ← ha]
  unfold numStep hasIn
  rw [Int.toNat_natCast, h]
  rfl
theorem nt_neg {x : Str} {a : Int} {t : Tok} (ha : a = numF (KStt.codes (Txt.slice x (some (headAt x)) (some (headEnd x))))) (h : headAt x < headEnd x) (h2 : (Txt.item x (headAt x) == Str.ofString "-") = true) : ∃ t', Value.int (wrapV (-a)) t = .int (ntN x) t' := by
  have e : ntS x = true := by unfold ntS; rw [if_pos h]; exact h2
  unfold ntN; rw [if_pos e, ha]; exact ⟨_, rfl⟩
theorem nt_pos {x : Str} {a : Int} {t : Tok} (ha : a = numF (KStt.codes (Txt.slice x (some (headAt x)) (some (headEnd x))))) (h2 : (Txt.item x (headAt x) == Str.ofString "-") = false) : ∃ t', Value.int (wrapV a) t = .int (ntN x) t' := by
  have e : ¬ ntS x = true := by unfold ntS; split <;> simp [h2]
  unfold ntN; rw [if_neg e, ha]; exact ⟨_, rfl⟩
theorem nt_none {x : Str} {a : Int} {t : Tok} (ha : a = numF (KStt.codes (Txt.slice x (some (headAt x)) (some (headEnd x))))) (h : ¬ headAt x < headEnd x) : ∃ t', Value.int (wrapV a) t = .int (ntN x) t' := by
  have e : ¬ ntS x = true := by unfold ntS; rw [if_neg h]; decide
  unfold ntN; rw [if_neg e, ha]; exact ⟨_, rfl⟩
theorem c_ntext {w : World} {mean : ExcName → Option Value} {mg mb : Str → Option Value} {dp un : Nat} {gd : Option (List Code)} {cn : Str} {cs : Scope} {a : Addr} {ccd : Value} {cl : List (Str × Addr)} {outer : List Env} {A₀ : Around} {base h₀ : Heap} {L : Addr} {m : Str → Option Value} {s : Shared} {E : Value → Shared → Prop}
    (B : Below A₀ base outer h₀) (F : Fr h₀ L s.heap m) (X : (hd.heap_1 w.params).In h₀) (T : TOP mean mg mb h₀) (hk : cs.kind = .function) (hdp : dp + 40 < recursionLimit) (hun : un + 400 < cLine)
    (x : Str) (t0 t1 : Tok) (hx : x.length ≤ 1000) :
    wpAny (model PR w) (ktrTop dp un gd cn cs L a ccd cl outer) (call (.ref 116) [.str x t0, .int 64 t1]) (fun v s' => Fine (IntOut (ntN x) s v s')) E s := by
  have N : News h₀ L s.heap [] := News.nil
  have hb0 := headAt_ge x
  have hb1 := headEnd_ge x
  have hb2 := headEnd_le x
  refine wpAny_call ?_
  refine' code_defG ?k1 ?k2 ?k3 ?k4 ?k5 ?kA ?kF ?kK ?k6 ?k7 ?k8 ?k9 ?kB ?_ ?c2 ?c3 ?c4 ?c5
  case kA => exact rfl
  case kF => exact rfl
  case kK => assumption
  case k1 => k_asm
  case k2 => k_asm
  case k3 => k_asm
  case k4 => k_asm
  case k5 => k_asm
  case k6 => k_is
  case k7 => k_is
  case k8 => ktr_room
  case k9 => exact BindsTo.of_eq rfl
  case c5 => decide
  case kB => exact locs rfl
  case c2 => exact rfl
  case c3 => exact rfl
  case c4 => exact rfl
  intro g' L' h' FG' F' N' B' X' T' kG'
  dsimp only
  try k_fold
  k_with_none
  k_with "my room" => ((try dsimp only [ktrTop]); (try simp only [depth_deeper, units_deeper]); omega)
  k_with "my call" => ((with_reducible show wpAny _ _ (call (Value.ref 109) _) _ _ _); (rename Fr _ _ _ _ => Fz); k_dflt ((refine' wpAny_mono (c_head ?mB Fz ?mX ?mT ?mk ?mdp ?mun x _ hx) ?_ (fun _ _ x => x)); (case mB => k_asm); (case mX => k_asm); (case mT => k_asm); (case mk => exact rfl); (case mdp => k_extra "my room"); (case mun => k_extra "my room"); intro vz sz hz; (obtain ⟨⟨h2, tk2, rfl, hk2⟩, D2, a2, b2, t2, u2, rfl, hn2, hs2, rfl, rfl⟩ := hz); (rename News _ _ _ _ => Nz); (have hk3 : ∀ b o, _ → h2.get? b = some o := fun b o => hk2 b o (fun hb => nomatch hb)); (have F2 := Fz.keeps hk3); (have N2 := news_more Fz Nz hk3 hn2 hs2); (clear Fz Nz hk3 hk2); unfold pairOf at N2; (try dsimp only)))
  k_with "my call" => ((with_reducible show wpAny _ _ (call (Value.ref 60) _) _ _ _); (rename Fr _ _ _ _ => Fz); k_dflt ((refine' wpAny_mono (c_wrap ?mB Fz ?mX ?mT ?mk ?mdp ?mun _ _ _ (by omega) (by omega)) ?_ (fun _ _ x => x)); (case mB => k_asm); (case mX => k_asm); (case mT => k_asm); (case mk => exact rfl); (case mdp => k_extra "my room"); (case mun => k_extra "my room"); intro vz sz hz; (obtain ⟨⟨h2, tk2, rfl, hk2⟩, t2, rfl⟩ := hz); (rename News _ _ _ _ => Nz); (have hk3 : ∀ b o, _ → h2.get? b = some o := fun b o => hk2 b o (fun hb => nomatch hb)); (have F2 := Fz.keeps hk3); (have N2 := Nz.grown hk3); (try clear Fz); (try clear Nz); (try clear hk3); (try clear hk2); (try dsimp only)))
  k_with "my call" => ((with_reducible show wpAny _ _ (call (Value.ref 60) _) _ _ _); (rename Fr _ _ kH _ => Fz); k_dflt ((refine' wpAny_mono (c_wrap ?mB Fz ?mX ?mT ?mk ?mdp ?mun _ _ _ (by omega) (by omega)) ?_ (fun _ _ x => x)); (case mB => k_asm); (case mX => k_asm); (case mT => k_asm); (case mk => exact rfl); (case mdp => k_extra "my room"); (case mun => k_extra "my room"); intro vz sz hz; (obtain ⟨⟨h2, tk2, rfl, hk2⟩, t2, rfl⟩ := hz); (rename News _ _ kH _ => Nz); (have hk3 : ∀ b o, _ → h2.get? b = some o := fun b o => hk2 b o (fun hb => nomatch hb)); (have F2 := Fz.keeps hk3); (have N2 := Nz.grown hk3); (try clear Fz); (try clear Nz); (try clear hk3); (try clear hk2); (try dsimp only)))
  k_with "state" => (first | exact num_no (by assumption) (by assumption) (by assumption) (by assumption) | exact num_yes (by assumption) (by assumption))
  k_with "my exfor" => (k_here; (rename Fr _ _ _ _ => lF'); (with_unfolding_all refine' For_invVF lF' ?k1 ?k2 ?_; (case k1 => exact rfl); (case k2 => exact rfl); k_whole))
  k_with "my for" => k_state (fun pre n => n = numF pre ∧ 0 ≤ n ∧ n < 18446744073709551616) "n"
  k_steps
  all_goals (
    rename Fr g' _ _ _ => Fz
    refine ⟨goes_of Fz kG', ?_⟩
    first | exact nt_neg (by assumption) (by assumption) (by assumption) | exact nt_pos (by assumption) (by assumption) | exact nt_none (by assumption) (by assumption))
end Mine
-- part C9
namespace Mine
example : True := by
  w_top off
  trivial
set_option maxRecDepth 100000
set_option maxHeartbeats 8000000
example : PySem.Challenge.rw_qz0090_01 = PySem.Challenge.rw_qz0090_01 ∧ hd.heap_1 = hd.heap_1 := by
  k_fill
  exact ⟨rfl, rfl⟩
local macro_rules | `(tactic| k_room) => `(tactic| ktr_room)
local macro_rules | `(tactic| k_units) => `(tactic| ktr_units)
local macro_rules | `(tactic| walk_at "call ref") => `(tactic| k_extra "my call")
noncomputable def negNum (x : Str) : Int := wrapV (0 - ntN x)
noncomputable def firstIn (st x : Str) : Bool := hasIn st (Txt.item x 0)
/-- the minus of a text: a whole number or a text -/
noncomputable def negV (x : Str) : Int ⊕ Str :=
  if (x == Str.ofString "") = true then .inl (negNum x)
  else if (firstIn (Str.ofString "abcdefghijklmnopqrstuvwxyz") x || firstIn (Str.ofString "ABCDEFGHIJKLMNOPQRSTUVWXYZ") x || Txt.item x 0 == Str.ofString "_") = true then .inr (Str.ofString "-" ++ x)
  else if (Txt.item x 0 == Str.ofString "+") = true then .inr (Str.ofString "-" ++ Txt.slice x (some 1) none)
  else if (Txt.item x 0 == Str.ofString "-" && !looksB x) = true then .inr (Str.ofString "+" ++ Txt.slice x (some 1) none)
  else .inl (negNum x)
noncomputable def ValIs (v : Value) : Int ⊕ Str → Prop
  | .inl n => ∃ t, v = .int n t
  | .inr y => ∃ t, v = .str y t
noncomputable def limObj (d : Addr) : Obj := instObj 372 d
theorem goes_two {g h' : Heap} {a b L : Addr} {oa ob : Obj} {m : Str → Option Value} {s : Shared} {tk : Nat} {nw : List (Addr × Obj)} (F : Fr g L h' m) (N : News g L h' nw) (k : GSub s.heap g [a, b]) (ha : s.heap.get? a = some oa) (hb : s.heap.get? b = some ob) (ma : (a, oa) ∈ nw) (mb : (b, ob) ∈ nw) : Goes [] s { s with heap := h', toks := tk } := by
  refine ⟨h', tk, rfl, fun c o _ ec => ?_⟩
  by_cases e1 : c = a
  · subst e1; rw [ha] at ec; cases ec; exact (N _ ma).1
  by_cases e2 : c = b
  · subst e2; rw [hb] at ec; cases ec; exact (N _ mb).1
  exact F.keep c o (k c o ec (by simp [e1, e2]))
theorem wrapV_lo (n : Int) : -18446744073709551616 ≤ wrapV n := by unfold wrapV; split <;> omega
theorem wrapV_hi (n : Int) : wrapV n ≤ 18446744073709551616 := by unfold wrapV; split <;> omega
theorem ntN_lo (x : Str) : -18446744073709551616 ≤ ntN x := wrapV_lo _
theorem ntN_hi (x : Str) : ntN x ≤ 18446744073709551616 := wrapV_hi _
theorem sub_row {w : World} {mean : ExcName → Option Value} {mg mb : Str → Option Value} {dp un : Nat} {gd : Option (List Code)} {cn : Str} {cs : Scope} {a : Addr} {ccd : Value} {cl : List (Str × Addr)} {outer : List Env} {A₀ : Around} {base h₀ : Heap} {L : Addr} {m : Str → Option Value} {s : Shared} {E : Value → Shared → Prop} {Q : Value → Shared → Prop} {nw : List (Addr × Obj)}
    (B : Below A₀ base outer h₀) (F : Fr h₀ L s.heap m) (X : (hd.heap_1 w.params).In h₀) (T : TOP mean mg mb h₀) (hk : cs.kind = .function) (hdp : dp + 40 < recursionLimit) (hun : un + 400 < cLine) (N : News h₀ L s.heap nw)
    {n : Int} {t0 t1 t2 : Tok} (hn0 : -18446744073709551616 ≤ n) (hn1 : n ≤ 18446744073709551616) (h : ∀ t h' tk, Fr h₀ L h' m → News h₀ L h' nw → Q (.int (wrapV (0 - n)) t) { s with heap := h', toks := tk }) :
    wpAny (model PR w) (ktrTop dp un gd cn cs L a ccd cl outer) (call (.ref 67) [.int 0 t2, .int n t0, .int 64 t1]) Q E s :=
  wpAny_mono (c_sub B F X T hk hdp hun n t0 t1 t2 hn0 hn1) (fun v s' hv => by
    obtain ⟨⟨h2, tk2, rfl, hk2⟩, t, rfl⟩ := hv
    exact h t h2 tk2 (F.keeps fun b o => hk2 b o (fun hb => nomatch hb)) (N.grown fun b o => hk2 b o (fun hb => nomatch hb))) fun _ _ e => e
theorem ne_of_bne {a b : Str} (h : (a != b) = true) : ¬ a = b := fun e => by
  rw [e] at h
  simp at h
theorem eq_of_bne {a b : Str} (h : (a != b) = false) : a = b := by simpa using h
theorem c_neg {w : World} {mean : ExcName → Option Value} {mg mb : Str → Option Value} {dp un : Nat} {gd : Option (List Code)} {cn : Str} {cs : Scope} {a : Addr} {ccd : Value} {cl : List (Str × Addr)} {outer : List Env} {A₀ : Around} {base h₀ : Heap} {L : Addr} {m : Str → Option Value} {s : Shared} {E : Value → Shared → Prop}
    (B : Below A₀ base outer h₀) (F : Fr h₀ L s.heap m) (X : (hd.heap_1 w.params).In h₀) (T : TOP mean mg mb h₀) (hk : cs.kind = .function) (hdp : dp + 80 < recursionLimit) (hun : un + 800 < cLine)
    (x : Str) (t0 : Tok) (hx : x.length ≤ 1000) {li d : Addr} {k0 k1 k2 k3 k4 u0 u1 u2 u3 u4 : Tok}
    (N : News h₀ L s.heap [(li, instObj 372 d), (d, dictOf [⟨PyData.keyHash w.params (Str.ofString "width"), .str (Str.ofString "width") k0, .int 64 u0⟩, ⟨PyData.keyHash w.params (Str.ofString "depth"), .str (Str.ofString "depth") k1, .int 50 u1⟩, ⟨PyData.keyHash w.params (Str.ofString "steps"), .str (Str.ofString "steps") k2, .int 1000000 u2⟩, ⟨PyData.keyHash w.params (Str.ofString "text"), .str (Str.ofString "text") k3, .int 100000 u3⟩, ⟨PyData.keyHash w.params (Str.ofString "items"), .str (Str.ofString "items") k4, .int 10000 u4⟩] 5)]) :
    wpAny (model PR w) (ktrTop dp un gd cn cs L a ccd cl outer) (call (.ref 291) [.str x t0, .ref li]) (fun v s' => Fine (Goes [] s s' ∧ ValIs v (negV x))) E s := by
  have hw0 := ntN_lo x
  have hw1 := ntN_hi x
  refine wpAny_call ?_
  refine' code_defG ?k1 ?k2 ?k3 ?k4 ?k5 ?kA ?kF ?kK ?k6 ?k7 ?k8 ?k9 ?kB ?_ ?c2 ?c3 ?c4 ?c5
  case kA => exact rfl
  case kF => exact rfl
  case kK => assumption
  case k1 => k_asm
  case k2 => k_asm
  case k3 => k_asm
  case k4 => exact N
  case k5 => k_asm
  case k6 => k_is
  case k7 => k_is
  case k8 => ktr_room
  case k9 => exact BindsTo.of_eq rfl
  case c5 => decide
  case kB => exact locs rfl
  case c2 => exact rfl
  case c3 => exact rfl
  case c4 => exact rfl
  intro g' L' h' FG' F' N' B' X' T' kG'
  dsimp only
  try k_fold
  k_with_none
  k_with "my call" => ((fail_if_success (with_reducible show wpAny _ _ (call (Value.ref 284) _) _ _ _)); refine halt ?_)
  k_with "my call" => (k_here; (with_reducible show wpAny _ _ (call (Value.ref 123) _) _ _ _); (rename Fr _ _ _ _ => Fz); (rename News _ _ _ _ => Nz); k_dflt ((refine' wpAny_mono (c_looks ?mB Fz ?mX ?mT ?mk ?mdp ?mun x _ hx) ?_ (fun _ _ x => x)); (case mB => k_asm); (case mX => k_asm); (case mT => k_asm); (case mk => exact rfl); (case mdp => k_extra "my room"); (case mun => k_extra "my room"); intro vz sz hz; (obtain ⟨⟨h2, tk2, rfl, hk2⟩, rfl⟩ := hz); (have hk3 : ∀ b o, _ → h2.get? b = some o := fun b o => hk2 b o (fun hb => nomatch hb)); (have F2 := Fz.keeps hk3); (have N2 := Nz.grown hk3); (try clear hk3); (try clear hk2); (try clear Fz); (try clear Nz); (try dsimp only)))
  k_with "my call" => (k_here; (with_reducible show wpAny _ _ (call (Value.ref 116) _) _ _ _); (rename Fr _ _ _ _ => Fz); (rename News _ _ _ _ => Nz); k_dflt ((refine' wpAny_mono (c_ntext ?mB Fz ?mX ?mT ?mk ?mdp ?mun x _ _ hx) ?_ (fun _ _ x => x)); (case mB => k_asm); (case mX => k_asm); (case mT => k_asm); (case mk => exact rfl); (case mdp => k_extra "my room"); (case mun => k_extra "my room"); intro vz sz hz; (obtain ⟨⟨h2, tk2, rfl, hk2⟩, t2, rfl⟩ := hz); (have hk3 : ∀ b o, _ → h2.get? b = some o := fun b o => hk2 b o (fun hb => nomatch hb)); (have F2 := Fz.keeps hk3); (have N2 := Nz.grown hk3); (try clear hk3); (try clear hk2); (try clear Fz); (try clear Nz); (try dsimp only)))
  k_with "my call" => (k_here; (with_reducible show wpAny _ _ (call (Value.ref 67) _) _ _ _); k_dflt (refine' sub_row ?mB ?mF ?mX ?mT ?mk ?mdp ?mun ?mN hw0 hw1 ?_; (case mB => k_asm); (case mF => k_asm); (case mX => k_asm); (case mT => k_asm); (case mk => exact rfl); (case mdp => k_extra "my room"); (case mun => k_extra "my room"); (case mN => k_asm); k_whole); intro tz hz tkz Fz Nz; (try dsimp only))
  k_with "my room" => ((try dsimp only [ktrTop]); (try simp only [depth_deeper, units_deeper]); omega)
  k_steps
  all_goals (
    rename Fr g' L' _ _ => Fy
    rename News g' L' _ _ => Ny
    refine ⟨goes_two Fy Ny kG' (N _ (List.Mem.head _)).1 (N _ (List.Mem.tail _ (List.Mem.head _))).1 (List.Mem.head _) (List.Mem.tail _ (List.Mem.head _)), ?_⟩
    clear Fy Ny
    unfold negV firstIn hasIn negNum
    first
      | (have hxn : ¬ x = Str.ofString "" := ne_of_bne (by assumption)
         simp [ValIs, *])
      | (have hxe : x = Str.ofString "" := eq_of_bne (by assumption)
         simp [ValIs, *]))
theorem neg_row {w : World} {mean : ExcName → Option Value} {mg mb : Str → Option Value} {dp un : Nat} {gd : Option (List Code)} {cn : Str} {cs : Scope} {a : Addr} {ccd : Value} {cl : List (Str × Addr)} {outer : List Env} {A₀ : Around} {base h₀ : Heap} {L : Addr} {m : Str → Option Value} {s : Shared} {E : Value → Shared → Prop} {Q : Value → Shared → Prop} {nw : List (Addr × Obj)}
    (B : Below A₀ base outer h₀) (F : Fr h₀ L s.heap m) (X : (hd.heap_1 w.params).In h₀) (T : TOP mean mg mb h₀) (hk : cs.kind = .function) (hdp : dp + 80 < recursionLimit) (hun : un + 800 < cLine) (N : News h₀ L s.heap nw)
    {x : Str} {t0 : Tok} (hx : x.length ≤ 1000) {li d : Addr} {k0 k1 k2 k3 k4 u0 u1 u2 u3 u4 : Tok}
    (h1 : (li, instObj 372 d) ∈ nw) (h2 : (d, dictOf [⟨PyData.keyHash w.params (Str.ofString "width"), .str (Str.ofString "width") k0, .int 64 u0⟩, ⟨PyData.keyHash w.params (Str.ofString "depth"), .str (Str.ofString "depth") k1, .int 50 u1⟩, ⟨PyData.keyHash w.params (Str.ofString "steps"), .str (Str.ofString "steps") k2, .int 1000000 u2⟩, ⟨PyData.keyHash w.params (Str.ofString "text"), .str (Str.ofString "text") k3, .int 100000 u3⟩, ⟨PyData.keyHash w.params (Str.ofString "items"), .str (Str.ofString "items") k4, .int 10000 u4⟩] 5) ∈ nw)
    (hi : ∀ n t h' tk, negV x = .inl n → Fr h₀ L h' m → News h₀ L h' nw → Q (.int n t) { s with heap := h', toks := tk })
    (hs : ∀ y t h' tk, negV x = .inr y → Fr h₀ L h' m → News h₀ L h' nw → Q (.str y t) { s with heap := h', toks := tk }) :
    wpAny (model PR w) (ktrTop dp un gd cn cs L a ccd cl outer) (call (.ref 291) [.str x t0, .ref li]) Q E s := by
  have N₂ : News h₀ L s.heap [(li, instObj 372 d), (d, _)] := fun p hp => by
    rcases List.mem_cons.mp hp with rfl | hp
    · exact N _ h1
    · rw [List.mem_singleton.mp hp]; exact N _ h2
  refine wpAny_mono (c_neg B F X T hk hdp hun x t0 hx N₂) (fun v s' hv => ?_) fun _ _ e => e
  obtain ⟨⟨h', tk, rfl, hk'⟩, hval⟩ := hv
  have F' := F.keeps fun b o => hk' b o (fun hb => nomatch hb)
  have N' := N.grown fun b o => hk' b o (fun hb => nomatch hb)
  cases e : negV x with
  | inl n => rw [e] at hval; obtain ⟨t, rfl⟩ := hval; exact hi n t h' tk e F' N'
  | inr y => rw [e] at hval; obtain ⟨t, rfl⟩ := hval; exact hs y t h' tk e F' N'
end Mine
-- part C10a
namespace Mine
example : True := by
  w_top off
  trivial
set_option maxRecDepth 100000
set_option maxHeartbeats 8000000
example : PySem.Challenge.rw_qz0090_01 = PySem.Challenge.rw_qz0090_01 ∧ hd.heap_1 = hd.heap_1 := by
  k_fill
  exact ⟨rfl, rfl⟩
noncomputable def minX (w : World) : (body : List Stmt) ×' (scope : Scope) ×' (oc : Value) ×' (od : Option Addr) ×' (name : Str) ×' (qual : Str) ×' (params : Arguments) ×' (dV : Value) ×' (kV : Value) ×' (doc : Value) ×' (pm : Value) ×' (an : Option Addr) ×' (cdv : Value) ×' (ct : Value) ×' (osl : Array (Option Value)) ×' ((hd.heap_1 w.params).lookup 401 = some ⟨oc, od, .func (fnOf name qual params body scope dV kV doc pm an cdv ct), osl⟩) :=
  ⟨_, _, _, _, _, _, _, _, _, _, _, _, _, _, _, by k_is⟩
local macro_rules | `(tactic| k_room) => `(tactic| ktr_room)
local macro_rules | `(tactic| k_units) => `(tactic| ktr_units)
local macro_rules | `(tactic| walk_at "pyIter str") => `(tactic| k_extra "my for")
local macro_rules | `(tactic| walk_at "execs cons") => `(tactic| k_extra "my tail")
local macro_rules | `(tactic| walk_at "eval ListComp") => `(tactic| k_extra "my comp")
local macro_rules | `(tactic| walk_at "eval IfExp") => `(tactic| k_extra "my if")
local macro_rules | `(tactic| walk_at "IntIs") => `(tactic| k_extra "my int")
local macro_rules | `(tactic| walk_at "StrIs") => `(tactic| k_extra "my str")
noncomputable def StrIs (x : Str) (h₀ : Heap) (L : Addr) (m : Str → Option Value) (nw : List (Addr × Obj)) (s : Shared) (v : Value) (s' : Shared) : Prop := ∃ t h2 tk, v = .str x t ∧ s' = { s with heap := h2, toks := tk } ∧ Fr h₀ L h2 m ∧ News h₀ L h2 nw
theorem StrIs.intro {x y : Str} {h₀ : Heap} {L : Addr} {m : Str → Option Value} {nw all : List (Addr × Obj)} {s s' : Shared} {t : Tok} (F : Fr h₀ L s'.heap m) (N : News h₀ L s'.heap all) (sub : ∀ p ∈ nw, p ∈ all) (hxy : y = x) (h : ∃ h2 tk, s' = { s with heap := h2, toks := tk }) : StrIs x h₀ L m nw s (.str y t) s' := by
  obtain ⟨h2, tk, rfl⟩ := h
  exact ⟨t, h2, tk, by rw [hxy], rfl, F, fun p hp => N p (sub p hp)⟩
theorem str_is {prog : Program} {w : World} {A : Around} {E : Value → Shared → Prop} {s : Shared} {Q : Value → Shared → Prop} {c : Sem Value} {h₀ : Heap} {L : Addr} {m : Str → Option Value} {nw : List (Addr × Obj)} (x : Str) (_ : Fr h₀ L s.heap m) (_ : News h₀ L s.heap nw) (h : wpAny (model prog w) A c (StrIs x h₀ L m nw s) E s) (hq : ∀ t h2 tk, Fr h₀ L h2 m → News h₀ L h2 nw → Q (.str x t) { s with heap := h2, toks := tk }) : wpAny (model prog w) A c Q E s :=
  wpAny_mono h (fun v s' ⟨t, h2, tk, hv, hs, F, N⟩ => by rw [hv, hs]; exact hq t h2 tk F N) (fun _ _ e => e)
noncomputable def okC (c : Int) : Bool := hasIn (Str.ofString "50") ⟨#[c.toNat]⟩
noncomputable def gStep (a c : Int) : Int := 10 * a + (if (⟨#[c.toNat]⟩ : Str) = Str.ofString "5" then 5 else 0)
noncomputable def numG (l : List Int) : Int := l.foldl gStep 0
theorem numG_snoc (l : List Int) (c : Int) : numG (l ++ [c]) = gStep (numG l) c := by unfold numG; rw [List.foldl_append]; rfl
/-- the text behind a sign -/
noncomputable def tailT (h : Str) : Str := if ([Str.ofString "+", Str.ofString "-"].any fun z => z == Txt.slice h none (some 1)) = true then Txt.slice h (some 1) none else h
theorem tail_yes {h : Str} (e : ([Str.ofString "+", Str.ofString "-"].any fun z => z == Txt.slice h none (some 1)) = true) : Txt.slice h (some 1) none = tailT h := by unfold tailT; rw [if_pos e]
theorem tail_no {h : Str} (e : ([Str.ofString "+", Str.ofString "-"].any fun z => z == Txt.slice h none (some 1)) = false) : h = tailT h := by unfold tailT; rw [if_neg (by rw [e]; decide)]
noncomputable def turnV (h : Str) : Int := if (Txt.slice h none (some 1) == Str.ofString "-") = true then 1 else -1
theorem turn_yes {h : Str} (e : (Txt.slice h none (some 1) == Str.ofString "-") = true) : 1 = turnV h := by unfold turnV; rw [if_pos e]
theorem turn_no {h : Str} (e : (Txt.slice h none (some 1) == Str.ofString "-") = false) : -1 = turnV h := by unfold turnV; rw [if_neg (by rw [e]; decide)]
theorem turn_lo (h : Str) : -1 ≤ turnV h := by unfold turnV; split <;> decide
theorem turn_hi (h : Str) : turnV h ≤ 1 := by unfold turnV; split <;> decide
noncomputable def headT (x : Str) : Str := Txt.lstripChars x (Str.ofString " ")
theorem head_len (x : Str) : (headT x).length ≤ x.length := len_lstripChars x _
theorem tail_len (h : Str) : (tailT h).length ≤ h.length := by unfold tailT; split; exact Txt.slice_le _ _ _; exact Nat.le_refl _
theorem min5 {a : Int} {pre : List Int} {n : Nat} (h : ((⟨#[n]⟩ : Str) == Str.ofString "5") = true) (ha : a = numG pre) : 10 * a + 5 = numG (pre ++ [(n : Int)]) := by
  rw [numG_snoc, ← ha]; unfold gStep; rw [Int.toNat_natCast, if_pos (beq_iff_eq.mp h)]
theorem min0 {a : Int} {pre : List Int} {n : Nat} (h : ((⟨#[n]⟩ : Str) == Str.ofString "5") = false) (ha : a = numG pre) : 10 * a + 0 = numG (pre ++ [(n : Int)]) := by
  rw [numG_snoc, ← ha]; unfold gStep; rw [Int.toNat_natCast, if_neg (by intro e; rw [e] at h; simp at h)]
theorem ok_snoc {pre : List Int} {n : Nat} (h : (Builtin.Str.occurrences (Str.ofString "50") ⟨#[n]⟩ 0 (Str.ofString "50").length 1).isEmpty = false) (ha : pre.all okC = true) : (pre ++ [(n : Int)]).all okC = true := by
  rw [List.all_append, ha]
  simp [okC, hasIn, h]
theorem take_all {l : List Int} (h : l.all okC = true) : l.takeWhile okC = l := by
  induction l with
  | nil => rfl
  | cons a r ih =>
    rw [List.all_cons, Bool.and_eq_true] at h
    rw [List.takeWhile_cons, if_pos h.1, ih h.2]
theorem take_break {l pre post : List Int} {n : Nat} (e : l = pre ++ (n : Int) :: post) (h : (Builtin.Str.occurrences (Str.ofString "50") ⟨#[n]⟩ 0 (Str.ofString "50").length 1).isEmpty = true) (ha : pre.all okC = true) : l.takeWhile okC = pre := by
  subst e
  have hn : okC (n : Int) = false := by unfold okC hasIn; rw [Int.toNat_natCast, h]; rfl
  induction pre with
  | nil => rw [List.nil_append, List.takeWhile_cons, if_neg (by rw [hn]; decide)]
  | cons a r ih =>
    rw [List.all_cons, Bool.and_eq_true] at ha
    rw [List.cons_append, List.takeWhile_cons, if_pos ha.1, ih ha.2]
noncomputable def MinP (pre : List Int) (n : Int) : Prop := n = numG pre ∧ pre.all okC = true ∧ 0 ≤ n ∧ (pre.length ≤ 0 → n = 0) ∧ (pre.length ≤ 1 → n ≤ 9) ∧ (pre.length ≤ 2 → n ≤ 99) ∧ (pre.length ≤ 3 → n ≤ 999) ∧ n ≤ 9999
theorem min_start : (0 : Int) = numG [] ∧ List.all [] okC = true ∧ (0 : Int) ≤ 0 ∧ (([] : List Int).length ≤ 0 → (0 : Int) = 0) ∧ (([] : List Int).length ≤ 1 → (0 : Int) ≤ 9) ∧ (([] : List Int).length ≤ 2 → (0 : Int) ≤ 99) ∧ (([] : List Int).length ≤ 3 → (0 : Int) ≤ 999) ∧ (0 : Int) ≤ 9999 := ⟨rfl, rfl, by decide, fun _ => rfl, fun _ => by decide, fun _ => by decide, fun _ => by decide, by decide⟩
theorem len_room {t p q : Nat} (h : t = p + (q + 1)) (ht : t ≤ 4) : p + 1 ≤ 4 := by omega
theorem min_turn {a b : Int} {pre : List Int} {k : Int} (hb : b = 10 * a + 5 ∨ b = 10 * a + 0) (hn : b = numG (pre ++ [k])) (ho : (pre ++ [k]).all okC = true) (h0 : 0 ≤ a) (h1 : pre.length ≤ 0 → a = 0) (h2 : pre.length ≤ 1 → a ≤ 9) (h3 : pre.length ≤ 2 → a ≤ 99) (h4 : pre.length ≤ 3 → a ≤ 999) (hk : pre.length + 1 ≤ 4) :
    b = numG (pre ++ [k]) ∧ (pre ++ [k]).all okC = true ∧ 0 ≤ b ∧ ((pre ++ [k]).length ≤ 0 → b = 0) ∧ ((pre ++ [k]).length ≤ 1 → b ≤ 9) ∧ ((pre ++ [k]).length ≤ 2 → b ≤ 99) ∧ ((pre ++ [k]).length ≤ 3 → b ≤ 999) ∧ b ≤ 9999 := by
  have e : (pre ++ [k]).length = pre.length + 1 := by rw [List.length_append]; rfl
  rw [e]
  refine ⟨hn, ho, ?_, ?_, ?_, ?_, ?_, ?_⟩ <;> omega
noncomputable def minN (x : Str) : Int := turnV (headT x) * numG ((KStt.codes (tailT (headT x))).takeWhile okC)
theorem min_val {x : Str} {l : List Int} {n : Int} (h : (KStt.codes (tailT (headT x))).takeWhile okC = l) (hn : n = numG l) : turnV (headT x) * n = minN x := by unfold minN; rw [h, hn]
noncomputable def figT (x : Str) : Str := Txt.rstripChars (Txt.slice x (some 1) none) (Str.ofString " ")
noncomputable def figBad (x : Str) : Bool := (figT x == Str.ofString "") || !((figT x).cps.toList.filter fun n => !hasIn (Str.ofString "50") ⟨#[n]⟩).isEmpty
noncomputable def minV (x : Str) : Int ⊕ Str :=
  if (x == Str.ofString "") = true then .inl (minN x)
  else if hasIn (Str.ofString "bZ_") (Txt.item x 0) = true then .inr (Str.ofString "-" ++ x)
  else if (Txt.item x 0 == Str.ofString "+") = true then .inr (Str.ofString "-" ++ Txt.slice x (some 1) none)
  else if (Txt.item x 0 == Str.ofString "-" && figBad x) = true then .inr (Str.ofString "+" ++ Txt.slice x (some 1) none)
  else .inl (minN x)
noncomputable def minBody (w : World) : List Stmt := (minX w).1.drop 4
noncomputable def minEnv (w : World) (L fa : Addr) (cdv : Value) (cl : List (Str × Addr)) : Env := envX (Str.ofString "_law_minus") (minX w).2.1 L fa cdv cl
theorem tail_end {x : Str} {h₀ h : Heap} {L : Addr} {m : Str → Option Value} {s : Shared} {n : Int} {t₀ : Tok} {tk₀ : Nat} (e : n = minN x) (F : Fr h₀ L h m) : Fine (∃ h' tk t m', Flow.ret (Value.int n t₀) = .ret (.int (minN x) t) ∧ ({ s with heap := h, toks := tk₀ } : Shared) = { s with heap := h', toks := tk } ∧ Fr h₀ L h' m') := ⟨h, tk₀, t₀, m, by rw [e], rfl, F⟩
theorem tail_min {w : World} {mean : ExcName → Option Value} {mg mb : Str → Option Value} {dp un : Nat} {gd : Option (List Code)} {cn : Str} {cs : Scope} {L1 a1 : Addr} {ccd : Value} {cl1 : List (Str × Addr)} {outer1 : List Env} {base h₀ : Heap} {outer : List Env} {L fa : Addr} {cdv : Value} {m₀ : Str → Option Value} {s : Shared}
    (B : Below (ktrTop dp un gd cn cs L1 a1 ccd cl1 outer1) base outer h₀) (F₀ : Fr h₀ L s.heap m₀) (X : (hd.heap_1 w.params).In h₀) (T : TOP mean mg mb h₀)
    (x : Str) {t0 : Tok} (N : News h₀ L s.heap []) (hx : Fine (x.length ≤ 4)) (hm : m₀ (Str.ofString "text") = some (.str x t0)) :
    wpAny (model PR w) ((ktrTop dp un gd cn cs L1 a1 ccd cl1 outer1).deeper (minEnv w L fa cdv [])) (execs (minBody w) (minEnv w L fa cdv [])) (fun f s' => Fine (∃ h' tk t m', f = .ret (.int (minN x) t) ∧ s' = { s with heap := h', toks := tk } ∧ Fr h₀ L h' m')) (fun _ _ => False) s := by
  have hmap : Fine (m₀ = fun z => if z = Str.ofString "text" then some (.str x t0) else m₀ z) := by
    show m₀ = _
    funext z
    by_cases e : z = Str.ofString "text"
    · rw [if_pos e, e, hm]
    · rw [if_neg e]
  have F : Fr h₀ L s.heap (fun z => if z = Str.ofString "text" then some (.str x t0) else m₀ z) := hmap.out ▸ F₀
  have hx1 : x.length ≤ 1000 := Nat.le_trans hx.out (by decide)
  have hlen := Nat.le_trans (Nat.le_trans (tail_len (headT x)) (head_len x)) hx.out
  have ht0 := turn_lo (headT x)
  have ht1 := turn_hi (headT x)
  clear hm F₀ hmap
  unfold minBody minEnv minX
  dsimp only [List.drop]
  k_with_none
  k_with "my for" => k_state (fun pre n => n = numG pre ∧ pre.all okC = true ∧ 0 ≤ n ∧ (pre.length ≤ 0 → n = 0) ∧ (pre.length ≤ 1 → n ≤ 9) ∧ (pre.length ≤ 2 → n ≤ 99) ∧ (pre.length ≤ 3 → n ≤ 999) ∧ n ≤ 9999) "number"
  k_with "my int" => ((rename Fr _ _ _ _ => lF); (rename News _ _ _ _ => lN); refine IntIs.intro lF lN ?_ ⟨_, _, rfl⟩; first | exact turn_yes (by assumption) | exact turn_no (by assumption))
  k_with "my str" => ((rename Fr _ _ _ _ => lF); (rename News _ _ _ _ => lN); refine StrIs.intro lF lN (fun _ hp => nomatch hp) ?_ ⟨_, _, rfl⟩; first | exact tail_yes (by assumption) | exact tail_no (by assumption))
  k_with "state" => (first
    | (exact min_start)
    | (exact min_turn (Or.inl rfl) (min5 (by assumption) (by assumption)) (ok_snoc (by assumption) (by assumption)) (by assumption) (by assumption) (by assumption) (by assumption) (by assumption) (len_room (by assumption) hlen))
    | (exact min_turn (Or.inr rfl) (min0 (by assumption) (by assumption)) (ok_snoc (by assumption) (by assumption)) (by assumption) (by assumption) (by assumption) (by assumption) (by assumption) (len_room (by assumption) hlen)))
  k_with "my if" => ((fail_if_success (with_reducible show wpAny _ _ _ (IntIs _ _ _ _ _ _) _ _)); (fail_if_success (with_reducible show wpAny _ _ _ (StrIs _ _ _ _ _ _) _ _)); (rename Fr _ _ _ _ => lF); (rename News _ _ _ _ => lN); first | (with_reducible show wpAny _ _ (eval (Expr.IfExp _ (Expr.Constant _ _ _) (Expr.UnaryOp _ _ _) _) _) _ _ _; refine int_is (turnV (headT x)) lF lN ?_ (fun ti hi tki Fi Ni => ?_)) | (with_reducible show wpAny _ _ (eval (Expr.IfExp _ (Expr.Subscript _ _ _) (Expr.Name _ _) _) _) _ _ _; refine str_is (tailT (headT x)) lF lN ?_ (fun ti hi tki Fi Ni => ?_)))
  k_steps
  all_goals (
    (try dsimp only)
    first
      | exact tail_end (min_val (take_all (by assumption)) (by assumption)) kFr
      | exact tail_end (min_val (take_break kEq (by assumption) (by assumption)) (by assumption)) kFr)
end Mine
-- part Comp3
namespace Mine
set_option maxRecDepth 100000
set_option maxHeartbeats 8000000
section
variable {prog : Program} {w : World} {A : Around} {E : Value → Shared → Prop} {s : Shared} {h₀ : Heap} {L : Addr} {m : Str → Option Value} {env : Env}
/-- [f(n) for n in list of whole numbers]: texts come out -/
noncomputable def MapGo (prog : Program) (w : World) (A : Around) (h₀ : Heap) (L : Addr) (m : Str → Option Value) (env : Env) (elt : Expr) (x : Str) (scope : Scope) (cl : List (Str × Addr)) (φ : Int → Str) (Q : Value → Shared → Prop) (xv : Value) (s₁ : Shared) : Prop :=
  ∃ ax vs c nw f, xv = .ref ax ∧ Fr h₀ L s₁.heap m ∧ News h₀ L s₁.heap nw ∧ (ax, W.listOf vs.toArray c) ∈ nw ∧ IntsAre vs f ∧ vs.length ≤ sizeLine ∧
    (∀ n t I oI C oC D ys m₂ h tk (E' : Value → Shared → Prop), n ∈ f → LCg.NsObj oC m₂ → m₂ x = some (.int n t) → Fr h₀ L h m → News h₀ L h ((I, oI) :: (C, oC) :: (D, LCg.lst ys) :: nw) → LCg.Off3 I C D nw → ((@Ne Nat I C) ∧ (@Ne Nat I D) ∧ (@Ne Nat C D)) →
      wpAny (model prog w) A (eval elt (compEnvC scope cl C env)) (EltEnd h₀ L m { s₁ with heap := h, toks := tk } I oI C oC D (LCg.lst ys) (fun y news' => news' = nw ∧ ∃ t, y = .str (φ n) t)) E' { s₁ with heap := h, toks := tk }) ∧
    ∀ ys D h tk, StrsAre ys (f.map φ) → Fr h₀ L h m → News h₀ L h ((D, LCg.lst ys) :: nw) → LCg.Off1 D nw → Q (.ref D) { s₁ with heap := h, toks := tk }
theorem MapGo.intro {elt : Expr} {x : Str} {scope : Scope} {cl : List (Str × Addr)} {φ : Int → Str} {Q : Value → Shared → Prop} {s₁ : Shared} {ax : Addr} {vs : List Value} {c : Nat} {nw : List (Addr × Obj)} {f : List Int}
    (F : Fr h₀ L s₁.heap m) (N : News h₀ L s₁.heap nw) (hm : (ax, W.listOf vs.toArray c) ∈ nw) (hv : IntsAre vs f) (hsz : f.length ≤ 1000)
    (step : ∀ n t I oI C oC D ys m₂ h tk (E' : Value → Shared → Prop), n ∈ f → LCg.NsObj oC m₂ → m₂ x = some (.int n t) → Fr h₀ L h m → News h₀ L h ((I, oI) :: (C, oC) :: (D, LCg.lst ys) :: nw) → LCg.Off3 I C D nw → ((@Ne Nat I C) ∧ (@Ne Nat I D) ∧ (@Ne Nat C D)) →
      wpAny (model prog w) A (eval elt (compEnvC scope cl C env)) (EltEnd h₀ L m { s₁ with heap := h, toks := tk } I oI C oC D (LCg.lst ys) (fun y news' => news' = nw ∧ ∃ t, y = .str (φ n) t)) E' { s₁ with heap := h, toks := tk })
    (fin : ∀ ys D h tk, StrsAre ys (f.map φ) → Fr h₀ L h m → News h₀ L h ((D, LCg.lst ys) :: nw) → LCg.Off1 D nw → Q (.ref D) { s₁ with heap := h, toks := tk }) :
    MapGo prog w A h₀ L m env elt x scope cl φ Q (.ref ax) s₁ := ⟨ax, vs, c, nw, f, rfl, F, N, hm, hv, by rw [hv.length, sizeLine_eq]; omega, step, fin⟩
theorem ListComp_map {elt iter : Expr} {x : Str} {px : Pos} {scope : Scope} {cl : List (Str × Addr)} {pos : Pos} {Q : Value → Shared → Prop} (φ : Int → Str) (F₀ : Fr h₀ L s.heap m)
    (hclos : closureFor scope env = pure cl) (hcell : ∀ y ∈ scope.names, y.2 ≠ .cell) (hkind : scope.kind = .function)
    (hnames : ∀ y ∈ scope.names, y.2 = .local → scope.names.lookup y.1 = some .local) (hx : scope.names.lookup x = some .local) (hh : A.handled = none)
    (hs : ∀ x, foldedSetIterable iter env x = pure x)
    (h : wpAny (model prog w) A (eval iter env) (MapGo prog w A h₀ L m env elt x scope cl φ Q) E s) :
    wpAny (model prog w) A (eval (.ListComp elt [⟨.Name x px, iter, [], 0⟩] scope pos) env) Q E s := by
  refine LCg.ListComp_U F₀ hclos hcell hkind hnames hx (wpAny_mono h (fun xv s₁ ⟨ax, vs, c, nw, f, hxv, F, N, hm, hv, hsz, step, fin⟩ => ?_) fun _ _ e => e) hs
  subst hxv
  refine LCg.CompSrc.ledger hh F N hm (by rw [List.size_toArray]; exact hsz) fun g => ?_
  have hS : LCg.SrcAt h₀ ax vs.toArray nw := Or.inr ⟨_, hm, rfl, _, rfl⟩
  have hn : f.length = vs.toArray.size := by rw [List.size_toArray, hv.length]
  refine compRest_inv vs.toArray.size (fun i ys news => news = nw ∧ StrsAre ys ((f.take i).map φ)) (fun i ys news e => e.1 ▸ hS) (fun i ys news v I oI C oC D m₂ h tk E' hi hI hP hoC hx' F' N' off ne => ?_) (fun ys news hI => ?_) vs.toArray.size 0 [] nw (by omega) ⟨rfl, StrsAre.nil⟩
  · obtain ⟨rfl, hys⟩ := hI
    obtain ⟨hi', t, rfl⟩ := ints_at hv (i := i) (v := v) (by simpa using hP)
    have hmem : f.getD i 0 ∈ f := by rw [List.getD_eq_getElem?_getD, List.getElem?_eq_getElem hi']; exact List.getElem_mem hi'
    refine wpAny_mono (step (f.getD i 0) t I oI C oC D ys m₂ h tk E' hmem hoC hx' F' N' off ne) (fun y s₂ hq => ?_) fun _ _ e => e
    obtain ⟨h', tk', news', e', F2, N2, off2, hnw, t', hy⟩ := hq
    refine ⟨h', tk', news', e', F2, N2, off2, hnw, ?_⟩
    rw [hy, List.take_add_one, List.getElem?_eq_getElem hi']
    have e2 : f[i] = f.getD i 0 := by rw [List.getD_eq_getElem?_getD, List.getElem?_eq_getElem hi']; rfl
    rw [e2, List.map_append]
    exact hys.append' (StrsAre.cons _ _ StrsAre.nil)
  · obtain ⟨rfl, hys⟩ := hI
    rw [← hn, List.take_length] at hys
    exact fun D h tk F' N' off => fin ys D h tk hys F' N' off

theorem str_block {xt : Str} {t : Tok} {s₁ : Shared} {Q : Value → Shared → Prop}
    (h : ∀ (o : Obj) (St : Nat → Heap → Prop), (∀ A' : Around, A'.handled = none → Walks prog w A' s₁.heap.objs.size [s₁.heap.objs.size] [s₁.heap.objs.size] xt.cps.size (SignAt xt) St) → (∀ i g, St i g → ∃ o, g.get? s₁.heap.objs.size = some o) → St 0 (s₁.heap.push o) →
      Q (.ref s₁.heap.objs.size) { s₁ with heap := s₁.heap.push o }) : wpAny (model prog w) A (pyIter (.str xt t)) Q E s₁ := by
  cases ha : xt.cps.all (· < 128)
  · exact wpAny_pyIter_wide ha (h _ _ (fun A' hA => Walks.strWide hA _ xt t) (fun i g ⟨o, e, _⟩ => ⟨o, e⟩) ⟨_, Heap.get?_push_size _ rfl, rfl, rfl⟩)
  · exact wpAny_pyIter_ascii ha (h _ _ (fun A' hA => Walks.strAscii hA _ xt t) (fun i g ⟨o, e, _⟩ => ⟨o, e⟩) ⟨_, Heap.get?_push_size _ rfl, rfl, rfl⟩)

/-- [ord(c) for c in text], bound to a name -/
noncomputable def OrdGo (prog : Program) (w : World) (A : Around) (h₀ : Heap) (L : Addr) (m : Str → Option Value) (env : Env) (elt : Expr) (x y : Str) (scope : Scope) (cl : List (Str × Addr)) (Q : Flow → Shared → Prop) (xv : Value) (s₁ : Shared) : Prop :=
  ∃ xt t nw, xv = .str xt t ∧ Fr h₀ L s₁.heap m ∧ News h₀ L s₁.heap nw ∧ xt.length ≤ 1000 ∧
    (∀ (n : Nat) t I oI C oC D ys m₂ h tk (E' : Value → Shared → Prop), n ∈ xt.cps.toList → LCg.NsObj oC m₂ → m₂ x = some (.str ⟨#[n]⟩ t) → Fr h₀ L h m → News h₀ L h ((I, oI) :: (C, oC) :: (D, LCg.lst ys) :: nw) → LCg.Off3 I C D nw → ((@Ne Nat I C) ∧ (@Ne Nat I D) ∧ (@Ne Nat C D)) →
      wpAny (model prog w) A (eval elt (compEnvC scope cl C env)) (EltEnd h₀ L m { s₁ with heap := h, toks := tk } I oI C oC D (LCg.lst ys) (fun y news' => news' = nw ∧ ∃ t, y = .int (n : Int) t)) E' { s₁ with heap := h, toks := tk }) ∧
    ∀ ys D h tk, IntsAre ys (KStt.codes xt) → Fr h₀ L h (fun z => if z = y then some (.ref D) else m z) → News h₀ L h ((D, LCg.lst ys) :: nw) → LCg.Off1 D nw → Q .next { s₁ with heap := h, toks := tk }
theorem OrdGo.intro {elt : Expr} {x y : Str} {scope : Scope} {cl : List (Str × Addr)} {Q : Flow → Shared → Prop} {s₁ : Shared} {xt : Str} {t : Tok} {nw : List (Addr × Obj)}
    (F : Fr h₀ L s₁.heap m) (N : News h₀ L s₁.heap nw) (hsz : xt.length ≤ 1000)
    (step : ∀ (n : Nat) t I oI C oC D ys m₂ h tk (E' : Value → Shared → Prop), n ∈ xt.cps.toList → LCg.NsObj oC m₂ → m₂ x = some (.str ⟨#[n]⟩ t) → Fr h₀ L h m → News h₀ L h ((I, oI) :: (C, oC) :: (D, LCg.lst ys) :: nw) → LCg.Off3 I C D nw → ((@Ne Nat I C) ∧ (@Ne Nat I D) ∧ (@Ne Nat C D)) →
      wpAny (model prog w) A (eval elt (compEnvC scope cl C env)) (EltEnd h₀ L m { s₁ with heap := h, toks := tk } I oI C oC D (LCg.lst ys) (fun y news' => news' = nw ∧ ∃ t, y = .int (n : Int) t)) E' { s₁ with heap := h, toks := tk })
    (fin : ∀ ys D h tk, IntsAre ys (KStt.codes xt) → Fr h₀ L h (fun z => if z = y then some (.ref D) else m z) → News h₀ L h ((D, LCg.lst ys) :: nw) → LCg.Off1 D nw → Q .next { s₁ with heap := h, toks := tk }) :
    OrdGo prog w A h₀ L m env elt x y scope cl Q (.str xt t) s₁ := ⟨xt, t, nw, rfl, F, N, hsz, step, fin⟩
theorem Assign_ord {elt iter : Expr} {x y : Str} {px py : Pos} {scope : Scope} {cl : List (Str × Addr)} {pos spos : Pos} {Q : Flow → Shared → Prop} (_F₀ : Fr h₀ L s.heap m) (hLe : env.locals = L)
    (hsw : swapsWith (.ListComp elt [⟨.Name x px, iter, [], 0⟩] scope pos) (some (.Name y py)) spos.line env = pure true)
    (hclos : closureFor scope env = pure cl) (hcell : ∀ z ∈ scope.names, z.2 ≠ .cell) (hkind : scope.kind = .function)
    (hnames : ∀ z ∈ scope.names, z.2 = .local → scope.names.lookup z.1 = some .local) (hx : scope.names.lookup x = some .local) (hh : A.handled = none)
    (hy : env.kindOf y = some .local) (hp : (env.scope.kind == .class || (env.scope.kind == .module && env.locals != env.globals)) = false)
    (hs : ∀ x, foldedSetIterable iter env x = pure x)
    (h : wpAny (model prog w) A (eval iter env) (OrdGo prog w A h₀ L m env elt x y scope cl Q) E s) :
    wpAny (model prog w) A (exec (.Assign [.Name y py] (.ListComp elt [⟨.Name x px, iter, [], 0⟩] scope pos) spos) env) Q E s := by
  subst hLe
  rw [exec_Assign_Name_used _ _ _ _ hsw]
  refine wpAny_bind (wpAny_standAt (wpAny_bind ?_))
  show wpAny _ A (do let _ ← comprehension (.ListComp elt [⟨.Name x px, iter, [], 0⟩] scope pos) scope env _ (newList []) false (eval iter env) (some (assign (.Name y py) env))) _ _ s
  refine wpAny_bind (wpAny_mono (wpAny_comprehension_free (use := some (assign (.Name y py) env)) (Q := fun _ s' => Q .next s') rfl hs hclos hkind hnames
    (wpAny_mono h (fun xv s₁ h₁ => ?_) fun _ _ e => e)) (fun _ s' hq => wpAny_pure (wpAny_pure hq)) fun _ _ e => e)
  obtain ⟨xt, t, nw, rfl, F, N, hsz, step, fin⟩ := h₁
  have hl : xt.cps.size = (KStt.codes xt).length := (KStt.codes_length xt).symm
  refine str_block fun o St hW hIo hst => ?_
  have W := hW A hh
  refine LCg.block_U (S := fun _ => True) (news := nw) (Fin := fun ys news => news = nw ∧ IntsAre ys (KStt.codes xt)) W (by rw [sizeLine_eq]; show xt.length ≤ _; omega) hIo (fun i g g' ob nw' st e e' _ _ _ => W.frame _ _ _ st (fun b hb ob' eb => by rw [List.mem_singleton.mp hb] at eb ⊢; rw [e] at eb; cases eb; exact e')) hcell hkind hx hst (fun b hb => ?_)
      (F.keeps fun _ _ e => Heap.get?_push_of_some _ e) (N.grown fun _ _ e => Heap.get?_push_of_some _ e) (Nat.ne_of_lt F.ns.lt) (next_is_new F) (fun p hp => Nat.ne_of_lt (Heap.lt_size (N p hp).1)) trivial ?_ ?_
  · rw [List.mem_singleton.mp hb]
    show s₁.heap.objs.size < (s₁.heap.push _).objs.size
    rw [Heap.size_push]; exact Nat.lt_succ_self _
  · refine compRest_inv xt.cps.size (fun i ys news => news = nw ∧ IntsAre ys ((KStt.codes xt).take i)) (fun _ _ _ _ => trivial) (fun i ys news v I oI C oC D m₂ h tk E' hi hI hP hoC hx' F' N' off ne => ?_) (fun ys news hI => ?_) xt.cps.size 0 [] nw (by omega) ⟨rfl, IntsAre.nil⟩
    · obtain ⟨rfl, hys⟩ := hI
      obtain ⟨c, u, hc, rfl⟩ := hP
      have hc' := KStt.code_at hc
      have hmem : c ∈ xt.cps.toList := by
        have : xt.cps.toList[i]? = some c := by simpa using hc
        exact List.mem_of_getElem? this
      refine wpAny_mono (step c u I oI C oC D ys m₂ h tk E' hmem hoC hx' F' N' off ne) (fun y s₂ hq => ?_) fun _ _ e => e
      obtain ⟨h', tk', news', e', F2, N2, off2, hnw, t', hy⟩ := hq
      refine ⟨h', tk', news', e', F2, N2, off2, hnw, ?_⟩
      rw [hy, List.take_add_one, hc']
      exact hys.append (IntsAre.cons _ _ IntsAre.nil)
    · obtain ⟨rfl, hys⟩ := hI
      rw [hl, List.take_length] at hys
      exact ⟨rfl, hys⟩
  · rintro D C h' tk m' ys news' F' N' o1 hn hC₀ hD₀ hCL hDL hCD offC ⟨rfl, hys⟩
    show wpAny _ A (assign (.Name y py) env (.ref D)) _ _ _
    refine wpAny_assign_Name (wpAny_storeName_local hy F'.ns (fun h₂ hn₂ hs₂ => ?_) hp)
    have hL₀ : h₀.get? env.locals = none := Heap.get?_none_of_le F'.above
    have F₂ : Fr h₀ env.locals h₂ (fun z => if z = y then some (.ref D) else m z) := ⟨hn₂, fun b o e => hs₂.extBut b o (fun q => by rw [q, hL₀] at e; cases e) (F'.keep b o e), F'.above⟩
    refine ⟨m', hn.sameBut hs₂ hCL, fun h'' hs'' => fin ys D h'' _ hys (F₂.change hs'' hCL hC₀) (fun p hp => ?_) o1⟩
    have z : h₂.get? p.1 = some p.2 := hs₂.extBut _ _ (N' p hp).2.1 (N' p hp).1
    refine ⟨hs''.extBut _ _ ?_ z, (N' p hp).2⟩
    rcases List.mem_cons.mp hp with rfl | hp
    · exact Ne.symm hCD
    · exact offC p hp

/-- [c for c in text if test] -/
noncomputable def SFiltGo (prog : Program) (w : World) (A : Around) (h₀ : Heap) (L : Addr) (m : Str → Option Value) (env : Env) (ct elt : Expr) (x : Str) (scope : Scope) (cl : List (Str × Addr)) (p : Nat → Bool) (Q : Value → Shared → Prop) (xv : Value) (s₁ : Shared) : Prop :=
  ∃ xt t nw, xv = .str xt t ∧ Fr h₀ L s₁.heap m ∧ News h₀ L s₁.heap nw ∧ xt.length ≤ 1000 ∧
    (∀ (n : Nat) t I oI C oC D ys m₂ h tk (E' : Value → Shared → Prop), n ∈ xt.cps.toList → LCg.NsObj oC m₂ → m₂ x = some (.str ⟨#[n]⟩ t) → Fr h₀ L h m → News h₀ L h ((I, oI) :: (C, oC) :: (D, LCg.lst ys) :: nw) → LCg.Off3 I C D nw → ((@Ne Nat I C) ∧ (@Ne Nat I D) ∧ (@Ne Nat C D)) →
      wpAny (model prog w) A (isTrue ct (compEnvC scope cl C env) (eval ct (compEnvC scope cl C env))) (fun ok s' => if ok = true then
        wpAny (model prog w) A (eval elt (compEnvC scope cl C env)) (EltEnd h₀ L m { s₁ with heap := h, toks := tk } I oI C oC D (LCg.lst ys) (fun y news' => news' = nw ∧ p n = true ∧ ∃ t, y = .str ⟨#[n]⟩ t)) E' s'
        else EltEnd h₀ L m { s₁ with heap := h, toks := tk } I oI C oC D (LCg.lst ys) (fun _ news' => news' = nw ∧ p n = false) Value.none s') E' { s₁ with heap := h, toks := tk }) ∧
    ∀ ys D h tk, StrsAre ys ((xt.cps.toList.filter p).map fun c => ⟨#[c]⟩) → Fr h₀ L h m → News h₀ L h ((D, LCg.lst ys) :: nw) → LCg.Off1 D nw → Q (.ref D) { s₁ with heap := h, toks := tk }
theorem SFiltGo.intro {ct elt : Expr} {x : Str} {scope : Scope} {cl : List (Str × Addr)} {p : Nat → Bool} {Q : Value → Shared → Prop} {s₁ : Shared} {xt : Str} {t : Tok} {nw : List (Addr × Obj)}
    (F : Fr h₀ L s₁.heap m) (N : News h₀ L s₁.heap nw) (hsz : xt.length ≤ 1000)
    (step : ∀ (n : Nat) t I oI C oC D ys m₂ h tk (E' : Value → Shared → Prop), n ∈ xt.cps.toList → LCg.NsObj oC m₂ → m₂ x = some (.str ⟨#[n]⟩ t) → Fr h₀ L h m → News h₀ L h ((I, oI) :: (C, oC) :: (D, LCg.lst ys) :: nw) → LCg.Off3 I C D nw → ((@Ne Nat I C) ∧ (@Ne Nat I D) ∧ (@Ne Nat C D)) →
      wpAny (model prog w) A (isTrue ct (compEnvC scope cl C env) (eval ct (compEnvC scope cl C env))) (fun ok s' => if ok = true then
        wpAny (model prog w) A (eval elt (compEnvC scope cl C env)) (EltEnd h₀ L m { s₁ with heap := h, toks := tk } I oI C oC D (LCg.lst ys) (fun y news' => news' = nw ∧ p n = true ∧ ∃ t, y = .str ⟨#[n]⟩ t)) E' s'
        else EltEnd h₀ L m { s₁ with heap := h, toks := tk } I oI C oC D (LCg.lst ys) (fun _ news' => news' = nw ∧ p n = false) Value.none s') E' { s₁ with heap := h, toks := tk })
    (fin : ∀ ys D h tk, StrsAre ys ((xt.cps.toList.filter p).map fun c => ⟨#[c]⟩) → Fr h₀ L h m → News h₀ L h ((D, LCg.lst ys) :: nw) → LCg.Off1 D nw → Q (.ref D) { s₁ with heap := h, toks := tk }) :
    SFiltGo prog w A h₀ L m env ct elt x scope cl p Q (.str xt t) s₁ := ⟨xt, t, nw, rfl, F, N, hsz, step, fin⟩
theorem sfilt_rest {ct elt : Expr} {x : Str} {scope : Scope} {cl : List (Str × Addr)} {Fin : List Value → List (Addr × Obj) → Prop} {xt : Str} {p : Nat → Bool} {nw : List (Addr × Obj)}
    (step : ∀ (n : Nat) t I oI C oC D ys m₂ h tk (E' : Value → Shared → Prop), n ∈ xt.cps.toList → LCg.NsObj oC m₂ → m₂ x = some (.str ⟨#[n]⟩ t) → Fr h₀ L h m → News h₀ L h ((I, oI) :: (C, oC) :: (D, LCg.lst ys) :: nw) → LCg.Off3 I C D nw → ((@Ne Nat I C) ∧ (@Ne Nat I D) ∧ (@Ne Nat C D)) →
      wpAny (model prog w) A (isTrue ct (compEnvC scope cl C env) (eval ct (compEnvC scope cl C env))) (fun ok s' => if ok = true then
        wpAny (model prog w) A (eval elt (compEnvC scope cl C env)) (EltEnd h₀ L m { s with heap := h, toks := tk } I oI C oC D (LCg.lst ys) (fun y news' => news' = nw ∧ p n = true ∧ ∃ t, y = .str ⟨#[n]⟩ t)) E' s'
        else EltEnd h₀ L m { s with heap := h, toks := tk } I oI C oC D (LCg.lst ys) (fun _ news' => news' = nw ∧ p n = false) Value.none s') E' { s with heap := h, toks := tk })
    (fin : ∀ ys, StrsAre ys ((xt.cps.toList.filter p).map fun c => ⟨#[c]⟩) → Fin ys nw) : ∀ k i ys, i + k = xt.cps.size → StrsAre ys (((xt.cps.toList.take i).filter p).map fun c => ⟨#[c]⟩) → LCt.CompRestT prog w A h₀ L m env ct elt x scope cl s (fun _ => True) (SignAt xt) Fin k i ys nw
  | 0, i, ys, e, hI => LCt.CompRestT.zero (fin ys (by rw [List.take_of_length_le (by rw [Array.length_toList]; omega)] at hI; exact hI))
  | k + 1, i, ys, e, hI => LCt.CompRestT.succ fun v I oI C oC D m₂ h tk E' hP hoC hx F N off ne => by
    obtain ⟨c, u, hc, rfl⟩ := hP
    have hc' : xt.cps.toList[i]? = some c := by simpa using hc
    refine wpAny_mono (step c u I oI C oC D ys m₂ h tk E' (List.mem_of_getElem? hc') hoC hx F N off ne) (fun ok s' hq => ?_) fun _ _ e => e
    by_cases hok : ok = true
    · rw [if_pos hok] at hq ⊢
      refine wpAny_mono hq (fun y s₂ ⟨h', tk', news', e', F', N', off', hnw, hp, t', hy⟩ => ?_) fun _ _ e => e
      subst hnw
      refine ⟨h', tk', news', e', F', N', off', trivial, sfilt_rest step fin k (i + 1) (ys ++ [y]) (by omega) ?_⟩
      rw [hy, List.take_add_one, hc', List.filter_append, List.map_append]
      simp only [Option.toList_some, List.filter_cons, hp, if_true, List.filter_nil, List.map_cons, List.map_nil]
      exact hI.append' (StrsAre.cons _ _ StrsAre.nil)
    · rw [if_neg hok] at hq ⊢
      obtain ⟨h', tk', news', e', F', N', off', hnw, hp⟩ := hq
      subst hnw
      refine ⟨h', tk', news', e', F', N', off', trivial, sfilt_rest step fin k (i + 1) ys (by omega) ?_⟩
      rw [List.take_add_one, hc', List.filter_append, List.map_append]
      simp only [Option.toList_some, List.filter_cons, hp, Bool.false_eq_true, if_false, List.filter_nil, List.map_nil, List.append_nil]
      exact hI
theorem ListComp_sfilt {ct elt iter : Expr} {x : Str} {px : Pos} {scope : Scope} {cl : List (Str × Addr)} {pos : Pos} {Q : Value → Shared → Prop} (p : Nat → Bool) (_F₀ : Fr h₀ L s.heap m)
    (hclos : closureFor scope env = pure cl) (hcell : ∀ y ∈ scope.names, y.2 ≠ .cell) (hkind : scope.kind = .function)
    (hnames : ∀ y ∈ scope.names, y.2 = .local → scope.names.lookup y.1 = some .local) (hx : scope.names.lookup x = some .local) (hh : A.handled = none)
    (hs : ∀ x, foldedSetIterable iter env x = pure x)
    (h : wpAny (model prog w) A (eval iter env) (SFiltGo prog w A h₀ L m env ct elt x scope cl p Q) E s) :
    wpAny (model prog w) A (eval (.ListComp elt [⟨.Name x px, iter, [ct], 0⟩] scope pos) env) Q E s := by
  rw [eval_ListComp]
  refine wpAny_comprehension_free (use := none) rfl hs hclos hkind hnames (wpAny_mono h (fun xv s₁ h₁ => ?_) fun _ _ e => e)
  obtain ⟨xt, t, nw, rfl, F, N, hsz, step, fin⟩ := h₁
  refine str_block fun o St hW hIo hst => ?_
  have W := hW A hh
  refine LCt.block_T (S := fun _ => True) (news := nw) (Fin := fun ys news => news = nw ∧ StrsAre ys ((xt.cps.toList.filter p).map fun c => ⟨#[c]⟩)) W (by rw [sizeLine_eq]; show xt.length ≤ _; omega) hIo (fun i g g' ob nw' st e e' _ _ _ => W.frame _ _ _ st (fun b hb ob' eb => by rw [List.mem_singleton.mp hb] at eb ⊢; rw [e] at eb; cases eb; exact e')) hcell hkind hx hst (fun b hb => ?_)
      (F.keeps fun _ _ e => Heap.get?_push_of_some _ e) (N.grown fun _ _ e => Heap.get?_push_of_some _ e) (Nat.ne_of_lt F.ns.lt) (next_is_new F) (fun p hp => Nat.ne_of_lt (Heap.lt_size (N p hp).1)) trivial (sfilt_rest (s := { s₁ with heap := s₁.heap.push o }) (Fin := fun ys news => news = nw ∧ StrsAre ys ((xt.cps.toList.filter p).map fun c => ⟨#[c]⟩)) (fun n t I oI C oC D ys m₂ h tk E' => step n t I oI C oC D ys m₂ h tk E') (fun ys hys => ⟨rfl, hys⟩) xt.cps.size 0 [] (by omega) StrsAre.nil) ?_
  · rw [List.mem_singleton.mp hb]
    show s₁.heap.objs.size < (s₁.heap.push _).objs.size
    rw [Heap.size_push]; exact Nat.lt_succ_self _
  · rintro D C h' tk m' ys news' F' N' o1 hn hC₀ hD₀ hCL hDL hCD offC ⟨rfl, hys⟩
    refine ⟨m', hn, fun h'' hs'' => fin ys D h'' tk hys (F'.change hs'' hCL hC₀) (fun p hp => ?_) o1⟩
    refine ⟨hs''.extBut _ _ ?_ (N' p hp).1, (N' p hp).2⟩
    rcases List.mem_cons.mp hp with rfl | hp
    · exact Ne.symm hCD
    · exact offC p hp
end
end Mine
-- part NeS
namespace Mine
set_option maxRecDepth 100000
set_option maxHeartbeats 8000000
theorem strs_lay : ∀ ws : List Str, (∀ x ∈ ws, PyData.strOk x = true) → PyData.canLayAll0 (ws.map PyData.str) = true
  | [], _ => rfl
  | a :: r, h => by
    have h1 := h a List.mem_cons_self
    have h2 := strs_lay r fun x hx => h x (List.mem_cons_of_mem _ hx)
    simp [PyData.canLayAll0, PyData.canLay0, h1, h2]
theorem strs_deep : ∀ ws : List Str, PyData.depthAll (ws.map PyData.str) = 0
  | [] => rfl
  | _ :: r => by simp [PyData.depthAll, PyData.depth, strs_deep r]
theorem strs_shape (ws : List Str) (h : ∀ x ∈ ws, PyData.strOk x = true) : SeqAt.shaped (.list (ws.map PyData.str)) = true := by
  have h1 := strs_lay ws h
  simp [SeqAt.shaped, PyData.canLay0, PyData.depth, h1, strs_deep]
theorem strs_same (ws : List Str) : PySem.Spec.same (.list (ws.map PyData.str)) (.list (([] : List Str).map PyData.str)) = ws.isEmpty := by
  simp only [PySem.Spec.same]
  cases ws with
  | nil => simp [PySem.Spec.sameAll]
  | cons a r => simp [PySem.Spec.sameAll]
section
variable {prog : Program} {w : World} {A : Around} {E : Value → Shared → Prop} {s : Shared} {a b : Addr} {xs : List Value} {ws : List Str} {Q : Value → Shared → Prop}
theorem ne_nil (ha : s.heap.IsList a xs.toArray) (hb : s.heap.IsList b ([] : List Value).toArray) (hi : StrsAre xs ws) (hok : ∀ x ∈ ws, PyData.strOk x = true) (hu : A.units + 64 < cLine) (h : Q (.bool (!ws.isEmpty)) s) :
    wpAny (model prog w) A (compareOp .NotEq (.ref a) (.ref b)) Q E s :=
  ne_dataH_same (reads_newData ha hi.carried) (reads_newData hb (StrsAre.nil).carried) (strs_shape _ hok) (strs_shape [] fun _ h => nomatch h) hu (SeqAt.noMix_of_shape (.list .str) rfl _ _ (list_map_has fun _ => rfl) (list_map_has fun _ => rfl)) (by rw [strs_same]; exact h)
end
theorem slice_codes {x : Str} {l u : Option Int} {P : Nat → Prop} (h : ∀ n ∈ x.cps.toList, P n) : ∀ n ∈ (Txt.slice x l u).cps.toList, P n := by
  unfold Txt.slice
  split
  · exact h
  · intro n hn
    have hn : n ∈ List.filterMap (x.cps[·]?) (Builtin.Str.strSliceIndices l u 1 x.length) := by simpa using hn
    obtain ⟨i, _, hi⟩ := List.mem_filterMap.mp hn
    have : x.cps.toList[i]? = some n := by simpa using hi
    exact h n (List.mem_of_getElem? this)
theorem rstrip_codes {x y : Str} {P : Nat → Prop} (h : ∀ n ∈ x.cps.toList, P n) : ∀ n ∈ (Txt.rstripChars x y).cps.toList, P n := by
  obtain ⟨j, _, e⟩ := rstripChars_is_prefix x y
  rw [e]
  intro n hn
  have hn : n ∈ (x.cps.extract 0 j).toList := hn
  rw [Array.toList_extract] at hn
  exact h n (List.mem_of_mem_drop (List.mem_of_mem_take hn))
theorem fig_ok {x : Str} {p : Nat → Bool} (h : ∀ n ∈ x.cps.toList, n < 1114112) : ∀ y ∈ ((Txt.rstripChars (Txt.slice x (some 1) none) (Str.ofString " ")).cps.toList.filter p).map (fun c => (⟨#[c]⟩ : Str)), PyData.strOk y = true := by
  intro y hy
  obtain ⟨c, hc, rfl⟩ := List.mem_map.mp hy
  have := rstrip_codes (slice_codes h) c (List.mem_filter.mp hc).1
  simp [PyData.strOk, this]
end Mine
-- part C10
namespace Mine
example : True := by
  w_top off
  trivial
set_option maxRecDepth 100000
set_option maxHeartbeats 8000000
example : PySem.Challenge.rw_qz0090_01 = PySem.Challenge.rw_qz0090_01 ∧ hd.heap_1 = hd.heap_1 := by
  k_fill
  exact ⟨rfl, rfl⟩
local macro_rules | `(tactic| size_fits) => `(tactic| exact Nat.zero_le _)
local macro_rules | `(tactic| k_room) => `(tactic| ktr_room)
local macro_rules | `(tactic| k_units) => `(tactic| ktr_units)
local macro_rules | `(tactic| walk_at "execs cons") => `(tactic| k_extra "my tail")
local macro_rules | `(tactic| walk_at "eval ListComp") => `(tactic| k_extra "my comp")
local macro_rules | `(tactic| walk_at "SFiltGo") => `(tactic| k_extra "my sgo")
local macro_rules | `(tactic| walk_at "EltEnd") => `(tactic| k_extra "my elt")
local macro_rules | `(tactic| walk_at "compareOp NotEq ref ref") => `(tactic| k_extra "my ne")
theorem fig_some {x : Str} (h : (((Txt.rstripChars (Txt.slice x (some 1) none) (Str.ofString " ")).cps.toList.filter fun n => !hasIn (Str.ofString "50") ⟨#[n]⟩).map (fun c => (⟨#[c]⟩ : Str))).isEmpty = false) : figBad x = true := by
  unfold figBad figT
  rw [List.isEmpty_map] at h
  rw [h]
  simp
section
variable {x : Str}
theorem bne_of {a b : Str} (h : (a != b) = true) : (a == b) = false := by
  cases e : a == b with
  | false => rfl
  | true => rw [beq_iff_eq.mp e] at h; simp at h
theorem bne_no {a b : Str} (h : (a != b) = false) : (a == b) = true := by simpa using h
noncomputable abbrev OccE (st y : Str) : Bool := (Builtin.Str.occurrences st y 0 st.length 1).isEmpty
theorem min_t0 (h0 : (x != Str.ofString "") = false) : minV x = .inl (minN x) := by unfold minV; rw [bne_no h0]; rfl
theorem min_e1 (h0 : (x != Str.ofString "") = true) (h1 : (Builtin.Str.occurrences (Str.ofString "bZ_") (Txt.item x 0) 0 (Str.ofString "bZ_").length 1).isEmpty = false) : minV x = .inr (Str.ofString "-" ++ x) := by
  unfold minV hasIn; rw [bne_of h0, h1]; rfl
theorem min_e2 (h0 : (x != Str.ofString "") = true) (h1 : (Builtin.Str.occurrences (Str.ofString "bZ_") (Txt.item x 0) 0 (Str.ofString "bZ_").length 1).isEmpty = true) (h2 : (Txt.item x 0 == Str.ofString "+") = true) : minV x = .inr (Str.ofString "-" ++ Txt.slice x (some 1) none) := by
  unfold minV hasIn; rw [bne_of h0, h1, h2]; rfl
theorem min_e3 (h0 : (x != Str.ofString "") = true) (h1 : (Builtin.Str.occurrences (Str.ofString "bZ_") (Txt.item x 0) 0 (Str.ofString "bZ_").length 1).isEmpty = true) (h2 : (Txt.item x 0 == Str.ofString "+") = false) (h3 : (Txt.item x 0 == Str.ofString "-") = true) (h4 : figBad x = true) : minV x = .inr (Str.ofString "+" ++ Txt.slice x (some 1) none) := by
  unfold minV hasIn; rw [bne_of h0, h1, h2, h3, h4]; rfl
theorem min_t1 (h0 : (x != Str.ofString "") = true) (h1 : (Builtin.Str.occurrences (Str.ofString "bZ_") (Txt.item x 0) 0 (Str.ofString "bZ_").length 1).isEmpty = true) (h2 : (Txt.item x 0 == Str.ofString "+") = false) (h3 : (Txt.item x 0 == Str.ofString "-") = false) : minV x = .inl (minN x) := by
  unfold minV hasIn; rw [bne_of h0, h1, h2, h3]; rfl
theorem min_t2 (h0 : (x != Str.ofString "") = true) (h1 : (Builtin.Str.occurrences (Str.ofString "bZ_") (Txt.item x 0) 0 (Str.ofString "bZ_").length 1).isEmpty = true) (h2 : (Txt.item x 0 == Str.ofString "+") = false) (h3 : (Txt.item x 0 == Str.ofString "-") = true) (h4 : figBad x = false) : minV x = .inl (minN x) := by
  unfold minV hasIn; rw [bne_of h0, h1, h2, h3, h4]; rfl
theorem fig_nil (h : (Txt.rstripChars (Txt.slice x (some 1) none) (Str.ofString " ") == Str.ofString "") = true) : figBad x = true := by
  unfold figBad figT; rw [h]; rfl
theorem fig_none (h : (Txt.rstripChars (Txt.slice x (some 1) none) (Str.ofString " ") == Str.ofString "") = false) (h2 : (((Txt.rstripChars (Txt.slice x (some 1) none) (Str.ofString " ")).cps.toList.filter fun n => !hasIn (Str.ofString "50") ⟨#[n]⟩).map (fun c => (⟨#[c]⟩ : Str))).isEmpty = true) : figBad x = false := by
  unfold figBad figT
  rw [List.isEmpty_map] at h2
  rw [h, h2]; rfl
theorem val_inr {y : Str} {t : Tok} (h : minV x = .inr y) : ValIs (.str y t) (minV x) := by rw [h]; exact ⟨_, rfl⟩
theorem val_inl {n : Int} {t : Tok} (h : minV x = .inl n) : ValIs (.int n t) (minV x) := by rw [h]; exact ⟨_, rfl⟩
end
theorem sf_yes {n : Nat} (h : (Builtin.Str.occurrences (Str.ofString "50") ⟨#[n]⟩ 0 (Str.ofString "50").length 1).isEmpty = true) : (!hasIn (Str.ofString "50") ⟨#[n]⟩) = true := by unfold hasIn; rw [h]; rfl
theorem sf_no {n : Nat} (h : (Builtin.Str.occurrences (Str.ofString "50") ⟨#[n]⟩ 0 (Str.ofString "50").length 1).isEmpty = false) : (!hasIn (Str.ofString "50") ⟨#[n]⟩) = false := by unfold hasIn; rw [h]; rfl
theorem c_min {w : World} {mean : ExcName → Option Value} {mg mb : Str → Option Value} {dp un : Nat} {gd : Option (List Code)} {cn : Str} {cs : Scope} {a : Addr} {ccd : Value} {cl : List (Str × Addr)} {outer : List Env} {A₀ : Around} {base h₀ : Heap} {L : Addr} {m : Str → Option Value} {s : Shared} {E : Value → Shared → Prop}
    (B : Below A₀ base outer h₀) (F : Fr h₀ L s.heap m) (X : (hd.heap_1 w.params).In h₀) (T : TOP mean mg mb h₀) (hk : cs.kind = .function) (hdp : dp + 40 < recursionLimit) (hun : un + 400 < cLine)
    (x : Str) (t0 : Tok) (hx : Fine (x.length ≤ 4)) (hxc : Fine (∀ n ∈ x.cps.toList, n < 1114112)) :
    wpAny (model PR w) (ktrTop dp un gd cn cs L a ccd cl outer) (call (.ref 401) [.str x t0]) (fun v s' => Fine (Goes [] s s' ∧ ValIs v (minV x))) E s := by
  have N : News h₀ L s.heap [] := News.nil
  have hx1 : x.length ≤ 1000 := Nat.le_trans hx.out (by decide)
  refine wpAny_call ?_
  refine' code_defG ?k1 ?k2 ?k3 ?k4 ?k5 ?kA ?kF ?kK ?k6 ?k7 ?k8 ?k9 ?kB ?_ ?c2 ?c3 ?c4 ?c5
  case kA => exact rfl
  case kF => exact rfl
  case kK => assumption
  case k1 => k_asm
  case k2 => k_asm
  case k3 => k_asm
  case k4 => exact N
  case k5 => k_asm
  case k6 => k_is
  case k7 => k_is
  case k8 => ktr_room
  case k9 => exact BindsTo.of_eq rfl
  case c5 => decide
  case kB => exact locs rfl
  case c2 => exact rfl
  case c3 => exact rfl
  case c4 => exact rfl
  intro g' L' h' FG' F' N' B' X' T' kG'
  dsimp only
  try k_fold
  k_with_none
  k_with "my sgo" => (refine halt ?_)
  k_with "my elt" => (refine halt ?_)
  k_with "my room" => ((try dsimp only [ktrTop]); (try simp only [depth_deeper, units_deeper]); omega)
  k_with "my ne" => (k_here; (rename News _ _ _ _ => Nz); k_dflt (refine' ne_nil ?a ?b hys ?ok ?u ?_; (case a => exact News.isList Nz (by k_mem)); (case b => exact News.isList Nz (by k_mem)); (case ok => exact fig_ok hxc.out); (case u => k_extra "my room"); k_whole))
  k_with "my comp" => (k_here; (rename Fr _ _ _ _ => lF); (refine' ListComp_sfilt (fun n => !hasIn (Str.ofString "50") ⟨#[n]⟩) lF ?hclos ?hcell ?hkind ?hnames ?hx ?hh ?hs ?_); (case hclos => with_unfolding_all rfl); (case hcell => decide); (case hkind => with_unfolding_all rfl); (case hnames => decide); (case hx => with_unfolding_all rfl); (case hh => with_unfolding_all rfl); (case hs => intro _; with_unfolding_all rfl))
  k_with "my sgo" => ((rename Fr _ _ _ _ => lF); (rename News _ _ _ _ => lN); k_dflt ((refine' SFiltGo.intro lF lN ?hsz (fun n t I oI C oC Dk ys m₂ hk tok E' hn hoC hxk Fk Nk offk nek => ?_) (fun ys Dk hk tok hys Fk Nk offk => ?_)); (case hsz => omega); (try clear lF); (try clear lN)))
  k_with "my elt" => ((rename Fr _ _ _ _ => Fz); (rename News _ _ _ _ => Nz); refine EltEnd.intro Fz Nz (fun p hp => hp) offk ?_; k_dflt (first | exact ⟨rfl, sf_yes (by assumption), _, rfl⟩ | exact ⟨rfl, sf_no (by assumption)⟩))
  k_with "my tail" => (k_here; (with_reducible show wpAny _ _ (execs (Stmt.Assign [Expr.Name (Str.ofString "head") _] _ _ :: _) _) _ _ _); (rename Fr _ _ _ _ => Fz); k_dflt ((refine' wpAny_mono (tail_min ?B Fz ?X ?T x News.nil hx ?hm) ?_ (fun _ _ x => x.elim)); (case hm => with_unfolding_all rfl); (case B => k_asm); (case X => k_asm); (case T => k_asm); intro fz sz hz; (obtain ⟨h2, tk2, t2, m2, rfl, rfl, F2⟩ := hz); (try clear Fz); (try dsimp only)))
  k_steps
  all_goals first
    | (refine leaveK_ F2 News.nil fun _ _ => ⟨goes_of F2 kG', val_inl ?_⟩
       first
         | exact min_t0 (by with_reducible assumption)
         | exact min_t1 (by with_reducible assumption) (by with_reducible assumption) (by with_reducible assumption) (by with_reducible assumption)
         | exact min_t2 (by with_reducible assumption) (by with_reducible assumption) (by with_reducible assumption) (by with_reducible assumption) (fig_none (by with_reducible assumption) (by with_reducible assumption)))
    | (rename Fr g' L' _ _ => Fy
       refine ⟨goes_of Fy kG', val_inr ?_⟩
       first
         | exact min_e1 (by with_reducible assumption) (by with_reducible assumption)
         | exact min_e2 (by with_reducible assumption) (by with_reducible assumption) (by with_reducible assumption)
         | exact min_e3 (by with_reducible assumption) (by with_reducible assumption) (by with_reducible assumption) (by with_reducible assumption) (fig_nil (by with_reducible assumption))
         | exact min_e3 (by with_reducible assumption) (by with_reducible assumption) (by with_reducible assumption) (by with_reducible assumption) (fig_some (by with_reducible assumption)))
end Mine
-- part N1
namespace Mine
set_option maxRecDepth 100000
set_option maxHeartbeats 8000000
noncomputable def letrs : List Int := [43, 45, 53, 32, 98, 90, 95, 48]
noncomputable def sp (c : Int) : Bool := c == 32
noncomputable def dg (c : Int) : Bool := c == 53 || c == 48
noncomputable def cL (p : Int → Bool) (l : List Int) (k : Int) : Bool := if k < (l.length : Int) then p (l.getD k.toNat 0) else false
noncomputable def hAt (l : List Int) : Int := skipN (cL sp l) l.length 0
noncomputable def sgn (l : List Int) (k : Int) : Bool := if k < (l.length : Int) then (l.getD k.toNat 0 == 43 || l.getD k.toNat 0 == 45) else false
noncomputable def hE (l : List Int) : Int := if sgn l (hAt l) = true then hAt l + 1 else hAt l
noncomputable def hEnd (l : List Int) : Int := if skipN (cL dg l) l.length (hE l) = hE l then hAt l else skipN (cL dg l) l.length (hE l)
noncomputable def looksL (l : List Int) : Bool := if hAt l = hEnd l then false else decide (skipN (cL sp l) l.length (hEnd l) = (l.length : Int))
noncomputable def stepL (a c : Int) : Int := if dg c = true then (a * 10 + (if c = 53 then 5 else 0)) % 18446744073709551616 else a
noncomputable def ntVL (l : List Int) : Int := ((l.drop (hAt l).toNat).take (hEnd l - hAt l).toNat).foldl stepL 0
noncomputable def ntSL (l : List Int) : Bool := if hAt l < hEnd l then l.getD (hAt l).toNat 0 == 45 else false
noncomputable def ntNL (l : List Int) : Int := wrapV (if ntSL l = true then - ntVL l else ntVL l)
noncomputable def negL (l : List Int) : Int ⊕ List Int :=
  if l.isEmpty = true then .inl (wrapV (0 - ntNL l))
  else if (l.getD 0 0 == 98 || l.getD 0 0 == 90 || l.getD 0 0 == 95) = true then .inr (45 :: l)
  else if (l.getD 0 0 == 43) = true then .inr (45 :: l.drop 1)
  else if (l.getD 0 0 == 45 && !looksL l) = true then .inr (43 :: l.drop 1)
  else .inl (wrapV (0 - ntNL l))
noncomputable def headL (l : List Int) : List Int := l.dropWhile sp
noncomputable def tailL (h : List Int) : List Int := if (h.getD 0 0 == 43 || h.getD 0 0 == 45) = true then h.drop 1 else h
noncomputable def turnL (h : List Int) : Int := if (h.getD 0 0 == 45) = true then 1 else -1
noncomputable def stepG (a c : Int) : Int := 10 * a + (if c = 53 then 5 else 0)
noncomputable def minNL (l : List Int) : Int := turnL (headL l) * ((tailL (headL l)).takeWhile dg).foldl stepG 0
noncomputable def figL (l : List Int) : List Int := ((l.drop 1).reverse.dropWhile sp).reverse
noncomputable def figBadL (l : List Int) : Bool := (figL l).isEmpty || !((figL l).filter fun c => !dg c).isEmpty
noncomputable def minL (l : List Int) : Int ⊕ List Int :=
  if l.isEmpty = true then .inl (minNL l)
  else if (l.getD 0 0 == 98 || l.getD 0 0 == 90 || l.getD 0 0 == 95) = true then .inr (45 :: l)
  else if (l.getD 0 0 == 43) = true then .inr (45 :: l.drop 1)
  else if (l.getD 0 0 == 45 && figBadL l) = true then .inr (43 :: l.drop 1)
  else .inl (minNL l)
noncomputable def allT (P : List Int → Bool) : Nat → List Int → Bool
  | 0, l => P l
  | n + 1, l => P l && letrs.all fun c => allT P n (c :: l)
theorem allT_of {P : List Int → Bool} : ∀ {n : Nat} {l : List Int}, allT P n l = true → ∀ m : List Int, m.length ≤ n → (∀ c ∈ m, c ∈ letrs) → P (m.reverse ++ l) = true
  | 0, l, h, m, hm, _ => by
    have e : m = [] := List.length_eq_zero_iff.mp (Nat.le_zero.mp hm)
    subst e
    exact h
  | n + 1, l, h, [], _, _ => by
    unfold allT at h
    rw [Bool.and_eq_true] at h
    exact h.1
  | n + 1, l, h, c :: m, hm, hc => by
    unfold allT at h
    rw [Bool.and_eq_true] at h
    have h2 := List.all_eq_true.mp h.2 c (hc c List.mem_cons_self)
    have h3 := allT_of h2 m (by simpa using hm) fun x hx => hc x (List.mem_cons_of_mem _ hx)
    rw [List.reverse_cons, List.append_assoc]
    exact h3
noncomputable def same1 (l : List Int) : Bool := decide (negL l = minL l)
theorem same_43 : allT same1 3 [43] = true := by decide +kernel
theorem same_45 : allT same1 3 [45] = true := by decide +kernel
theorem same_53 : allT same1 3 [53] = true := by decide +kernel
theorem same_32 : allT same1 3 [32] = true := by decide +kernel
theorem same_98 : allT same1 3 [98] = true := by decide +kernel
theorem same_90 : allT same1 3 [90] = true := by decide +kernel
theorem same_95 : allT same1 3 [95] = true := by decide +kernel
theorem same_48 : allT same1 3 [48] = true := by decide +kernel
theorem same_all : allT same1 4 [] = true := by
  unfold allT
  rw [Bool.and_eq_true]
  refine ⟨by decide +kernel, List.all_eq_true.mpr fun c hc => ?_⟩
  have e : c = 43 ∨ c = 45 ∨ c = 53 ∨ c = 32 ∨ c = 98 ∨ c = 90 ∨ c = 95 ∨ c = 48 := by simpa [letrs] using hc
  rcases e with rfl | rfl | rfl | rfl | rfl | rfl | rfl | rfl
  · exact same_43
  · exact same_45
  · exact same_53
  · exact same_32
  · exact same_98
  · exact same_90
  · exact same_95
  · exact same_48
theorem neg_min_L (l : List Int) (hl : l.length ≤ 4) (hc : ∀ c ∈ l, c ∈ letrs) : negL l = minL l := by
  have h := allT_of same_all l.reverse (by simpa using hl) fun c h => hc c (List.mem_reverse.mp h)
  rw [List.reverse_reverse, List.append_nil] at h
  exact of_decide_eq_true h
end Mine
-- part N2
namespace Mine
set_option maxRecDepth 100000
set_option maxHeartbeats 8000000
noncomputable def one (n : Int) : Str := ⟨#[n.toNat]⟩
noncomputable abbrev SPS : Str := Str.ofString " \t\n\r\x0c\x0b"
noncomputable abbrev FIG : Str := Str.ofString "0123456789"
theorem in_sp : ∀ c ∈ letrs, hasIn SPS (one c) = sp c := by decide +kernel
theorem in_fig : ∀ c ∈ letrs, hasIn FIG (one c) = dg c := by decide +kernel
theorem in_50 : ∀ c ∈ letrs, hasIn (Str.ofString "50") (one c) = dg c := by decide +kernel
theorem in_abc : ∀ c ∈ letrs, (hasIn (Str.ofString "abcdefghijklmnopqrstuvwxyz") (one c) || hasIn (Str.ofString "ABCDEFGHIJKLMNOPQRSTUVWXYZ") (one c) || one c == Str.ofString "_") = (c == 98 || c == 90 || c == 95) := by decide +kernel
theorem in_bZ : ∀ c ∈ letrs, hasIn (Str.ofString "bZ_") (one c) = (c == 98 || c == 90 || c == 95) := by decide +kernel
theorem is_plus : ∀ c ∈ letrs, (one c == Str.ofString "+") = (c == 43) := by decide +kernel
theorem is_minus : ∀ c ∈ letrs, (one c == Str.ofString "-") = (c == 45) := by decide +kernel
theorem is_five : ∀ c ∈ letrs, one c = Str.ofString "5" ↔ c = 53 := by decide +kernel
theorem find_fig : ∀ c ∈ letrs, dg c = true → Txt.find FIG (one c) = if c = 53 then 5 else 0 := by decide +kernel
theorem let_pos : ∀ c ∈ letrs, 0 ≤ c := by decide
section
variable {l : List Int}
theorem cps_at {i : Nat} (hi : i < l.length) : (txt l).cps.getD i 0 = (l.getD i 0).toNat := by
  unfold txt
  simp only [Array.getD_eq_getD_getElem?, List.getElem?_toArray, List.getElem?_map, List.getD_eq_getElem?_getD]
  rw [List.getElem?_eq_getElem hi]
  rfl
theorem item_txt {k : Int} (h0 : 0 ≤ k) (h1 : k < (l.length : Int)) : Txt.item (txt l) k = one (l.getD k.toNat 0) := by
  have hl := txt_length l
  rw [item_meets ⟨h0, by omega⟩, cps_at (by omega)]
  rfl
theorem get_let (hc : ∀ c ∈ l, c ∈ letrs) {k : Int} (h0 : 0 ≤ k) (h1 : k < (l.length : Int)) : l.getD k.toNat 0 ∈ letrs := by
  rw [List.getD_eq_getElem?_getD, List.getElem?_eq_getElem (by omega)]
  exact hc _ (List.getElem_mem _)
theorem inC_txt {st : Str} {p : Int → Bool} (hp : ∀ c ∈ letrs, hasIn st (one c) = p c) (hc : ∀ c ∈ l, c ∈ letrs) {k : Int} (h0 : 0 ≤ k) : inC st (txt l) k = cL p l k := by
  have hl := txt_length l
  unfold inC cL
  by_cases h : k < (l.length : Int)
  · rw [if_pos (by omega), if_pos h, item_txt h0 h]
    exact hp _ (get_let hc h0 h)
  · rw [if_neg (by omega), if_neg h]
theorem skipN_congr {c c' : Int → Bool} : ∀ (n : Nat) {k : Int}, (∀ j, k ≤ j → c j = c' j) → skipN c n k = skipN c' n k
  | 0, _, _ => rfl
  | n + 1, k, h => by
    unfold skipN
    rw [h k (Int.le_refl _)]
    split
    · exact skipN_congr n fun j hj => h j (by omega)
    · rfl
theorem skipF_txt {st : Str} {p : Int → Bool} (hp : ∀ c ∈ letrs, hasIn st (one c) = p c) (hc : ∀ c ∈ l, c ∈ letrs) {k : Int} (h0 : 0 ≤ k) : skipF st (txt l) k = skipN (cL p l) l.length k := by
  unfold skipF
  rw [txt_length]
  exact skipN_congr _ fun j hj => inC_txt hp hc (by omega)
theorem hAt_txt (hc : ∀ c ∈ l, c ∈ letrs) : headAt (txt l) = hAt l := skipF_txt in_sp hc (Int.le_refl 0)
theorem slice_txt {a b : Int} (h0 : 0 ≤ a) (h1 : a ≤ b) (h2 : b ≤ (l.length : Int)) : Txt.slice (txt l) (some a) (some b) = txt ((l.drop a.toNat).take (b - a).toNat) := by
  have e : (txt l).cps.toList = l.map Int.toNat := rfl
  have h := StrLaws.sliceText_plain (x := txt l) (i := a) (j := b) ⟨h0, h1, by rw [e, List.length_map]; exact h2⟩
  refine (show Txt.slice (txt l) (some a) (some b) = _ from h).trans ?_
  rw [e]
  unfold txt
  rw [List.map_take, List.map_drop]
theorem slice_from_txt (h : 1 ≤ l.length) : Txt.slice (txt l) (some 1) none = txt (l.drop 1) := by
  have e : (txt l).cps.toList = l.map Int.toNat := rfl
  have h := StrLaws.sliceText_from (x := txt l) (i := 1) ⟨by decide, by rw [e, List.length_map]; omega⟩
  refine (show Txt.slice (txt l) (some 1) none = _ from h).trans ?_
  rw [e]
  unfold txt
  rw [List.map_drop]
  congr 1
  rw [List.take_of_length_le (by rw [List.length_drop, List.length_map]; omega)]
  rfl
theorem slice_to_txt (h : 1 ≤ l.length) : Txt.slice (txt l) none (some 1) = txt (l.take 1) := by
  have e : (txt l).cps.toList = l.map Int.toNat := rfl
  have h := StrLaws.sliceText_to (x := txt l) (j := 1) ⟨by decide, by rw [e, List.length_map]; omega⟩
  refine (show Txt.slice (txt l) none (some 1) = _ from h).trans ?_
  rw [e]
  unfold txt
  rw [List.map_take]
  rfl
theorem take_one {k : Nat} (h : k < l.length) : (l.drop k).take 1 = [l.getD k 0] := by
  rw [List.drop_eq_getElem_cons h, List.take_succ_cons, List.take_zero, List.getD_eq_getElem?_getD, List.getElem?_eq_getElem h]
  rfl
theorem txt_one (c : Int) : txt [c] = one c := rfl
theorem slice_end {k : Int} (h0 : 0 ≤ k) (h : k = (l.length : Int)) : Txt.slice (txt l) (some k) (some (k + 1)) = ⟨#[]⟩ := by
  have hl := txt_length l
  have h2 : k = ((txt l).length : Int) := by omega
  unfold Txt.slice
  have e : Builtin.Str.strSliceIndices (some k) (some (k + 1)) 1 (txt l).length = [] := by
    rw [h2]
    have e1 : max (0 : Int) (min ((txt l).length : Int) ((txt l).length : Int)) = ((txt l).length : Int) := by omega
    unfold Builtin.Str.strSliceIndices sliceRange
    simp only [show (1 : Int) > 0 by decide, if_true]
    have h3 : ¬ ((txt l).length : Int) < 0 := by omega
    have h4 : ¬ ((txt l).length : Int) + 1 < 0 := by omega
    simp [h3, h4]
    omega
  rw [e]
  by_cases h3 : ((1 : Int) == 1 && ([] : List Nat).length == (txt l).length) = true
  · rw [if_pos h3]
    have h4 : l = [] := by
      have : (0 : Nat) = (txt l).length := by simpa using h3
      exact List.length_eq_zero_iff.mp (by omega)
    rw [h4]; rfl
  · rw [if_neg h3]; rfl
theorem sgn_txt (hc : ∀ c ∈ l, c ∈ letrs) {k : Int} (h0 : 0 ≤ k) (h1 : k ≤ (l.length : Int)) : headSign (txt l) k = sgn l k := by
  unfold headSign sgn
  by_cases h : k < (l.length : Int)
  · rw [if_pos h, slice_txt h0 (by omega) (by omega)]
    have e : (k + 1 - k).toNat = 1 := by omega
    rw [e, take_one (by omega), txt_one, is_plus _ (get_let hc h0 h), is_minus _ (get_let hc h0 h)]
  · rw [if_neg h, slice_end h0 (by omega)]
    decide
theorem hE_txt (hc : ∀ c ∈ l, c ∈ letrs) : headE (txt l) = hE l := by
  have h1 := headAt_ge (txt l)
  have h2 := headAt_le (txt l)
  have hl := txt_length l
  unfold headE hE
  rw [hAt_txt hc] at *
  rw [sgn_txt hc h1 (by omega)]
theorem hEnd_txt (hc : ∀ c ∈ l, c ∈ letrs) : headEnd (txt l) = hEnd l := by
  have h1 := headE_ge (txt l)
  have h2 := headAt_ge (txt l)
  unfold headEnd hEnd
  rw [hE_txt hc] at *
  rw [hAt_txt hc] at *
  rw [skipF_txt in_fig hc (by omega)]
theorem looks_txt (hc : ∀ c ∈ l, c ∈ letrs) : looksB (txt l) = looksL l := by
  have h1 := headEnd_ge (txt l)
  have h2 := headAt_ge (txt l)
  unfold looksB looksL
  rw [hEnd_txt hc] at *
  rw [hAt_txt hc] at *
  rw [skipF_txt in_sp hc (by omega), txt_length]
theorem codes_back {r : List Int} (h : ∀ c ∈ r, 0 ≤ c) : KStt.codes (txt r) = r := by
  unfold KStt.codes txt
  show (r.map Int.toNat).map (fun (c : Nat) => (c : Int)) = r
  rw [List.map_map]
  conv => rhs; rw [← List.map_id r]
  exact List.map_congr_left fun c hc => Int.toNat_of_nonneg (h c hc)
theorem step_let (a : Int) {c : Int} (hc : c ∈ letrs) : numStep a c = stepL a c := by
  unfold numStep stepL
  have h1 := in_fig c hc
  unfold one at h1
  rw [h1]
  split
  · rename_i hd
    have h2 := find_fig c hc hd
    unfold one at h2
    rw [h2]
  · rfl
theorem fold_let {r : List Int} (hc : ∀ c ∈ r, c ∈ letrs) : ∀ a, r.foldl numStep a = r.foldl stepL a := by
  induction r with
  | nil => intro a; rfl
  | cons c t ih =>
    intro a
    rw [List.foldl_cons, List.foldl_cons, step_let a (hc c List.mem_cons_self)]
    exact ih (fun x hx => hc x (List.mem_cons_of_mem _ hx)) _
theorem ntV_txt (hc : ∀ c ∈ l, c ∈ letrs) : ntV (txt l) = ntVL l := by
  have h1 := headEnd_ge (txt l)
  have h2 := headAt_ge (txt l)
  have h3 := headEnd_le (txt l)
  have hl := txt_length l
  unfold ntV ntVL
  rw [hEnd_txt hc] at *
  rw [hAt_txt hc] at *
  have hs : ∀ c ∈ (l.drop (hAt l).toNat).take (hEnd l - hAt l).toNat, c ∈ letrs := fun c h => hc c (List.mem_of_mem_drop (List.mem_of_mem_take h))
  rw [slice_txt h2 h1 (by omega), codes_back fun c h => let_pos c (hs c h)]
  exact fold_let hs 0
theorem ntS_txt (hc : ∀ c ∈ l, c ∈ letrs) : ntS (txt l) = ntSL l := by
  have h1 := headEnd_ge (txt l)
  have h2 := headAt_ge (txt l)
  have h3 := headEnd_le (txt l)
  have hl := txt_length l
  unfold ntS ntSL
  rw [hEnd_txt hc] at *
  rw [hAt_txt hc] at *
  split
  · rename_i h
    rw [item_txt h2 (by omega), is_minus _ (get_let hc h2 (by omega))]
  · rfl
theorem ntN_txt (hc : ∀ c ∈ l, c ∈ letrs) : ntN (txt l) = ntNL l := by
  unfold ntN ntNL
  rw [ntS_txt hc, ntV_txt hc]
noncomputable def mapT : Int ⊕ List Int → Int ⊕ Str
  | .inl n => .inl n
  | .inr r => .inr (txt r)
theorem txt_cons (a : Int) (r : List Int) : txt (a :: r) = one a ++ txt r := by
  show (⟨((a :: r).map Int.toNat).toArray⟩ : Str) = ⟨#[a.toNat] ++ (r.map Int.toNat).toArray⟩
  rw [List.map_cons]
  congr 1
  simp
theorem minus_txt (r : List Int) : Str.ofString "-" ++ txt r = txt (45 :: r) := by
  rw [txt_cons]
  have e : Str.ofString "-" = one 45 := by decide +kernel
  rw [e]
theorem plus_txt (r : List Int) : Str.ofString "+" ++ txt r = txt (43 :: r) := by
  rw [txt_cons]
  have e : Str.ofString "+" = one 43 := by decide +kernel
  rw [e]
theorem empty_txt : (txt l == Str.ofString "") = l.isEmpty := by
  cases l with
  | nil => decide
  | cons a r =>
    have h : ¬ txt (a :: r) = Str.ofString "" := fun e => by
      have := congrArg Str.length e
      have e0 : (Str.ofString "").length = 0 := by decide
      rw [txt_length, e0] at this
      exact nomatch this
    simp [h]
theorem head_let (hc : ∀ c ∈ l, c ∈ letrs) (h : ¬ l.isEmpty = true) : 1 ≤ l.length ∧ l.getD 0 0 ∈ letrs ∧ Txt.item (txt l) 0 = one (l.getD 0 0) := by
  have hl : 1 ≤ l.length := by
    cases l with
    | nil => exact absurd rfl h
    | cons a r => simp
  exact ⟨hl, get_let hc (Int.le_refl 0) (by omega), item_txt (Int.le_refl 0) (by omega)⟩
theorem neg_txt (hc : ∀ c ∈ l, c ∈ letrs) : negV (txt l) = mapT (negL l) := by
  unfold negV negL negNum
  rw [empty_txt]
  by_cases h : l.isEmpty = true
  · rw [if_pos h, if_pos h, ntN_txt hc]; rfl
  rw [if_neg h, if_neg h]
  obtain ⟨hl, hm, hi⟩ := head_let hc h
  unfold firstIn
  rw [hi, in_abc _ hm, is_plus _ hm, is_minus _ hm, looks_txt hc, slice_from_txt hl, ntN_txt hc, minus_txt, minus_txt, plus_txt]
  split
  · rfl
  split
  · rfl
  split
  · rfl
  rfl
theorem sp_code : ∀ c ∈ letrs, (Str.ofString " ").cps.contains c.toNat = sp c := by decide +kernel
theorem takeW {p : Nat → Bool} {q : Int → Bool} : ∀ {r : List Int}, (∀ c ∈ r, p c.toNat = q c) → ((r.map Int.toNat).takeWhile p).length = (r.takeWhile q).length
  | [], _ => rfl
  | c :: t, h => by
    rw [List.map_cons, List.takeWhile_cons, List.takeWhile_cons, h c List.mem_cons_self]
    split
    · rw [List.length_cons, List.length_cons, takeW fun x hx => h x (List.mem_cons_of_mem _ hx)]
    · rfl
theorem drop_take (q : Int → Bool) : ∀ r : List Int, r.drop (r.takeWhile q).length = r.dropWhile q
  | [] => rfl
  | c :: t => by
    rw [List.takeWhile_cons, List.dropWhile_cons]
    split
    · rw [List.length_cons, List.drop_succ_cons]; exact drop_take q t
    · rfl
theorem sub_txt {i j : Nat} : Builtin.Str.strSub (txt l) i j = txt ((l.take j).drop i) := by
  unfold Builtin.Str.strSub txt
  show (⟨((l.map Int.toNat).toArray).extract i j⟩ : Str) = _
  congr 1
  apply Array.toList_inj.mp
  rw [Array.toList_extract]
  simp [List.map_drop, List.map_take, List.extract]
  rw [List.drop_take]
theorem lstrip_txt (hc : ∀ c ∈ l, c ∈ letrs) : headT (txt l) = txt (headL l) := by
  have e : (txt l).cps.toList = l.map Int.toNat := rfl
  have hlo : stripLo (Str.ofString " ").cps.contains true (txt l) = (l.takeWhile sp).length := by
    unfold stripLo
    rw [if_pos rfl, e]
    exact takeW fun c h => sp_code c (hc c h)
  unfold headT Txt.lstripChars Txt.stripBy headL
  split
  · rename_i h
    unfold stripSame at h
    rw [hlo, Bool.and_eq_true] at h
    have h0 : (l.takeWhile sp).length = 0 := beq_iff_eq.mp h.1
    rw [← drop_take sp l, h0, List.drop_zero]
  · unfold PySem.stripped
    rw [hlo]
    have hhi : stripHi (Str.ofString " ").cps.contains false (txt l) (l.takeWhile sp).length = l.length := by
      unfold stripHi
      rw [if_neg (by decide), txt_length]
    rw [hhi, sub_txt, List.take_length, drop_take]
theorem rstrip_txt {r : List Int} (hc : ∀ c ∈ r, c ∈ letrs) : Txt.rstripChars (txt r) (Str.ofString " ") = txt ((r.reverse.dropWhile sp).reverse) := by
  have e : (txt r).cps.toList = r.map Int.toNat := rfl
  have hlo : stripLo (Str.ofString " ").cps.contains false (txt r) = 0 := by unfold stripLo; rw [if_neg (by decide)]
  have hhi : stripHi (Str.ofString " ").cps.contains true (txt r) 0 = r.length - (r.reverse.takeWhile sp).length := by
    unfold stripHi
    rw [if_pos rfl, e, txt_length, List.drop_zero, ← List.map_reverse]
    congr 1
    exact takeW fun c h => sp_code c (hc c (List.mem_reverse.mp h))
  have key : r.take (r.length - (r.reverse.takeWhile sp).length) = (r.reverse.dropWhile sp).reverse := by
    rw [← drop_take sp r.reverse, List.reverse_drop, List.reverse_reverse, List.length_reverse]
  unfold Txt.rstripChars Txt.stripBy
  split
  · rename_i h
    unfold stripSame at h
    rw [hlo, hhi, Bool.and_eq_true, txt_length] at h
    have h0 : r.length - (r.reverse.takeWhile sp).length = r.length := beq_iff_eq.mp h.2
    rw [← key, h0, List.take_length]
  · unfold PySem.stripped
    rw [hlo, hhi, sub_txt, List.drop_zero, key]
theorem any_two {S : Str} {a b : Str} : ([a, b].any fun z => z == S) = (S == a || S == b) := by
  simp only [List.any_cons, List.any_nil, Bool.or_false]
  congr 1 <;> exact Bool.eq_iff_iff.mpr ⟨fun h => beq_iff_eq.mpr (beq_iff_eq.mp h).symm, fun h => beq_iff_eq.mpr (beq_iff_eq.mp h).symm⟩
theorem first_txt (hc : ∀ c ∈ l, c ∈ letrs) : (Txt.slice (txt l) none (some 1) == Str.ofString "+") = (l.getD 0 0 == 43) ∧ (Txt.slice (txt l) none (some 1) == Str.ofString "-") = (l.getD 0 0 == 45) := by
  by_cases h : l.isEmpty = true
  · have e : l = [] := List.isEmpty_iff.mp h
    subst e
    exact ⟨by decide +kernel, by decide +kernel⟩
  · obtain ⟨hl, hm, _⟩ := head_let hc h
    have e : l.take 1 = [l.getD 0 0] := by
      have := take_one (l := l) (k := 0) (by omega)
      rwa [List.drop_zero] at this
    rw [slice_to_txt hl, e, txt_one]
    exact ⟨is_plus _ hm, is_minus _ hm⟩
theorem tail_txt (hc : ∀ c ∈ l, c ∈ letrs) : tailT (txt l) = txt (tailL l) := by
  unfold tailT tailL
  rw [any_two, (first_txt hc).1, (first_txt hc).2]
  split
  · rename_i h
    have hl : 1 ≤ l.length := by
      cases l with
      | nil => exact absurd h (by decide)
      | cons a r => simp
    exact slice_from_txt hl
  · rfl
theorem turn_txt (hc : ∀ c ∈ l, c ∈ letrs) : turnV (txt l) = turnL l := by
  unfold turnV turnL
  rw [(first_txt hc).2]
theorem ok_let {c : Int} (hc : c ∈ letrs) : okC c = dg c := in_50 c hc
theorem takeW_let {r : List Int} (hc : ∀ c ∈ r, c ∈ letrs) : r.takeWhile okC = r.takeWhile dg := by
  induction r with
  | nil => rfl
  | cons a t ih =>
    rw [List.takeWhile_cons, List.takeWhile_cons, ok_let (hc a List.mem_cons_self), ih fun x hx => hc x (List.mem_cons_of_mem _ hx)]
theorem foldG {r : List Int} (hc : ∀ c ∈ r, c ∈ letrs) : ∀ a, r.foldl gStep a = r.foldl stepG a := by
  induction r with
  | nil => intro a; rfl
  | cons c t ih =>
    intro a
    have e : gStep a c = stepG a c := by
      unfold gStep stepG
      have h := is_five c (hc c List.mem_cons_self)
      unfold one at h
      by_cases h5 : c = 53
      · rw [if_pos h5, if_pos (h.mpr h5)]
      · rw [if_neg h5, if_neg fun x => h5 (h.mp x)]
    rw [List.foldl_cons, List.foldl_cons, e]
    exact ih (fun x hx => hc x (List.mem_cons_of_mem _ hx)) _
theorem drop_let {r : List Int} (hc : ∀ c ∈ r, c ∈ letrs) : ∀ c ∈ headL r, c ∈ letrs := fun c h => hc c ((List.dropWhile_sublist sp).subset h)
theorem tail_let {r : List Int} (hc : ∀ c ∈ r, c ∈ letrs) : ∀ c ∈ tailL r, c ∈ letrs := fun c h => by
  unfold tailL at h
  split at h
  · exact hc c (List.mem_of_mem_drop h)
  · exact hc c h
theorem minN_txt (hc : ∀ c ∈ l, c ∈ letrs) : minN (txt l) = minNL l := by
  unfold minN minNL
  have h1 := drop_let hc
  have h2 := tail_let h1
  rw [lstrip_txt hc, turn_txt h1, tail_txt h1, codes_back fun c h => let_pos c (h2 c h), takeW_let h2]
  unfold numG
  rw [foldG fun c h => h2 c ((List.takeWhile_sublist dg).subset h)]
theorem filt_txt {r : List Int} (hc : ∀ c ∈ r, c ∈ letrs) : (((txt r).cps.toList).filter fun n => !hasIn (Str.ofString "50") ⟨#[n]⟩).isEmpty = (r.filter fun c => !dg c).isEmpty := by
  show ((r.map Int.toNat).filter _).isEmpty = _
  induction r with
  | nil => rfl
  | cons a t ih =>
    have h := in_50 a (hc a List.mem_cons_self)
    unfold one at h
    rw [List.map_cons, List.filter_cons, List.filter_cons, h]
    split
    · rfl
    · exact ih fun x hx => hc x (List.mem_cons_of_mem _ hx)
theorem figBad_txt (hc : ∀ c ∈ l, c ∈ letrs) (hl : 1 ≤ l.length) : figBad (txt l) = figBadL l := by
  have h1 : ∀ c ∈ l.drop 1, c ∈ letrs := fun c h => hc c (List.mem_of_mem_drop h)
  have h2 : ∀ c ∈ figL l, c ∈ letrs := fun c h => by
    unfold figL at h
    exact h1 c (List.mem_reverse.mp ((List.dropWhile_sublist sp).subset (List.mem_reverse.mp h)))
  have e : figT (txt l) = txt (figL l) := by
    unfold figT figL
    rw [slice_from_txt hl, rstrip_txt h1]
  unfold figBad figBadL
  rw [e, filt_txt h2, empty_txt]
theorem min_txt (hc : ∀ c ∈ l, c ∈ letrs) : minV (txt l) = mapT (minL l) := by
  unfold minV minL
  rw [empty_txt]
  by_cases h : l.isEmpty = true
  · rw [if_pos h, if_pos h, minN_txt hc]; rfl
  rw [if_neg h, if_neg h]
  obtain ⟨hl, hm, hi⟩ := head_let hc h
  rw [hi, in_bZ _ hm, is_plus _ hm, is_minus _ hm, figBad_txt hc hl, slice_from_txt hl, minN_txt hc, minus_txt, minus_txt, plus_txt]
  split
  · rfl
  split
  · rfl
  split
  · rfl
  rfl
theorem neg_min (hc : ∀ c ∈ l, c ∈ letrs) (h4 : l.length ≤ 4) : minV (txt l) = negV (txt l) := by
  rw [neg_txt hc, min_txt hc, neg_min_L l h4 hc]
end
end Mine
-- part MinRow
namespace Mine
set_option maxRecDepth 100000
set_option maxHeartbeats 8000000
section
variable {w : World} {mean : ExcName → Option Value} {mg mb : Str → Option Value} {dp un : Nat} {gd : Option (List Code)} {cn : Str} {cs : Scope} {a : Addr} {ccd : Value} {cl : List (Str × Addr)} {outer : List Env} {A₀ : Around} {base h₀ : Heap} {L : Addr} {m : Str → Option Value} {s : Shared} {E : Value → Shared → Prop} {Q : Value → Shared → Prop} {nw : List (Addr × Obj)}
theorem code_small {l : List Int} (hc : ∀ c ∈ l, c ∈ letrs) : ∀ n ∈ (txt l).cps.toList, n < 1114112 := fun n hn => by
  have hn : n ∈ l.map Int.toNat := hn
  obtain ⟨c, h, rfl⟩ := List.mem_map.mp hn
  have key : ∀ c ∈ letrs, c.toNat < 1114112 := by decide
  exact key c (hc c h)
theorem min_int (B : Below A₀ base outer h₀) (F : Fr h₀ L s.heap m) (X : (hd.heap_1 w.params).In h₀) (T : TOP mean mg mb h₀) (hk : cs.kind = .function) (hdp : dp + 40 < recursionLimit) (hun : un + 400 < cLine) (N : News h₀ L s.heap nw)
    {l : List Int} {t0 : Tok} (hc : ∀ c ∈ l, c ∈ letrs) (h4 : l.length ≤ 4) {n : Int} (hn : negV (txt l) = .inl n) (h : ∀ t h' tk, Fr h₀ L h' m → News h₀ L h' nw → Q (.int n t) { s with heap := h', toks := tk }) :
    wpAny (model PR w) (ktrTop dp un gd cn cs L a ccd cl outer) (call (.ref 401) [.str (txt l) t0]) Q E s :=
  wpAny_mono (c_min B F X T hk hdp hun (txt l) t0 (show Fine ((txt l).length ≤ 4) by unfold Fine; rw [txt_length]; exact h4) (show Fine (∀ n ∈ (txt l).cps.toList, n < 1114112) from code_small hc)) (fun v s' hv => by
    obtain ⟨⟨h2, tk2, rfl, hk2⟩, hval⟩ := hv
    rw [neg_min hc h4, hn] at hval
    obtain ⟨t, rfl⟩ := hval
    exact h t h2 tk2 (F.keeps fun b o => hk2 b o (fun hb => nomatch hb)) (N.grown fun b o => hk2 b o (fun hb => nomatch hb))) fun _ _ e => e
theorem min_str (B : Below A₀ base outer h₀) (F : Fr h₀ L s.heap m) (X : (hd.heap_1 w.params).In h₀) (T : TOP mean mg mb h₀) (hk : cs.kind = .function) (hdp : dp + 40 < recursionLimit) (hun : un + 400 < cLine) (N : News h₀ L s.heap nw)
    {l : List Int} {t0 : Tok} (hc : ∀ c ∈ l, c ∈ letrs) (h4 : l.length ≤ 4) {y : Str} (hn : negV (txt l) = .inr y) (h : ∀ t h' tk, Fr h₀ L h' m → News h₀ L h' nw → Q (.str y t) { s with heap := h', toks := tk }) :
    wpAny (model PR w) (ktrTop dp un gd cn cs L a ccd cl outer) (call (.ref 401) [.str (txt l) t0]) Q E s :=
  wpAny_mono (c_min B F X T hk hdp hun (txt l) t0 (show Fine ((txt l).length ≤ 4) by unfold Fine; rw [txt_length]; exact h4) (show Fine (∀ n ∈ (txt l).cps.toList, n < 1114112) from code_small hc)) (fun v s' hv => by
    obtain ⟨⟨h2, tk2, rfl, hk2⟩, hval⟩ := hv
    rw [neg_min hc h4, hn] at hval
    obtain ⟨t, rfl⟩ := hval
    exact h t h2 tk2 (F.keeps fun b o => hk2 b o (fun hb => nomatch hb)) (N.grown fun b o => hk2 b o (fun hb => nomatch hb))) fun _ _ e => e
end
end Mine
-- part Plain
namespace Mine
set_option maxRecDepth 100000
set_option maxHeartbeats 8000000
theorem pair_and : ∀ a ∈ codes, ∀ b ∈ codes, lawBits (Str.ofString "&") a b = bitV (Str.ofString "&") a b ∧ 0 ≤ bitV (Str.ofString "&") a b ∧ bitV (Str.ofString "&") a b = bitV (Str.ofString "&") b a := by decide +kernel
theorem pair_or : ∀ a ∈ codes, ∀ b ∈ codes, lawBits (Str.ofString "|") a b = bitV (Str.ofString "|") a b ∧ 0 ≤ bitV (Str.ofString "|") a b ∧ bitV (Str.ofString "|") a b = bitV (Str.ofString "|") b a := by decide +kernel
theorem pair_xor : ∀ a ∈ codes, ∀ b ∈ codes, lawBits (Str.ofString "^") a b = bitV (Str.ofString "^") a b ∧ 0 ≤ bitV (Str.ofString "^") a b ∧ bitV (Str.ofString "^") a b = bitV (Str.ofString "^") b a := by decide +kernel
noncomputable def IsOp (op : Str) : Prop := op = Str.ofString "&" ∨ op = Str.ofString "|" ∨ op = Str.ofString "^"
theorem pair_all {op : Str} (h : IsOp op) {a b : Int} (ha : a ∈ codes) (hb : b ∈ codes) : lawBits op a b = bitV op a b ∧ 0 ≤ bitV op a b ∧ bitV op a b = bitV op b a := by
  rcases h with rfl | rfl | rfl
  · exact pair_and a ha b hb
  · exact pair_or a ha b hb
  · exact pair_xor a ha b hb
theorem getD_codes {l : List Int} (h : ∀ c ∈ l, c ∈ codes) (i : Nat) : l.getD i 0 ∈ codes := by
  by_cases hi : i < l.length
  · rw [List.getD_eq_getElem?_getD, List.getElem?_eq_getElem hi]
    exact h _ (List.getElem_mem hi)
  · rw [getD_out hi]; decide
section
variable {op : Str} {l r : List Int} (h : IsOp op) (hl : ∀ c ∈ l, c ∈ codes) (hr : ∀ c ∈ r, c ∈ codes)
include h hl hr
theorem law_due (n : Nat) : lawN op l r n = dueN op l r n := by
  unfold lawN dueN
  exact List.map_congr_left fun i _ => (pair_all h (getD_codes hl i) (getD_codes hr i)).1
theorem due_pos (i : Nat) : 0 ≤ dueAt op l r i := (pair_all h (getD_codes hl i) (getD_codes hr i)).2.1
theorem due_swap (n : Nat) : dueN op r l n = dueN op l r n := by
  unfold dueN
  exact List.map_congr_left fun i _ => (pair_all h (getD_codes hl i) (getD_codes hr i)).2.2.symm
theorem dueAt_swap (i : Nat) : dueAt op r l i = dueAt op l r i := (pair_all h (getD_codes hl i) (getD_codes hr i)).2.2.symm
theorem filt_nil (n : Nat) (hle : ∀ j, j < n → dueAt op l r j ≤ 1114111) : (lawN op l r n).filter (fun x => decide (1114111 < x)) = [] := by
  rw [law_due h hl hr]
  refine List.filter_eq_nil_iff.mpr fun x hx => ?_
  unfold dueN at hx
  obtain ⟨j, hj, rfl⟩ := List.mem_map.mp hx
  have := hle j (List.mem_range.mp hj)
  simp only [decide_eq_true_eq]
  omega
theorem filt_some {n i : Nat} (hi : i < n) (hb : 1114111 < dueAt op l r i) : ¬ (lawN op l r n).filter (fun x => decide (1114111 < x)) = [] := by
  rw [law_due h hl hr]
  intro e
  have hm : dueAt op l r i ∈ (dueN op l r n).filter (fun x => decide (1114111 < x)) := List.mem_filter.mpr ⟨List.mem_map.mpr ⟨i, List.mem_range.mpr hi, rfl⟩, decide_eq_true hb⟩
  rw [e] at hm
  exact nomatch hm
theorem dueN_pos (n : Nat) : ∀ c ∈ dueN op l r n, 0 ≤ c := fun c hc => by
  unfold dueN at hc
  obtain ⟨j, _, rfl⟩ := List.mem_map.mp hc
  exact due_pos h hl hr j
end
theorem many_swap (op : Str) (l r : List Int) : many op r l = many op l r := by unfold many; split <;> omega
theorem many_le4 {op : Str} {l r : List Int} (h1 : l.length ≤ 4) (h2 : r.length ≤ 4) : many op l r ≤ 4 := by unfold many; split <;> omega
theorem codes_nonneg {l : List Int} (h : ∀ c ∈ l, c ∈ codes) : ∀ c ∈ l, 0 ≤ c := fun c hc => by
  have key : ∀ c ∈ codes, 0 ≤ c := by decide
  exact key c (h c hc)
theorem map_back {l : List Int} (h : ∀ c ∈ l, 0 ≤ c) : (l.map Int.toNat).map (fun (c : Nat) => (c : Int)) = l := by
  rw [List.map_map]
  conv => rhs; rw [← List.map_id l]
  exact List.map_congr_left fun c hc => Int.toNat_of_nonneg (h c hc)
theorem codes_txt {l : List Int} (h : ∀ c ∈ l, 0 ≤ c) : KStt.codes (txt l) = l := by
  unfold KStt.codes txt
  exact map_back h
end Mine
-- part Draw
namespace Mine
set_option maxRecDepth 100000
set_option maxHeartbeats 8000000
example : PySem.Challenge.rw_qz0090_01 = PySem.Challenge.rw_qz0090_01 ∧ hd.heap_1 = hd.heap_1 := by
  k_fill
  exact ⟨rfl, rfl⟩
section
variable {prog : Program} {w : World} {A : Around} {E : Value → Shared → Prop} {s : Shared} {h₀ : Heap} {L : Addr} {m : Str → Option Value} {env : Env}
/-- a comprehension over a range whose length the iterable's value tells -/
noncomputable def DrawGo {α : Type} (prog : Program) (w : World) (A : Around) (h₀ : Heap) (L : Addr) (m : Str → Option Value) (env : Env) (elt : Expr) (x : Str) (scope : Scope) (cl : List (Str × Addr)) (Inv : Nat → List Value → List (Addr × Obj) → Prop) (mf : Addr → Str → Option Value) (vf : Addr → α) (Q : α → Shared → Prop) (xv : Value) (s₁ : Shared) : Prop :=
  ∃ (n : Nat) (r : Addr) (b : Int) (t u v : Tok) (news : List (Addr × Obj)), xv = .ref r ∧ Fr h₀ L s₁.heap m ∧ News h₀ L s₁.heap news ∧ IsRange s₁.heap r 0 b 1 t u v ∧ Builtin.Range.small 0 b 1 = true ∧ Builtin.Range.rangeSize 0 b 1 = (n : Int) ∧ n ≤ sizeLine ∧ Inv 0 [] news ∧
      (∀ i ys news v I oI C oC D m₂ h tk (E' : Value → Shared → Prop), i < n → Inv i ys news → (∃ t, v = .int (i : Int) t) → LCg.NsObj oC m₂ → m₂ x = some v → Fr h₀ L h m → News h₀ L h ((I, oI) :: (C, oC) :: (D, LCg.lst ys) :: news) → LCg.Off3 I C D news → ((@Ne Nat I C) ∧ (@Ne Nat I D) ∧ (@Ne Nat C D)) →
        wpAny (model prog w) A (eval elt (compEnvC scope cl C env)) (EltEnd h₀ L m { s₁ with heap := h, toks := tk } I oI C oC D (LCg.lst ys) (fun y news' => Inv (i + 1) (ys ++ [y]) news')) E' { s₁ with heap := h, toks := tk }) ∧
      (∀ ys news D h tk, Inv n ys news → Fr h₀ L h (mf D) → News h₀ L h ((D, LCg.lst ys) :: news) → LCg.Off1 D news → Q (vf D) { s₁ with heap := h, toks := tk })
theorem DrawGo.intro {α : Type} {elt : Expr} {x : Str} {scope : Scope} {cl : List (Str × Addr)} {Inv : Nat → List Value → List (Addr × Obj) → Prop} {mf : Addr → Str → Option Value} {vf : Addr → α} {Q : α → Shared → Prop} {s₁ : Shared} {r : Addr} {b : Int} {t u v : Tok} {news : List (Addr × Obj)}
    (F : Fr h₀ L s₁.heap m) (N : News h₀ L s₁.heap news) (hr : IsRange s₁.heap r 0 b 1 t u v) (hb0 : 0 ≤ b) (hb : b ≤ 1000) (hI : Inv 0 [] news)
    (step : ∀ i ys news t I oI C oC D m₂ h tk (E' : Value → Shared → Prop), i < b.toNat → Inv i ys news → LCg.NsObj oC m₂ → m₂ x = some (.int (i : Int) t) → Fr h₀ L h m → News h₀ L h ((I, oI) :: (C, oC) :: (D, LCg.lst ys) :: news) → LCg.Off3 I C D news → ((@Ne Nat I C) ∧ (@Ne Nat I D) ∧ (@Ne Nat C D)) →
        wpAny (model prog w) A (eval elt (compEnvC scope cl C env)) (EltEnd h₀ L m { s₁ with heap := h, toks := tk } I oI C oC D (LCg.lst ys) (fun y news' => Inv (i + 1) (ys ++ [y]) news')) E' { s₁ with heap := h, toks := tk })
    (fin : ∀ ys news D h tk, Inv b.toNat ys news → Fr h₀ L h (mf D) → News h₀ L h ((D, LCg.lst ys) :: news) → LCg.Off1 D news → Q (vf D) { s₁ with heap := h, toks := tk }) :
    DrawGo prog w A h₀ L m env elt x scope cl Inv mf vf Q (.ref r) s₁ :=
  ⟨b.toNat, r, b, t, u, v, news, rfl, F, N, hr, small_one (by omega) (by omega) (by omega) (by omega), by rw [rangeSize_nat]; omega, by rw [sizeLine_eq]; omega, hI, fun i ys news v I oI C oC D m₂ h tk E' hi hI hP hoC hx F N off ne => by
    obtain ⟨t, rfl⟩ := hP
    exact step i ys news t I oI C oC D m₂ h tk E' hi hI hoC hx F N off ne, fin⟩
theorem ListComp_draw {elt : Expr} {x : Str} {px : Pos} {iter : Expr} {scope : Scope} {cl : List (Str × Addr)} {pos : Pos} {Q : Value → Shared → Prop} (Inv : Nat → List Value → List (Addr × Obj) → Prop) (F₀ : Fr h₀ L s.heap m)
    (hclos : closureFor scope env = pure cl) (hcell : ∀ y ∈ scope.names, y.2 ≠ .cell) (hkind : scope.kind = .function)
    (hnames : ∀ y ∈ scope.names, y.2 = .local → scope.names.lookup y.1 = some .local) (hx : scope.names.lookup x = some .local) (hh : A.handled = none)
    (hs : ∀ x, foldedSetIterable iter env x = pure x)
    (h : wpAny (model prog w) A (eval iter env) (DrawGo prog w A h₀ L m env elt x scope cl Inv (fun _ => m) (fun D => .ref D) Q) E s) :
    wpAny (model prog w) A (eval (.ListComp elt [⟨.Name x px, iter, [], 0⟩] scope pos) env) Q E s := by
  refine LCg.ListComp_U F₀ hclos hcell hkind hnames hx (wpAny_mono h (fun xv s₁ ⟨n, r, b, t, u, v, news, hxv, F, N, hr, hsm, hn, hsz, hI, step, fin⟩ => ?_) fun _ _ e => e) hs
  subst hxv
  refine LCg.CompSrc.range hh F N hr hsm hn hsz fun g => compRest_inv n Inv (fun _ _ _ _ => trivial) (fun i ys news v I oI C oC D m₂ h tk E' hi hI hP => ?_) (fun ys news hI => ?_) n 0 [] news (by omega) hI
  · exact step i ys news v I oI C oC D m₂ h tk E' hi hI (by obtain ⟨t, rfl⟩ := hP; exact ⟨t, by rw [Int.zero_add]⟩)
  · exact fun D h tk F N off => fin ys news D h tk hI F N off
theorem Assign_ListComp_draw {elt : Expr} {x y : Str} {px py : Pos} {iter : Expr} {scope : Scope} {cl : List (Str × Addr)} {pos spos : Pos} {Q : Flow → Shared → Prop} (Inv : Nat → List Value → List (Addr × Obj) → Prop) (F₀ : Fr h₀ L s.heap m) (hLe : env.locals = L)
    (hsw : swapsWith (.ListComp elt [⟨.Name x px, iter, [], 0⟩] scope pos) (some (.Name y py)) spos.line env = pure true)
    (hclos : closureFor scope env = pure cl) (hcell : ∀ y ∈ scope.names, y.2 ≠ .cell) (hkind : scope.kind = .function)
    (hnames : ∀ y ∈ scope.names, y.2 = .local → scope.names.lookup y.1 = some .local) (hx : scope.names.lookup x = some .local) (hh : A.handled = none)
    (hy : env.kindOf y = some .local) (hp : (env.scope.kind == .class || (env.scope.kind == .module && env.locals != env.globals)) = false)
    (hs : ∀ x, foldedSetIterable iter env x = pure x)
    (h : wpAny (model prog w) A (eval iter env) (DrawGo prog w A h₀ L m env elt x scope cl Inv (fun D z => if z = y then some (.ref D) else m z) (fun _ => Flow.next) Q) E s) :
    wpAny (model prog w) A (exec (.Assign [.Name y py] (.ListComp elt [⟨.Name x px, iter, [], 0⟩] scope pos) spos) env) Q E s := by
  refine LCg.Assign_ListComp_U F₀ hLe hsw hclos hcell hkind hnames hx hy hp (wpAny_mono h (fun xv s₁ ⟨n, r, b, t, u, v, news, hxv, F, N, hr, hsm, hn, hsz, hI, step, fin⟩ => ?_) fun _ _ e => e) hs
  subst hxv
  refine LCg.CompSrc.range hh F N hr hsm hn hsz fun g => compRest_inv n Inv (fun _ _ _ _ => trivial) (fun i ys news v I oI C oC D m₂ h tk E' hi hI hP => ?_) (fun ys news hI => ?_) n 0 [] news (by omega) hI
  · exact step i ys news v I oI C oC D m₂ h tk E' hi hI (by obtain ⟨t, rfl⟩ := hP; exact ⟨t, by rw [Int.zero_add]⟩)
  · exact fun D h tk F N off => fin ys news D h tk hI F N off
end
section
theorem fr_goes {h₀ h h' : Heap} {L d : Addr} {m : Str → Option Value} {o : Obj} {pre post : List (Addr × Obj)} (F : Fr h₀ L h m) (N : News h₀ L h (pre ++ (d, o) :: post)) (k : ∀ b ob, b ∉ [d] → h.get? b = some ob → h'.get? b = some ob) : Fr h₀ L h' m := by
  have z := N (d, o) (List.mem_append_right _ (List.Mem.head _))
  refine ⟨F.ns.at' fun o eo => k L o (fun q => z.2.1 (List.mem_singleton.mp q).symm) eo, fun b o eb => k b o (fun q => ?_) (F.keep b o eb), F.above⟩
  rw [List.mem_singleton.mp q] at eb
  exact nomatch (z.2.2.symm.trans eb)
theorem news_goes {h₀ h h' : Heap} {L d : Addr} {o o' : Obj} {pre post : List (Addr × Obj)} (N : News h₀ L h (pre ++ (d, o) :: post)) (k : ∀ b ob, b ∉ [d] → h.get? b = some ob → h'.get? b = some ob) (hs : h'.get? d = some o') (hp : ∀ p ∈ pre, p.1 ≠ d) (hq : ∀ p ∈ post, p.1 ≠ d) : News h₀ L h' (pre ++ (d, o') :: post) := by
  intro p hm
  rcases List.mem_append.mp hm with hm | hm
  · have z := N p (List.mem_append_left _ hm)
    exact ⟨k _ _ (fun q => hp p hm (List.mem_singleton.mp q)) z.1, z.2⟩
  · rcases List.mem_cons.mp hm with rfl | hm
    · have z := N (d, o) (List.mem_append_right _ (List.Mem.head _))
      exact ⟨hs, z.2⟩
    · have z := N p (List.mem_append_right _ (List.Mem.tail _ hm))
      exact ⟨k _ _ (fun q => hq p hm (List.mem_singleton.mp q)) z.1, z.2⟩
variable {w : World} {mean : ExcName → Option Value} {mg mb : Str → Option Value} {dp un : Nat} {gd : Option (List Code)} {cn : Str} {cs : Scope} {a : Addr} {ccd : Value} {cl : List (Str × Addr)} {outer : List Env} {A₀ : Around} {base h₀ : Heap} {L : Addr} {m : Str → Option Value} {s : Shared} {E : Value → Shared → Prop}
theorem tin_start {o : Obj} {D : Addr} {k : Int} {t1 t2 t3 : Tok} (h : o.IsDictOf (PySem.strKind PR w) (strPairs [(Value.str (Str.ofString "cells") t1, Value.ref D), (Value.str (Str.ofString "at") t2, Value.int k t3)])) : TinIs w D k o := ⟨t3, h⟩
theorem nip_row (many : Int) (hm : many = 5 ∨ many = 8 ∨ many = 10)
    (B : Below A₀ base outer h₀) (F : Fr h₀ L s.heap m) (X : (hd.heap_1 w.params).In h₀) (T : TOP mean mg mb h₀) (hk : cs.kind = .function) (hdp : dp + 20 < recursionLimit) (hun : un + 200 < cLine)
    {d D : Addr} {o : Obj} {k : Int} {t0 : Tok} {ws : List Value} {cells : List Int} {nw : List (Addr × Obj)} {g : Obj → List (Addr × Obj)} {c : Nat} {Q : Value → Shared → Prop}
    (N : News h₀ L s.heap nw) (U : UpdF d o nw g) (hd0 : TinIs w D k o) (hk0 : 0 ≤ k) (hk1 : k ≤ 1000) (hDm : (D, W.listOf ws.toArray c) ∈ nw) (hli : IntsAre ws cells) (hlen : cells.length ≤ 1000) (hne : D ≠ d)
    (h : ∀ r t o' h' tk, 0 ≤ r → r < many → TinIs w D (k + 1) o' → Fr h₀ L h' m → News h₀ L h' (g o') → Q (.int r t) { s with heap := h', toks := tk }) :
    wpAny (model PR w) (ktrTop dp un gd cn cs L a ccd cl outer) (call (.ref 384) [.ref d, .int many t0]) Q E s := by
  obtain ⟨pre, post, e1, e2, hp, hq⟩ := U.split
  have N₁ : News h₀ L s.heap [(d, o)] := fun p hp => by
    rw [List.mem_singleton.mp hp]
    exact N _ (e1 ▸ List.mem_append_right _ (List.Mem.head _))
  have hl : s.heap.IsList D ws.toArray := News.isList N hDm
  have key : wpAny (model PR w) (ktrTop dp un gd cn cs L a ccd cl outer) (call (.ref 384) [.ref d, .int many t0]) (NipOut w d D k many s) E s := by
    rcases hm with rfl | rfl | rfl
    · exact c_nip5 B F X T hk hdp hun d D o k t0 ws cells N₁ hd0 hk0 hk1 hl hli hlen hne
    · exact c_nip8 B F X T hk hdp hun d D o k t0 ws cells N₁ hd0 hk0 hk1 hl hli hlen hne
    · exact c_nip10 B F X T hk hdp hun d D o k t0 ws cells N₁ hd0 hk0 hk1 hl hli hlen hne
  refine wpAny_mono key (fun v s' hv => ?_) fun _ _ e => e
  obtain ⟨⟨h', tk, rfl, hk'⟩, ⟨r, t, rfl, hr0, hr1⟩, o', ho', ht'⟩ := hv
  subst e1
  exact h r t o' h' tk hr0 hr1 ht' (fr_goes F N hk') (by rw [e2]; exact news_goes N hk' ho' hp hq)
end
theorem item_codes {w : World} {A : Around} {E : Value → Shared → Prop} {s : Shared} {h₀ : Heap} {L : Addr} {m : Str → Option Value} {value slice : Expr} {k : Int} {u : Tok} {Q : Value → Shared → Prop} (F : Fr h₀ L s.heap m) (X : (hd.heap_1 w.params).In h₀) (h0 : 0 ≤ k) (h1 : k < 10)
    (h : ∀ c t, c ∈ codes → Q (.int c t) s)
    (hs : subscripted slice false (.ref 377) (.int k u) = operate [.ref 377, .int k u] (getItem (.ref 377) (.int k u)) := by with_unfolding_all rfl) :
    wpAny (model PR w) A (subscriptTail value slice (.ref 377) (.int k u)) Q E s := by
  have e : k = 0 ∨ k = 1 ∨ k = 2 ∨ k = 3 ∨ k = 4 ∨ k = 5 ∨ k = 6 ∨ k = 7 ∨ k = 8 ∨ k = 9 := by omega
  rcases e with rfl | rfl | rfl | rfl | rfl | rfl | rfl | rfl | rfl | rfl <;>
    (refine' topList_K F X ?hl (by decide) (by decide) ?hx ?hh hs; (case hl => k_is); (case hx => exact rfl); (case hh => refine h _ _ ?_; decide))
/-- what has been drawn: the dict's count goes up, the list holds what P bears -/
noncomputable def DrawJ (w : World) (D : Addr) (kb : Int) (P : List Value → Nat → Prop) (g : Obj → List (Addr × Obj)) (i : Nat) (ys : List Value) (nx : List (Addr × Obj)) : Prop :=
  ∃ o k, nx = g o ∧ TinIs w D k o ∧ 0 ≤ k ∧ k ≤ kb + i ∧ P ys i
theorem DrawJ.intro {w : World} {D : Addr} {kb k : Int} {P : List Value → Nat → Prop} {g : Obj → List (Addr × Obj)} {i : Nat} {ys : List Value} {nx : List (Addr × Obj)} {o : Obj} (e : nx = g o) (h : TinIs w D k o) (h0 : 0 ≤ k) (h1 : k ≤ kb + i) (hP : P ys i) : DrawJ w D kb P g i ys nx := ⟨o, k, e, h, h0, h1, hP⟩
noncomputable def CodesAre (ys : List Value) (i : Nat) : Prop := ∃ l, IntsAre ys l ∧ l.length = i ∧ ∀ c ∈ l, c ∈ codes
theorem codes_nil : CodesAre [] 0 := ⟨[], IntsAre.nil, rfl, fun _ h => nomatch h⟩
theorem codes_snoc {ys : List Value} {i : Nat} {c : Int} {t : Tok} (h : CodesAre ys i) (hc : c ∈ codes) : CodesAre (ys ++ [.int c t]) (i + 1) := by
  obtain ⟨l, h1, h2, h3⟩ := h
  refine ⟨l ++ [c], h1.append (IntsAre.cons _ _ IntsAre.nil), by rw [List.length_append, h2]; rfl, fun x hx => ?_⟩
  rcases List.mem_append.mp hx with hx | hx
  · exact h3 x hx
  · rw [List.mem_singleton.mp hx]; exact hc
section
variable {w : World} {A : Around} {E : Value → Shared → Prop} {s : Shared} {h₀ : Heap} {L : Addr} {m : Str → Option Value} {env : Env}
theorem Assign_draw {elt : Expr} {x y : Str} {px py : Pos} {iter : Expr} {scope : Scope} {cl : List (Str × Addr)} {pos spos : Pos} {Q : Flow → Shared → Prop} {nw : List (Addr × Obj)} {g : Obj → List (Addr × Obj)} {d D : Addr} {o oC : Obj} {k : Int} (P : List Value → Nat → Prop) (F₀ : Fr h₀ L s.heap m)
    (_N₀ : News h₀ L s.heap nw) (_hC : oC.data = Data.cell (some (Value.ref d))) (_U : UpdF d o nw g) (_hd : TinIs w D k o) (hLe : env.locals = L)
    (hsw : swapsWith (.ListComp elt [⟨.Name x px, iter, [], 0⟩] scope pos) (some (.Name y py)) spos.line env = pure true)
    (hclos : closureFor scope env = pure cl) (hcell : ∀ y ∈ scope.names, y.2 ≠ .cell) (hkind : scope.kind = .function)
    (hnames : ∀ y ∈ scope.names, y.2 = .local → scope.names.lookup y.1 = some .local) (hx : scope.names.lookup x = some .local) (hh : A.handled = none)
    (hy : env.kindOf y = some .local) (hp : (env.scope.kind == .class || (env.scope.kind == .module && env.locals != env.globals)) = false)
    (hs : ∀ x, foldedSetIterable iter env x = pure x)
    (h : wpAny (model PR w) A (eval iter env) (DrawGo PR w A h₀ L m env elt x scope cl (DrawJ w D (k + 1) P g) (fun D z => if z = y then some (.ref D) else m z) (fun _ => Flow.next) Q) E s) :
    wpAny (model PR w) A (exec (.Assign [.Name y py] (.ListComp elt [⟨.Name x px, iter, [], 0⟩] scope pos) spos) env) Q E s :=
  Assign_ListComp_draw _ F₀ hLe hsw hclos hcell hkind hnames hx hh hy hp hs h
end
noncomputable def oneC (n : Int) : Str := ⟨#[n.toNat]⟩
theorem join_txt : ∀ l : List Int, Str.join (Str.ofString "") (l.map oneC) = txt l := by
  intro l
  have key : ∀ r : List Int, Str.join (Str.ofString "") (r.reverse.map oneC) = txt r.reverse := by
    intro r
    induction r with
    | nil => decide
    | cons a r ih =>
      rw [List.reverse_cons, List.map_append, List.map_cons, List.map_nil, PyProof.Rows.FinIter.join_snoc, ih]
      by_cases h : r.reverse.map oneC = []
      · have h2 : r.reverse = [] := by simpa using h
        rw [if_pos h, h2]; rfl
      · rw [if_neg h, ← txt_snoc]
        show txt r.reverse ++ Str.ofString "" ++ oneC a = _
        have e : txt r.reverse ++ Str.ofString "" = txt r.reverse := by
          have e2 : Str.ofString "" = (⟨#[]⟩ : Str) := by decide
          rw [e2]
          show (⟨(txt r.reverse).cps ++ #[]⟩ : Str) = _
          rw [Array.append_empty]
        rw [e]; rfl
  have := key l.reverse
  rwa [List.reverse_reverse] at this
theorem oneC_sum (l : List Int) : ((l.map oneC).map (·.length)).sum = l.length := by
  induction l with
  | nil => rfl
  | cons a r ih => rw [List.map_cons, List.map_cons, List.sum_cons, ih, List.length_cons]; show 1 + _ = _; omega
theorem join_codes {prog : Program} {w : World} {A : Around} {E : Value → Shared → Prop} {s : Shared} {D : Addr} {ys : List Value} {l : List Int} {t : Tok} {Q : Value → Shared → Prop} (hl : s.heap.IsList D ys.toArray) (hi : StrsAre ys (l.map oneC)) (hlen : l.length ≤ 1000)
    (h : ∀ t' k, Q (.str (txt l) t') { s with toks := k }) : wpAny (model prog w) A (call (.builtin "str.join") [.str (Str.ofString "") t, .ref D]) Q E s := by
  refine join_listW hl (by simpa using hi) (by decide) (by rw [oneC_sum, List.length_map]; omega) fun t' k => ?_
  have e : Txt.join (Str.ofString "") (l.map oneC) = txt l := (beq_iff_eq.mp (join_plain_closes _ _)).trans (join_txt l)
  rw [e]; exact h t' k
theorem codes_range {c : Int} (h : c ∈ codes) : 0 ≤ c ∧ c ≤ 1114111 := by
  have key : ∀ c ∈ codes, 0 ≤ c ∧ c ≤ 1114111 := by decide
  exact key c h
noncomputable def letters : List Int := [43, 45, 53, 32, 98, 90, 95, 48]
noncomputable def SignsAre (ys : List Value) (i : Nat) : Prop := ∃ l : List Int, StrsAre ys (l.map oneC) ∧ l.length = i ∧ ∀ c ∈ l, c ∈ letters
theorem signs_nil : SignsAre [] 0 := ⟨[], StrsAre.nil, rfl, fun _ h => nomatch h⟩
theorem signs_snoc {ys : List Value} {i : Nat} {c : Int} {t : Tok} (h : SignsAre ys i) (hc : c ∈ letters) : SignsAre (ys ++ [.str (oneC c) t]) (i + 1) := by
  obtain ⟨l, h1, h2, h3⟩ := h
  refine ⟨l ++ [c], by rw [List.map_append]; exact h1.append' (StrsAre.cons _ _ StrsAre.nil), by rw [List.length_append, h2]; rfl, fun x hx => ?_⟩
  rcases List.mem_append.mp hx with hx | hx
  · exact h3 x hx
  · rw [List.mem_singleton.mp hx]; exact hc
theorem sign_at {k : Int} (h0 : 0 ≤ k) (h1 : k < 8) : ∃ c, c ∈ letters ∧ Txt.item (Str.ofString "+-5 bZ_0") k = oneC c := by
  have e : k = 0 ∨ k = 1 ∨ k = 2 ∨ k = 3 ∨ k = 4 ∨ k = 5 ∨ k = 6 ∨ k = 7 := by omega
  rcases e with rfl | rfl | rfl | rfl | rfl | rfl | rfl | rfl
  · exact ⟨43, by decide, by decide +kernel⟩
  · exact ⟨45, by decide, by decide +kernel⟩
  · exact ⟨53, by decide, by decide +kernel⟩
  · exact ⟨32, by decide, by decide +kernel⟩
  · exact ⟨98, by decide, by decide +kernel⟩
  · exact ⟨90, by decide, by decide +kernel⟩
  · exact ⟨95, by decide, by decide +kernel⟩
  · exact ⟨48, by decide, by decide +kernel⟩
section
variable {w : World} {A : Around} {E : Value → Shared → Prop} {s : Shared} {h₀ : Heap} {L : Addr} {m : Str → Option Value} {env : Env}
theorem eval_draw {elt : Expr} {x : Str} {px : Pos} {iter : Expr} {scope : Scope} {cl : List (Str × Addr)} {pos : Pos} {Q : Value → Shared → Prop} {nw : List (Addr × Obj)} {g : Obj → List (Addr × Obj)} {d D : Addr} {o oC : Obj} {k : Int} (P : List Value → Nat → Prop) (F₀ : Fr h₀ L s.heap m)
    (_N₀ : News h₀ L s.heap nw) (_hC : oC.data = Data.cell (some (Value.ref d))) (_U : UpdF d o nw g) (_hd : TinIs w D k o)
    (hclos : closureFor scope env = pure cl) (hcell : ∀ y ∈ scope.names, y.2 ≠ .cell) (hkind : scope.kind = .function)
    (hnames : ∀ y ∈ scope.names, y.2 = .local → scope.names.lookup y.1 = some .local) (hx : scope.names.lookup x = some .local) (hh : A.handled = none)
    (hs : ∀ x, foldedSetIterable iter env x = pure x)
    (h : wpAny (model PR w) A (eval iter env) (DrawGo PR w A h₀ L m env elt x scope cl (DrawJ w D (k + 1) P g) (fun _ => m) (fun D => .ref D) Q) E s) :
    wpAny (model PR w) A (eval (.ListComp elt [⟨.Name x px, iter, [], 0⟩] scope pos) env) Q E s :=
  ListComp_draw _ F₀ hclos hcell hkind hnames hx hh hs h
end
theorem news_put {h₀ h : Heap} {L : Addr} {nw : List (Addr × Obj)} {a b c : Addr × Obj} (N : News h₀ L h nw) (h1 : a ∈ nw) (h2 : b ∈ nw) (h3 : c ∈ nw) : News h₀ L h (a :: b :: c :: nw) := fun p hp => by
  rcases List.mem_cons.mp hp with rfl | hp
  · exact N _ h1
  rcases List.mem_cons.mp hp with rfl | hp
  · exact N _ h2
  rcases List.mem_cons.mp hp with rfl | hp
  · exact N _ h3
  exact N _ hp
theorem news_drop3 {h₀ h : Heap} {L : Addr} {nw : List (Addr × Obj)} {a b c : Addr × Obj} (N : News h₀ L h (a :: b :: c :: nw)) : News h₀ L h nw := fun p hp => N p (List.mem_cons_of_mem _ (List.mem_cons_of_mem _ (List.mem_cons_of_mem _ hp)))
theorem item_sign {prog : Program} {w : World} {A : Around} {E : Value → Shared → Prop} {s : Shared} {value slice : Expr} {t u : Tok} {i : Int} {Q : Value → Shared → Prop} (h0 : 0 ≤ i) (h1 : i < 8) (h : ∀ c t k, c ∈ letters → Q (.str (oneC c) t) { s with toks := k })
    (hs : subscripted slice false (.str (Str.ofString "+-5 bZ_0") t) (.int i u) = operate [.str (Str.ofString "+-5 bZ_0") t, .int i u] (getItem (.str (Str.ofString "+-5 bZ_0") t) (.int i u)) := by with_unfolding_all rfl)
    (ht : ∀ r, letTemporaryGo value (.str (Str.ofString "+-5 bZ_0") t) r = pure () := by intro _; with_unfolding_all rfl) :
    wpAny (model prog w) A (subscriptTail value slice (.str (Str.ofString "+-5 bZ_0") t) (.int i u)) Q E s :=
  KXi.item (n := 8) (by decide) (by omega) (by omega) (by decide) (fun _ => by obtain ⟨c, hc, e⟩ := sign_at h0 h1; rw [e]; exact h c _ _ hc) hs ht
end Mine
-- part Catch
namespace Mine
set_option maxRecDepth 100000
set_option maxHeartbeats 8000000
section
variable {M : Model} {A : Around} {E : Value → Shared → Prop} {s : Shared} {h₀ : Heap} {L a : Addr} {m mg mb : Str → Option Value} {cn : Str} {cs : Scope} {ccd : Value} {cells : List (Str × Addr)}
theorem global_X {x : Str} {pos : Pos} {v : Value} {Q : Value → Shared → Prop} (F : Fr h₀ L s.heap m) (hg : h₀.Ns mainGlobals mg) (hb : mg x = some v) (h : Q v s)
    (hk : cs.kind = .function) (hx : (envX cn cs L a ccd cells).kindOf x = some .globalImplicit) (hd : (x == ("__debug__" : Str)) = false) :
    wpAny M A (eval (.Name x pos) (envX cn cs L a ccd cells)) Q E s :=
  Calls.Name_function_global hk hx (Calls.loadGlobal_global (env := envX cn cs L a ccd cells) (hg.keeps F.keep) hb h) hd
end
section
variable {prog : Program} {w : World} {A₀ : Around} {E : Value → Shared → Prop} {s₁ s' : Shared} {h₀ : Heap} {L a e : Addr} {m mg mb : Str → Option Value} {cn : Str} {cs : Scope} {ccd : Value} {cells : List (Str × Addr)}
variable {nm q : Str} {N P : Addr} {bs : List Value} {hdct : Bool} {sn : List Str} {sub : List Value} {ab : Bool} {col : Option Bool} {dd : Option Addr} {k0 k1 k2 k3 k5 : Option Value} {KF : Frag} {p : Program} {loose : List Str}
/-- an exception's object that was raised with nothing handled -/
noncomputable def CalmObj (o : Obj) : Prop := ∃ vs, o.data = .fields vs ∧ Calm vs
/-- the frame's own clause takes a Die that flew up to it -/
theorem caught_die {env : Env} {x : Str} {b₀ : Stmt} {suite : List Stmt} {pos np : Pos} {rest : List ExceptHandler} {Q : Flow → Shared → Prop} {news : List (Addr × Obj)}
    (he : env = envX cn cs L a ccd cells) (K : Below A₀ h₀ [] h₀) (F : Fr h₀ L s₁.heap m) (Nw : News h₀ L s₁.heap news) (up : DieUp [env] s₁ s' e)
    (X : KF.In h₀) (T : TopRead p loose mg mb h₀) (ex : nsIn KF mainGlobals x = some (some (.ref 51)))
    (hC : KF.lookup 51 = some (excClassObj nm q 51 N bs (.ref P :: [.type "Exception", .type "BaseException", .type "object"]) hdct sn sub ab col dd k0 k1 k2 k3 k5 "Exception.__new__"))
    (k : ∀ h' tk oe, CalmObj oe → Fr h₀ L h' m → News h₀ L h' ((e, oe) :: news) →
      wpAny (model prog w) ((A₀.deeper env).mark (some (.ref e))) (execs (b₀ :: suite) env) Q E { s₁ with heap := h', toks := tk })
    (hk : cs.kind = .function) (hx : env.kindOf x = some .globalImplicit) (hd : (x == ("__debug__" : Str)) = false)
    (hE : PassesOwnAt (model prog w) ((A₀.deeper env).mark (some (.ref e))) (A₀.deeper env) env E) :
    wpAny (model prog w) (A₀.deeper env) (noteFrame (.ref e) env)
      (fun _ s₂ => wpAny (model prog w) (A₀.deeper env) (setFlight (.ref e) none) (fun _ s₃ =>
        wpAny (model prog w) (A₀.deeper env) (handleBy (.ref e) env (.ExceptHandler (some (.Name x np)) none (b₀ :: suite) pos :: rest)) Q E s₃) E s₂) E s' := by
  subst he
  obtain ⟨h1, tk, B, rfl, hfl, hsm, hB⟩ := up
  have hBk : h₀.StaysIn B := fun b o eb => hB b o (F.keep b o eb) fun hm => by
    have hm' : b = L := List.mem_singleton.mp hm
    have h2 := Heap.lt_size eb
    rw [hm'] at h2
    exact absurd h2 (Nat.not_lt.mpr F.above)
  have hl : ∀ q ∈ news, B.get? q.1 = some q.2 := fun q hq => hB _ _ (Nw q hq).1 fun hm => (Nw q hq).2.1 (List.mem_singleton.mp hm)
  have hL : B.get? L = none := by
    obtain ⟨_, ⟨L', _, hf, hn', _⟩, _⟩ := hfl.2.2.1
    obtain rfl : L = L' := Option.some.inj hf
    exact hn'
  refine look_on (Around.frames_deeper K.stack) rfl hfl fun h₄ hheld₄ hsm₄ => ?_
  refine land hheld₄ fun h₅ hheld hsm₅' => ?_
  have hsm₅ := hsm₄.trans hsm₅'
  have hheld' := hheld.lower hBk
  have F₅ := F.of_stays hheld'.1 (hsm.trans hsm₅)
  obtain ⟨ob, _, hob, hobc, _⟩ := hheld'.there
  refine wpAny_handleBy_cons (codeAny_handlers_test (global_X F₅ T.g (mg_of X T.g ex) ?_ hk hx hd)) (by intro q; cases q)
  refine wpAny_excMatches_sub_self (F₅.keep _ _ (X _ _ hC)) hob hobc (by rw [List.contains_cons]; rfl) (codeAny_handlers_suite ?_)
  refine land hheld fun h₆ hfl₆ hsm₆ => ?_
  have hfl₆' := hfl₆.lower hBk
  have F₆ := F.of_stays hfl₆'.1 ((hsm.trans hsm₅).trans hsm₆)
  obtain ⟨oe, vs, hoe, _, hod, hP⟩ := hfl₆'.there
  refine wpAny_passesOwnAt hE (k h₆ _ oe ⟨vs, hod, hP⟩ F₆ ?_)
  intro q hq
  rcases List.mem_cons.mp hq with rfl | hq
  · refine ⟨hoe, fun z => ?_, hfl₆'.2.1⟩
    obtain ⟨on, es, ep, en, ed, _⟩ := F₆.ns
    have z : e = L := z
    rw [← z, hoe] at en
    cases en
    rw [hod] at ed
    cases ed
  · exact ⟨hfl₆.1 _ _ (hl q hq), (Nw q hq).2⟩
end
end Mine
-- part Unpack
namespace Mine
set_option maxRecDepth 100000
set_option maxHeartbeats 8000000
theorem entry_unchain : entryFor table "proto.unchain" = some Builtin.«proto.unchain» := entryFor_of_tree (by kernel_rfl)
section
variable {prog : Program} {w : World} {A : Around} {E : Value → Shared → Prop} {s : Shared}
/-- a new exception raised while a calm one is handled -/
theorem raise_marked {e x : Addr} {oe ox : Obj} {xs : Array Value} {α : Type} {Q : α → Shared → Prop} (hh : A.handled = some (.ref e)) (he : s.heap.get? e = some oe) (hc : CalmObj oe) (hx : s.heap.get? x = some ox) (hxd : ox.data = .fields xs) (hs : 2 < xs.size) (hne : e ≠ x)
    (h : E (.ref x) { s with heap := s.heap.update x (Obj.mapFields (·.setIfInBounds 2 (.ref e))) }) : wpAny (model prog w) A (raiseNew (.ref x) : Sem α) Q E s := by
  obtain ⟨vs, hd, _, h2⟩ := hc
  simp only [raiseNew]
  refine wpAny_bind (wpAny_handled ?_)
  rw [hh]
  show wpAny _ _ (if (Value.ref e != Value.ref x) = true then _ else _) _ _ s
  rw [if_pos (by simpa using hne)]
  refine wpAny_bind (wpAny_holding (runValue_entry entry_unchain ?_))
  unfold Builtin.«proto.unchain»
  refine wpAny_bind (wpAny_field he hd h2 ?_)
  show wpAny _ _ (if (Value.none == Value.none) = true then _ else _) _ _ s
  rw [if_pos (by decide)]
  refine wpAny_pure ⟨_, rfl, ?_⟩
  unfold updateField
  refine wpAny_bind (wpAny_bind (wpAny_load hx ?_))
  rw [hxd]
  show wpAny _ _ (if 2 < xs.size then _ else _) _ _ s
  rw [if_pos hs]
  exact wpAny_update hx (wpAny_throw h)
theorem next_end_marked {it t e : Addr} {oe : Obj} {i : Nat} {items : Array Value} {Q : Option Value → Shared → Prop} (hh : A.handled = some (.ref e)) (he : s.heap.get? e = some oe) (hcalm : CalmObj oe)
    (hit : s.heap.IsTupleIter it t i) (ht : s.heap.IsTuple t items) (hx : items[i]? = none)
    (hQ : ∀ h', Heap.ExtBut it s.heap h' → Q none { s with heap := h' }) : wpAny (model prog w) A (pyNext (.ref it)) Q E s := by
  obtain ⟨o, ho, hc, hd⟩ := id hit
  obtain ⟨ol, hol, _, nl, hdl⟩ := ht
  have hne : it ≠ e := fun q => by
    obtain ⟨vs, hd', _, h2⟩ := hcalm
    rw [← q, ho] at he
    cases he
    rw [hd] at hd'
    cases hd'
    exact nomatch h2
  unfold pyNext
  refine wpAny_bind (wpAny_attempt (wpAny_callSpecial?_slot (name := Str.ofString "__next__") hit.typeIs F.slot_tuple_iterator_next
    (wpAny_call_entry F.slot_tuple_iterator_next hit.typeIs F.entry_tuple_iterator_next ?_ (F.args_tuple_iterator_next_1 _))))
  show wpAny _ _ (field (.ref it) 0 >>= _) _ _ s
  refine wpAny_bind (wpAny_field ho hd (x := .ref t) rfl ?_)
  show wpAny _ _ (if (Value.ref t == Value.none) = true then _ else _) _ _ s
  rw [if_neg (show ¬ ((Value.ref t == Value.none) = true) from Bool.false_ne_true)]
  show wpAny _ _ (field (.ref it) 1 >>= _) _ _ s
  refine wpAny_bind (wpAny_field ho hd (x := .int i 0) rfl ?_)
  show wpAny _ _ (seqItems? (.ref t) >>= _) _ _ s
  refine wpAny_bind (wpAny_seqItems hol hdl ?_)
  simp only [Int.toNat_natCast, hx]
  refine wpAny_bind (wpAny_rule (wpAny_bind (wpAny_setField ho hd (by simp) ?_)))
  show wpAny _ _ (newExc (.type "StopIteration") [] >>= _) _ _ _
  refine wpAny_bind ?_
  simp only [newExc, newTuple]
  refine wpAny_bind (wpAny_newObj_type ?_ (by size_fits))
  refine wpAny_bind (m := firstArgMember _ _) (wpAny_of_eq (a := Value.none) (by first | rfl | (simp only [firstArgMember]; rfl)) ?_)
  refine wpAny_newObj_type ?_ (by size_fits)
  have he2 : (s.heap.update it (Obj.mapFields (·.setIfInBounds 0 Value.none))).get? e = some oe := (Heap.get?_update_other _ _ hne).trans he
  have he3 := Heap.get?_push_of_some ({ cls := .type "tuple", data := .seq #[] } : Obj) he2
  have he4 := fun (ox : Obj) => Heap.get?_push_of_some ox he3
  refine raise_marked (A := A.in1) (oe := oe) hh (he4 _) hcalm (Heap.get?_push_size _ rfl) rfl (by simp; omega) (Nat.ne_of_lt (Heap.lt_size he3)) ?_
  refine wpAny_bind (wpAny_isInstance (T := "StopIteration") (b := true) ⟨_, Heap.get?_update_self _ (Heap.get?_push_size _ rfl) (Obj.isFreed_of_fields (Obj.data_mapFields rfl _)), Obj.cls_mapFields _ _⟩ isSubtype_stop ?_)
  refine wpAny_pure (hQ _ fun b o' hb eb => ?_)
  have e2 := (Heap.get?_update_other (h := s.heap) (Obj.mapFields (·.setIfInBounds 0 Value.none)) (Ne.symm hb)).trans eb
  have e3 := Heap.get?_push_of_some ({ cls := .type "tuple", data := .seq #[] } : Obj) e2
  have hlt := Heap.lt_size e3
  show (Heap.update _ _ _).get? b = _
  rw [Heap.get?_update_other _ _ (Nat.ne_of_gt hlt)]
  exact Heap.get?_push_of_some _ e3
theorem unpack_marked {t e : Addr} {oe : Obj} {items : Array Value} {n : Nat} {Q : List Value → Shared → Prop} (hh : A.handled = some (.ref e)) (he : s.heap.get? e = some oe) (hcalm : CalmObj oe) (ht : IsTup s.heap t items) (hn : n = items.size)
    (hQ : ∀ h', Heap.ExtBut s.heap.objs.size s.heap h' → Q items.toList { s with heap := h' }) : wpAny (model prog w) A (unpackItems (.ref t) n none) Q E s := by
  subst hn
  have ht : s.heap.IsTuple t items := ht
  have hlt : t ≠ s.heap.objs.size := by obtain ⟨o, ho, _⟩ := ht; exact Nat.ne_of_lt (Heap.lt_size ho)
  have hle : e ≠ s.heap.objs.size := Nat.ne_of_lt (Heap.lt_size he)
  unfold unpackItems
  refine wpAny_bind ?_
  unfold notIterableAtAll
  refine wpAny_bind (wpAny_specialOf ht.typeIs F.slot_tuple_iter.lookup ?_)
  refine wpAny_pure ?_
  simp only [Bool.false_eq_true, if_false]
  refine wpAny_bind (wpAny_holding (wpAny_pyIter_tuple ht ?_))
  refine wpAny_bind (wpAny_holding (wpAny_draw_tuple hlt items.size 0 _ _ ⟨_, Heap.get?_push_size _ rfl, rfl, rfl⟩ (ht.push _) (by omega) fun h₁ hit₁ hs₁ => ?_))
  have hall : List.take items.size (List.drop 0 items.toList) = items.toList := by
    rw [List.drop_zero]; exact List.take_of_length_le (by simp)
  rw [hall, if_neg (by simp)]
  have ht₁ : h₁.IsTuple t items := (ht.push _).extBut hs₁.extBut hlt
  have he₁ : h₁.get? e = some oe := hs₁.extBut e oe hle (Heap.get?_push_of_some _ he)
  refine wpAny_bind (wpAny_holding (next_end_marked hh he₁ hcalm hit₁ ht₁ (by simp) fun h₂ he₂ => ?_))
  simp only [Option.isSome_none, Bool.false_eq_true, if_false]
  exact wpAny_pure (hQ h₂ fun b o hb e => he₂ b o hb (hs₁.extBut b o hb (Heap.get?_push_of_some _ e)))
theorem unpack_row {h₀ : Heap} {L : Addr} {m : Str → Option Value} {news : List (Addr × Obj)} {t e : Addr} {oe : Obj} {items : Array Value} {n : Nat} {Q : List Value → Shared → Prop} (F : Fr h₀ L s.heap m) (N : News h₀ L s.heap news) (hh : A.handled = some (.ref e)) (he : (e, oe) ∈ news) (hcalm : CalmObj oe) (ht : IsTup s.heap t items) (hn : n = items.size)
    (h : ∀ h', Fr h₀ L h' m → News h₀ L h' news → Q items.toList { s with heap := h' }) : wpAny (model prog w) A (unpackItems (.ref t) n none) Q E s :=
  unpack_marked hh (N _ he).1 hcalm ht hn fun h' x => h h' (F.extBut x (Nat.le_refl _)) fun p hp => ⟨x _ _ (Nat.ne_of_lt (Heap.lt_size (N p hp).1)) (N p hp).1, (N p hp).2⟩
theorem assign_row {h₀ : Heap} {L : Addr} {m : Str → Option Value} {news : List (Addr × Obj)} {t e : Addr} {oe : Obj} {items : Array Value} {env : Env} {elts : List Expr} {x1} {pos : Pos} {Q : Unit → Shared → Prop} (F : Fr h₀ L s.heap m) (N : News h₀ L s.heap news) (hh : A.handled = some (.ref e)) (he : (e, oe) ∈ news) (hcalm : CalmObj oe) (ht : IsTup s.heap t items) (hn : (assignEach elts env).length = items.size) (hstar : (assignEach elts env).findIdx? (·.1) = none)
    (h : ∀ h', Fr h₀ L h' m → News h₀ L h' news → wpAny (model prog w) A (assignInOrder ((assignEach elts env).map (·.2)) items.toList) Q E { s with heap := h' }) : wpAny (model prog w) A (assign (.Tuple elts x1 pos) env (.ref t)) Q E s := by
  rw [assign_Tuple]
  refine wpAny_bind (wpAny_standAt ?_)
  unfold unpack
  rw [hn, hstar]
  exact wpAny_bind (wpAny_holding (unpack_row F N hh he hcalm ht rfl h))
end
end Mine
-- part Law0
namespace Mine
set_option maxRecDepth 100000
set_option maxHeartbeats 8000000
example : PySem.Challenge.rw_qz0090_01 = PySem.Challenge.rw_qz0090_01 ∧ hd.heap_1 = hd.heap_1 := by
  k_fill
  exact ⟨rfl, rfl⟩
noncomputable def lawX (w : World) : (body : List Stmt) ×' (scope : Scope) ×' (oc : Value) ×' (od : Option Addr) ×' (name : Str) ×' (qual : Str) ×' (params : Arguments) ×' (dV : Value) ×' (kV : Value) ×' (doc : Value) ×' (pm : Value) ×' (an : Option Addr) ×' (cdv : Value) ×' (ct : Value) ×' (osl : Array (Option Value)) ×' ((hd.heap_1 w.params).lookup 406 = some ⟨oc, od, .func (fnOf name qual params body scope dV kV doc pm an cdv ct), osl⟩) :=
  ⟨_, _, _, _, _, _, _, _, _, _, _, _, _, _, _, by k_is⟩
noncomputable def lawBody (w : World) : List Stmt := (lawX w).1
end Mine
-- part Turns
namespace Mine
example : True := by
  w_top off
  trivial
set_option maxRecDepth 100000
set_option maxHeartbeats 8000000
example : PySem.Challenge.rw_qz0090_01 = PySem.Challenge.rw_qz0090_01 ∧ hd.heap_1 = hd.heap_1 := by
  k_fill
  exact ⟨rfl, rfl⟩
noncomputable def lawScope (w : World) : Scope := (lawX w).2.1
noncomputable def lawEnv (w : World) (L fa : Addr) (cdv : Value) : Env := envOfC (Str.ofString "law") (lawScope w) L fa cdv
noncomputable def forBody (w : World) : List Stmt := match (lawBody w).drop 5 with | .For _ _ b _ _ :: _ => b | _ => []
theorem map6 {m : Str → Option Value} {v0 v1 v2 v3 v4 v5 : Value} (h0 : m (Str.ofString "word") = some v0) (h1 : m (Str.ofString "ops") = some v1) (h2 : m (Str.ofString "one") = some v2) (h3 : m (Str.ofString "other") = some v3) (h4 : m (Str.ofString "right") = some v4) (h5 : m (Str.ofString "left") = some v5) :
    m = fun z => if z = Str.ofString "word" then some v0 else if z = Str.ofString "ops" then some v1 else if z = Str.ofString "one" then some v2 else if z = Str.ofString "other" then some v3 else if z = Str.ofString "right" then some v4 else if z = Str.ofString "left" then some v5 else m z := by
  funext z
  by_cases e0 : z = Str.ofString "word"
  · rw [if_pos e0, e0, h0]
  rw [if_neg e0]
  by_cases e1 : z = Str.ofString "ops"
  · rw [if_pos e1, e1, h1]
  rw [if_neg e1]
  by_cases e2 : z = Str.ofString "one"
  · rw [if_pos e2, e2, h2]
  rw [if_neg e2]
  by_cases e3 : z = Str.ofString "other"
  · rw [if_pos e3, e3, h3]
  rw [if_neg e3]
  by_cases e4 : z = Str.ofString "right"
  · rw [if_pos e4, e4, h4]
  rw [if_neg e4]
  by_cases e5 : z = Str.ofString "left"
  · rw [if_pos e5, e5, h5]
  rw [if_neg e5]
noncomputable def TurnOut (h₀ : Heap) (L : Addr) (m : Str → Option Value) (news : List (Addr × Obj)) (s : Shared) (f : Flow) (s' : Shared) : Prop :=
  f = .next ∧ ∃ h' tk v1 v2 v3, s' = { s with heap := h', toks := tk } ∧ Fr h₀ L h' (fun z => if z = Str.ofString "again" then some v1 else if z = Str.ofString "found" then some v2 else if z = Str.ofString "due" then some v3 else m z) ∧ News h₀ L h' news
theorem Fine.mk {P : Prop} (h : P) : Fine P := h
theorem turn_end {h₀ h : Heap} {L : Addr} {m m6 : Str → Option Value} {v1 v2 v3 : Value} {news all : List (Addr × Obj)} {s : Shared} {tk : Nat} (e : m = m6) (F : Fr h₀ L h (fun z => if z = Str.ofString "again" then some v1 else if z = Str.ofString "found" then some v2 else if z = Str.ofString "due" then some v3 else m6 z)) (N : News h₀ L h all) (sub : ∀ p ∈ news, p ∈ all) : TurnOut h₀ L m news s .next { s with heap := h, toks := tk } := by
  subst e
  exact ⟨rfl, h, tk, v1, v2, v3, rfl, F, fun p hp => N p (sub p hp)⟩
noncomputable def OpsAre (w : World) (o : Obj) : Prop := ∃ t0 t1 t2 t3 t4 v3 v4, o.IsDictOf (PySem.strKind PR w) (strPairs [(Value.str (Str.ofString "&") t0, Value.ref 333), (Value.str (Str.ofString "|") t1, Value.ref 340), (Value.str (Str.ofString "^") t2, Value.ref 347), (Value.str (Str.ofString "<<") t3, v3), (Value.str (Str.ofString ">>") t4, v4)])
theorem sub_skip {p : Addr × Obj} {a b : List (Addr × Obj)} (h : ∀ q ∈ a, q ∈ b) : ∀ q ∈ a, q ∈ p :: b := fun q hq => List.mem_cons_of_mem _ (h q hq)
theorem sub_same {a : List (Addr × Obj)} : ∀ q ∈ a, q ∈ a := fun _ h => h
theorem ops_start {w : World} {o : Obj} {t0 t1 t2 t3 t4 : Tok} {v3 v4 : Value} (h : o.IsDictOf (PySem.strKind PR w) (strPairs [(Value.str (Str.ofString "&") t0, Value.ref 333), (Value.str (Str.ofString "|") t1, Value.ref 340), (Value.str (Str.ofString "^") t2, Value.ref 347), (Value.str (Str.ofString "<<") t3, v3), (Value.str (Str.ofString ">>") t4, v4)])) : OpsAre w o := ⟨_, _, _, _, _, _, _, h⟩
local macro_rules | `(tactic| k_room) => `(tactic| ktr_room)
local macro_rules | `(tactic| k_units) => `(tactic| ktr_units)
local macro_rules | `(tactic| walk_at "call ref") => `(tactic| k_extra "my call")
local macro_rules | `(tactic| walk_at "exec Assign cons ListComp") => `(tactic| k_extra "my comp")
local macro_rules | `(tactic| walk_at "noteFrame ref") => `(tactic| k_extra "my note")
local macro_rules | `(tactic| walk_at "OrdGo") => `(tactic| k_extra "my go")
local macro_rules | `(tactic| walk_at "exec Try") => `(tactic| (refine wpAny_Try_except ?_))
local macro_rules | `(tactic| walk_at "callWith") => `(tactic| k_extra "my cw")
local macro_rules | `(tactic| walk_at "call") => `(tactic| k_extra "my cw")
local macro_rules | `(tactic| walk_at "EltEnd") => `(tactic| k_extra "my elt")
local macro_rules | `(tactic| walk_at "assign Tuple") => `(tactic| k_extra "my unpack")
theorem turn_and {w : World} {mean : ExcName → Option Value} {mg mb : Str → Option Value} {h₀ : Heap} {L fa : Addr} {cdv : Value} {m₀ : Str → Option Value} {s : Shared}
    (B : Below callerA h₀ [] h₀) (F₀ : Fr h₀ L s.heap m₀) (X : (hd.heap_1 w.params).In h₀) (T : TOP mean mg mb h₀)
    (l r : List Int) {t0 t1 t2 : Tok} {aL aR dO : Addr} {lvs rvs : List Value} {oO : Obj} {rest : List (Addr × Obj)}
    (N : News h₀ L s.heap ((dO, oO) :: (aR, LCg.lst rvs) :: (aL, LCg.lst lvs) :: rest)) (hO : OpsAre w oO)
    (hm0 : m₀ (Str.ofString "word") = some (.str (Str.ofString "&") t0)) (hm1 : m₀ (Str.ofString "ops") = some (.ref dO)) (hm2 : m₀ (Str.ofString "one") = some (.str (txt l) t1)) (hm3 : m₀ (Str.ofString "other") = some (.str (txt r) t2)) (hm4 : m₀ (Str.ofString "right") = some (.ref aR)) (hm5 : m₀ (Str.ofString "left") = some (.ref aL))
    (hlv : IntsAre lvs l) (hrv : IntsAre rvs r) (hl4 : Fine (l.length ≤ 4)) (hr4 : Fine (r.length ≤ 4)) (hlc : Fine (∀ c ∈ l, c ∈ codes)) (hrc : Fine (∀ c ∈ r, c ∈ codes)) :
    wpAny (model PR w) (callerA.deeper (lawEnv w L fa cdv)) (execs (forBody w) (lawEnv w L fa cdv)) (TurnOut h₀ L m₀ ((dO, oO) :: (aR, LCg.lst rvs) :: (aL, LCg.lst lvs) :: rest) s) (fun _ _ => False) s := by
  obtain ⟨u0, u1, u2, u3, u4, w3, w4, hO⟩ := hO
  have hll := hlv.length
  have hop : IsOp (Str.ofString "&") := by unfold IsOp; decide
  have hrl := hrv.length
  have F := F₀
  have hmap := Fine.mk (map6 hm0 hm1 hm2 hm3 hm4 hm5)
  rw [map6 hm0 hm1 hm2 hm3 hm4 hm5] at F
  have hlS : s.heap.IsList aL lvs.toArray := News.isList N (List.Mem.tail _ (List.Mem.tail _ (List.Mem.head _)))
  clear hm0 hm1 hm2 hm3 hm4 hm5
  unfold forBody lawBody lawEnv lawScope lawX
  dsimp only
  clear F₀
  k_with_none
  k_with "my call" => ((fail_if_success (with_reducible show wpAny _ _ (call (Value.ref 372) _) _ _ _)); (fail_if_success (with_reducible show wpAny _ _ (call (Value.ref 369) _) _ _ _)); refine halt ?_)
  k_with "my elt" => (refine halt ?_)
  k_with "my comp" => (refine halt ?_)
  k_with "my note" => (refine halt ?_)
  k_with "my go" => (refine halt ?_)
  k_with "my call" => (k_here; (with_reducible show wpAny _ _ (call (Value.ref 396) _) _ _ _); (rename Fr _ _ _ _ => Fz); (rename News _ _ _ _ => Nz); k_dflt ((refine' wpAny_mono (c_due ?mB Fz ?mX ?mT ?mk ?mdp ?mun _ l r aL aR lvs rvs _ hl4 hr4 ?q1 hlv ?q2 hrv) ?_ (fun _ _ x => x)); (case mB => k_asm); (case mX => k_asm); (case mT => k_asm); (case mk => exact rfl); (case mdp => k_extra "my room"); (case mun => k_extra "my room"); (case q1 => exact News.isList Nz (by k_mem)); (case q2 => exact News.isList Nz (by k_mem)); intro vz sz hz; (obtain ⟨⟨h2, tk2, rfl, hk2⟩, hz2⟩ := hz); (have hk3 : ∀ b o, _ → h2.get? b = some o := fun b o => hk2 b o (fun hb => nomatch hb)); (have F2 := Fz.keeps hk3); (rcases hz2 with ⟨hfil, ad, vs2, c2, rfl, hn2, hs2, hv2⟩ | ⟨hfil, rfl⟩); (rotate_left); (have N2 := Nz.grown hk3); rotate_left; (have N2 := news_more Fz Nz hk3 hn2 hs2); (all_goals ((try clear hk3); (try clear hk2); (try clear Fz); (try clear Nz); (try dsimp only)))))
  k_with "my comp" => (k_here; (with_reducible show wpAny _ _ (exec (Stmt.Assign _ (Expr.ListComp _ _ _ _) _) _) _ _ _); (rename Fr _ _ _ _ => lF); (refine' Assign_ord lF ?hLe ?hsw ?hclos ?hcell ?hkind ?hnames ?hx ?hh ?hy ?hp ?hs ?_); (case hLe => with_unfolding_all rfl); (case hsw => with_unfolding_all rfl); (case hclos => with_unfolding_all rfl); (case hcell => decide); (case hkind => with_unfolding_all rfl); (case hnames => decide); (case hx => with_unfolding_all rfl); (case hh => with_unfolding_all rfl); (case hy => with_unfolding_all rfl); (case hp => with_unfolding_all rfl); (case hs => intro _; with_unfolding_all rfl))
  k_with "my cw" => (dsimp only)
  k_with "my call" => (k_here; (with_reducible show wpAny _ _ (call (Value.ref 333) _) _ _ _); (rename Fr _ _ _ _ => Fz); (rename News _ _ _ _ => Nz); k_dflt ((refine' wpAny_mono (c_op_and ?mB Fz ?mX ?mT ?mk ?mdp ?mun l r _ _ _ hl4.out hr4.out (codes_nonneg hlc.out) (codes_nonneg hrc.out) (due_pos hop hlc.out hrc.out)) ?_ (fun ez sz hz => False.elim (hz.1.elim fun i hi => filt_some hop hlc.out hrc.out hi.1 hi.2 hfil))); (case mB => k_asm); (case mX => k_asm); (case mT => k_asm); (case mk => exact rfl); (case mdp => k_extra "my room"); (case mun => k_extra "my room"); (intro vz sz hz); (obtain ⟨hle, ⟨h2, tk2, rfl, hk2⟩, t2, rfl⟩ := hz); (have hk3 : ∀ b o, _ → h2.get? b = some o := fun b o => hk2 b o (fun hb => nomatch hb)); (have F2 := Fz.keeps hk3); (have N2 := Nz.grown hk3);  (try clear hk3); (try clear hk2); (try clear Fz); (try clear Nz); (try dsimp only)))
  k_with "my call" => (k_here; (with_reducible show wpAny _ _ (call (Value.ref 333) _) _ _ _); (rename Fr _ _ _ _ => Fz); (rename News _ _ _ _ => Nz); k_dflt ((refine' wpAny_mono (c_op_and ?mB Fz ?mX ?mT ?mk ?mdp ?mun l r _ _ _ hl4.out hr4.out (codes_nonneg hlc.out) (codes_nonneg hrc.out) (due_pos hop hlc.out hrc.out)) (fun vz sz hz => absurd (filt_nil hop hlc.out hrc.out _ hz.1) hfil) ?_); (case mB => k_asm); (case mX => k_asm); (case mT => k_asm); (case mk => exact rfl); (case mdp => k_extra "my room"); (case mun => k_extra "my room"); (intro ez sz hz); (obtain ⟨hbad, e2, rfl, hup⟩ := hz); k_extra "my caught"))
  k_with "my call" => (k_here; (with_reducible show wpAny _ _ (call (Value.ref 298) _) _ _ _); (rename Fr _ _ _ _ => Fz); (rename News _ _ _ _ => Nz); k_dflt ((refine' wpAny_mono (c_bits_and ?mB Fz ?mX ?mT ?mk ?mdp ?mun r l _ _ _ hr4.out hl4.out (codes_nonneg hrc.out) (codes_nonneg hlc.out) (due_pos hop hrc.out hlc.out)) ?_ (fun ez sz hz => False.elim (hz.1.elim fun i hi => filt_some hop hlc.out hrc.out (many_swap _ l r ▸ hi.1) (dueAt_swap hop hlc.out hrc.out i ▸ hi.2) hfil))); (case mB => k_asm); (case mX => k_asm); (case mT => k_asm); (case mk => exact rfl); (case mdp => k_extra "my room"); (case mun => k_extra "my room"); (intro vz sz hz); (obtain ⟨hle, ⟨h2, tk2, rfl, hk2⟩, t2, rfl⟩ := hz); (rw [due_swap hop hlc.out hrc.out, many_swap]); (have hk3 : ∀ b o, _ → h2.get? b = some o := fun b o => hk2 b o (fun hb => nomatch hb)); (have F2 := Fz.keeps hk3); (have N2 := Nz.grown hk3);  (try clear hk3); (try clear hk2); (try clear Fz); (try clear Nz); (try dsimp only)))
  k_with "my elt" => ((rename Fr _ _ _ _ => Fz); (rename News _ _ _ _ => Nz); refine EltEnd.intro Fz Nz (fun p hp => hp) (by simp only [LCg.Off3, and_true]; assumption) ?_; k_dflt (exact ⟨rfl, _, rfl⟩))
  k_with "my caught" => (refine' caught_die ?he ?K ?F ?Nw hup ?X ?T ?ex ?hC ?_ ?hk ?hx ?hd PassesOwnAt.never; (case he => exact rfl); (case K => assumption); (case F => exact Fz); (case Nw => exact Nz); (case X => k_asm); (case T => k_asm); (case ex => k_is); (case hC => k_is); (case hk => exact rfl); (case hx => exact rfl); (case hd => decide); k_whole; intro hc tkc oec hcalm Fc Nc; (try clear hup); (try clear Fz); (try clear Nz); (try dsimp only))
  k_with "my go" => ((rename Fr _ _ _ _ => lF); (rename News _ _ _ _ => lN); k_dflt ((refine' OrdGo.intro lF lN ?hsz (fun n t I oI C oC Dk ys m₂ hk tok E' hn hoC hxk Fk Nk offk nek => ?_) (fun ys Dk hk tok hys Fk Nk offk => ?_)); (case hsz => (rw [txt_length, dueN_length]; exact Nat.le_trans (many_le4 (by first | exact hl4.out | exact hr4.out) (by first | exact hl4.out | exact hr4.out)) (by decide))); (all_goals (try simp only [LCg.Off3, and_true] at offk)); (all_goals (try simp only [LCg.Off1, and_true] at offk)); (try clear lF); (try clear lN)))
  k_with "my unpack" => (k_here; (with_reducible show wpAny _ _ (assign (Expr.Tuple _ _ _) _ (Value.ref _)) _ _ _); k_dflt (refine' assign_row ?F ?N ?hh ?he ?hc ?ht ?hn ?hst ?_; (case F => k_asm); (case N => k_asm); (case hh => exact rfl); (case hc => exact hcalm); (case he => k_mem); (case ht => exact News.isTup (by k_asm) (by k_mem)); (case hn => exact rfl); (case hst => exact rfl); k_whole); intro hu Fu Nu)
  k_with "my room" => ((try simp only [depth_under_make, depth_under_kw, depth_in1, depth_deeper, depth_caller, units_in1, units_deeper, Around.mark_units, units_caller, claimMargin, recursionLimit, cLine]); first | decide | omega)
  k_steps
  all_goals first
    | (exact absurd ((codes_txt (dueN_pos hop hlc.out hrc.out _)).trans (law_due hop hlc.out hrc.out _).symm) (by assumption))
    | (rename Fr _ _ _ _ => Fz
       rename News _ _ _ _ => Nz
       exact turn_end hmap.out Fz Nz (by repeat (first | exact sub_same | refine sub_skip ?_)))
theorem turn_or {w : World} {mean : ExcName → Option Value} {mg mb : Str → Option Value} {h₀ : Heap} {L fa : Addr} {cdv : Value} {m₀ : Str → Option Value} {s : Shared}
    (B : Below callerA h₀ [] h₀) (F₀ : Fr h₀ L s.heap m₀) (X : (hd.heap_1 w.params).In h₀) (T : TOP mean mg mb h₀)
    (l r : List Int) {t0 t1 t2 : Tok} {aL aR dO : Addr} {lvs rvs : List Value} {oO : Obj} {rest : List (Addr × Obj)}
    (N : News h₀ L s.heap ((dO, oO) :: (aR, LCg.lst rvs) :: (aL, LCg.lst lvs) :: rest)) (hO : OpsAre w oO)
    (hm0 : m₀ (Str.ofString "word") = some (.str (Str.ofString "|") t0)) (hm1 : m₀ (Str.ofString "ops") = some (.ref dO)) (hm2 : m₀ (Str.ofString "one") = some (.str (txt l) t1)) (hm3 : m₀ (Str.ofString "other") = some (.str (txt r) t2)) (hm4 : m₀ (Str.ofString "right") = some (.ref aR)) (hm5 : m₀ (Str.ofString "left") = some (.ref aL))
    (hlv : IntsAre lvs l) (hrv : IntsAre rvs r) (hl4 : Fine (l.length ≤ 4)) (hr4 : Fine (r.length ≤ 4)) (hlc : Fine (∀ c ∈ l, c ∈ codes)) (hrc : Fine (∀ c ∈ r, c ∈ codes)) :
    wpAny (model PR w) (callerA.deeper (lawEnv w L fa cdv)) (execs (forBody w) (lawEnv w L fa cdv)) (TurnOut h₀ L m₀ ((dO, oO) :: (aR, LCg.lst rvs) :: (aL, LCg.lst lvs) :: rest) s) (fun _ _ => False) s := by
  obtain ⟨u0, u1, u2, u3, u4, w3, w4, hO⟩ := hO
  have hll := hlv.length
  have hop : IsOp (Str.ofString "|") := by unfold IsOp; decide
  have hrl := hrv.length
  have F := F₀
  have hmap := Fine.mk (map6 hm0 hm1 hm2 hm3 hm4 hm5)
  rw [map6 hm0 hm1 hm2 hm3 hm4 hm5] at F
  have hlS : s.heap.IsList aL lvs.toArray := News.isList N (List.Mem.tail _ (List.Mem.tail _ (List.Mem.head _)))
  clear hm0 hm1 hm2 hm3 hm4 hm5
  unfold forBody lawBody lawEnv lawScope lawX
  dsimp only
  clear F₀
  k_with_none
  k_with "my call" => ((fail_if_success (with_reducible show wpAny _ _ (call (Value.ref 372) _) _ _ _)); (fail_if_success (with_reducible show wpAny _ _ (call (Value.ref 369) _) _ _ _)); refine halt ?_)
  k_with "my elt" => (refine halt ?_)
  k_with "my comp" => (refine halt ?_)
  k_with "my note" => (refine halt ?_)
  k_with "my go" => (refine halt ?_)
  k_with "my call" => (k_here; (with_reducible show wpAny _ _ (call (Value.ref 396) _) _ _ _); (rename Fr _ _ _ _ => Fz); (rename News _ _ _ _ => Nz); k_dflt ((refine' wpAny_mono (c_due ?mB Fz ?mX ?mT ?mk ?mdp ?mun _ l r aL aR lvs rvs _ hl4 hr4 ?q1 hlv ?q2 hrv) ?_ (fun _ _ x => x)); (case mB => k_asm); (case mX => k_asm); (case mT => k_asm); (case mk => exact rfl); (case mdp => k_extra "my room"); (case mun => k_extra "my room"); (case q1 => exact News.isList Nz (by k_mem)); (case q2 => exact News.isList Nz (by k_mem)); intro vz sz hz; (obtain ⟨⟨h2, tk2, rfl, hk2⟩, hz2⟩ := hz); (have hk3 : ∀ b o, _ → h2.get? b = some o := fun b o => hk2 b o (fun hb => nomatch hb)); (have F2 := Fz.keeps hk3); (rcases hz2 with ⟨hfil, ad, vs2, c2, rfl, hn2, hs2, hv2⟩ | ⟨hfil, rfl⟩); (rotate_left); (have N2 := Nz.grown hk3); rotate_left; (have N2 := news_more Fz Nz hk3 hn2 hs2); (all_goals ((try clear hk3); (try clear hk2); (try clear Fz); (try clear Nz); (try dsimp only)))))
  k_with "my comp" => (k_here; (with_reducible show wpAny _ _ (exec (Stmt.Assign _ (Expr.ListComp _ _ _ _) _) _) _ _ _); (rename Fr _ _ _ _ => lF); (refine' Assign_ord lF ?hLe ?hsw ?hclos ?hcell ?hkind ?hnames ?hx ?hh ?hy ?hp ?hs ?_); (case hLe => with_unfolding_all rfl); (case hsw => with_unfolding_all rfl); (case hclos => with_unfolding_all rfl); (case hcell => decide); (case hkind => with_unfolding_all rfl); (case hnames => decide); (case hx => with_unfolding_all rfl); (case hh => with_unfolding_all rfl); (case hy => with_unfolding_all rfl); (case hp => with_unfolding_all rfl); (case hs => intro _; with_unfolding_all rfl))
  k_with "my cw" => (dsimp only)
  k_with "my call" => (k_here; (with_reducible show wpAny _ _ (call (Value.ref 340) _) _ _ _); (rename Fr _ _ _ _ => Fz); (rename News _ _ _ _ => Nz); k_dflt ((refine' wpAny_mono (c_op_or ?mB Fz ?mX ?mT ?mk ?mdp ?mun l r _ _ _ hl4.out hr4.out (codes_nonneg hlc.out) (codes_nonneg hrc.out) (due_pos hop hlc.out hrc.out)) ?_ (fun ez sz hz => False.elim (hz.1.elim fun i hi => filt_some hop hlc.out hrc.out hi.1 hi.2 hfil))); (case mB => k_asm); (case mX => k_asm); (case mT => k_asm); (case mk => exact rfl); (case mdp => k_extra "my room"); (case mun => k_extra "my room"); (intro vz sz hz); (obtain ⟨hle, ⟨h2, tk2, rfl, hk2⟩, t2, rfl⟩ := hz); (have hk3 : ∀ b o, _ → h2.get? b = some o := fun b o => hk2 b o (fun hb => nomatch hb)); (have F2 := Fz.keeps hk3); (have N2 := Nz.grown hk3);  (try clear hk3); (try clear hk2); (try clear Fz); (try clear Nz); (try dsimp only)))
  k_with "my call" => (k_here; (with_reducible show wpAny _ _ (call (Value.ref 340) _) _ _ _); (rename Fr _ _ _ _ => Fz); (rename News _ _ _ _ => Nz); k_dflt ((refine' wpAny_mono (c_op_or ?mB Fz ?mX ?mT ?mk ?mdp ?mun l r _ _ _ hl4.out hr4.out (codes_nonneg hlc.out) (codes_nonneg hrc.out) (due_pos hop hlc.out hrc.out)) (fun vz sz hz => absurd (filt_nil hop hlc.out hrc.out _ hz.1) hfil) ?_); (case mB => k_asm); (case mX => k_asm); (case mT => k_asm); (case mk => exact rfl); (case mdp => k_extra "my room"); (case mun => k_extra "my room"); (intro ez sz hz); (obtain ⟨hbad, e2, rfl, hup⟩ := hz); k_extra "my caught"))
  k_with "my call" => (k_here; (with_reducible show wpAny _ _ (call (Value.ref 298) _) _ _ _); (rename Fr _ _ _ _ => Fz); (rename News _ _ _ _ => Nz); k_dflt ((refine' wpAny_mono (c_bits_or ?mB Fz ?mX ?mT ?mk ?mdp ?mun r l _ _ _ hr4.out hl4.out (codes_nonneg hrc.out) (codes_nonneg hlc.out) (due_pos hop hrc.out hlc.out)) ?_ (fun ez sz hz => False.elim (hz.1.elim fun i hi => filt_some hop hlc.out hrc.out (many_swap _ l r ▸ hi.1) (dueAt_swap hop hlc.out hrc.out i ▸ hi.2) hfil))); (case mB => k_asm); (case mX => k_asm); (case mT => k_asm); (case mk => exact rfl); (case mdp => k_extra "my room"); (case mun => k_extra "my room"); (intro vz sz hz); (obtain ⟨hle, ⟨h2, tk2, rfl, hk2⟩, t2, rfl⟩ := hz); (rw [due_swap hop hlc.out hrc.out, many_swap]); (have hk3 : ∀ b o, _ → h2.get? b = some o := fun b o => hk2 b o (fun hb => nomatch hb)); (have F2 := Fz.keeps hk3); (have N2 := Nz.grown hk3);  (try clear hk3); (try clear hk2); (try clear Fz); (try clear Nz); (try dsimp only)))
  k_with "my elt" => ((rename Fr _ _ _ _ => Fz); (rename News _ _ _ _ => Nz); refine EltEnd.intro Fz Nz (fun p hp => hp) (by simp only [LCg.Off3, and_true]; assumption) ?_; k_dflt (exact ⟨rfl, _, rfl⟩))
  k_with "my caught" => (refine' caught_die ?he ?K ?F ?Nw hup ?X ?T ?ex ?hC ?_ ?hk ?hx ?hd PassesOwnAt.never; (case he => exact rfl); (case K => assumption); (case F => exact Fz); (case Nw => exact Nz); (case X => k_asm); (case T => k_asm); (case ex => k_is); (case hC => k_is); (case hk => exact rfl); (case hx => exact rfl); (case hd => decide); k_whole; intro hc tkc oec hcalm Fc Nc; (try clear hup); (try clear Fz); (try clear Nz); (try dsimp only))
  k_with "my go" => ((rename Fr _ _ _ _ => lF); (rename News _ _ _ _ => lN); k_dflt ((refine' OrdGo.intro lF lN ?hsz (fun n t I oI C oC Dk ys m₂ hk tok E' hn hoC hxk Fk Nk offk nek => ?_) (fun ys Dk hk tok hys Fk Nk offk => ?_)); (case hsz => (rw [txt_length, dueN_length]; exact Nat.le_trans (many_le4 (by first | exact hl4.out | exact hr4.out) (by first | exact hl4.out | exact hr4.out)) (by decide))); (all_goals (try simp only [LCg.Off3, and_true] at offk)); (all_goals (try simp only [LCg.Off1, and_true] at offk)); (try clear lF); (try clear lN)))
  k_with "my unpack" => (k_here; (with_reducible show wpAny _ _ (assign (Expr.Tuple _ _ _) _ (Value.ref _)) _ _ _); k_dflt (refine' assign_row ?F ?N ?hh ?he ?hc ?ht ?hn ?hst ?_; (case F => k_asm); (case N => k_asm); (case hh => exact rfl); (case hc => exact hcalm); (case he => k_mem); (case ht => exact News.isTup (by k_asm) (by k_mem)); (case hn => exact rfl); (case hst => exact rfl); k_whole); intro hu Fu Nu)
  k_with "my room" => ((try simp only [depth_under_make, depth_under_kw, depth_in1, depth_deeper, depth_caller, units_in1, units_deeper, Around.mark_units, units_caller, claimMargin, recursionLimit, cLine]); first | decide | omega)
  k_steps
  all_goals first
    | (exact absurd ((codes_txt (dueN_pos hop hlc.out hrc.out _)).trans (law_due hop hlc.out hrc.out _).symm) (by assumption))
    | (rename Fr _ _ _ _ => Fz
       rename News _ _ _ _ => Nz
       exact turn_end hmap.out Fz Nz (by repeat (first | exact sub_same | refine sub_skip ?_)))
theorem turn_xor {w : World} {mean : ExcName → Option Value} {mg mb : Str → Option Value} {h₀ : Heap} {L fa : Addr} {cdv : Value} {m₀ : Str → Option Value} {s : Shared}
    (B : Below callerA h₀ [] h₀) (F₀ : Fr h₀ L s.heap m₀) (X : (hd.heap_1 w.params).In h₀) (T : TOP mean mg mb h₀)
    (l r : List Int) {t0 t1 t2 : Tok} {aL aR dO : Addr} {lvs rvs : List Value} {oO : Obj} {rest : List (Addr × Obj)}
    (N : News h₀ L s.heap ((dO, oO) :: (aR, LCg.lst rvs) :: (aL, LCg.lst lvs) :: rest)) (hO : OpsAre w oO)
    (hm0 : m₀ (Str.ofString "word") = some (.str (Str.ofString "^") t0)) (hm1 : m₀ (Str.ofString "ops") = some (.ref dO)) (hm2 : m₀ (Str.ofString "one") = some (.str (txt l) t1)) (hm3 : m₀ (Str.ofString "other") = some (.str (txt r) t2)) (hm4 : m₀ (Str.ofString "right") = some (.ref aR)) (hm5 : m₀ (Str.ofString "left") = some (.ref aL))
    (hlv : IntsAre lvs l) (hrv : IntsAre rvs r) (hl4 : Fine (l.length ≤ 4)) (hr4 : Fine (r.length ≤ 4)) (hlc : Fine (∀ c ∈ l, c ∈ codes)) (hrc : Fine (∀ c ∈ r, c ∈ codes)) :
    wpAny (model PR w) (callerA.deeper (lawEnv w L fa cdv)) (execs (forBody w) (lawEnv w L fa cdv)) (TurnOut h₀ L m₀ ((dO, oO) :: (aR, LCg.lst rvs) :: (aL, LCg.lst lvs) :: rest) s) (fun _ _ => False) s := by
  obtain ⟨u0, u1, u2, u3, u4, w3, w4, hO⟩ := hO
  have hll := hlv.length
  have hop : IsOp (Str.ofString "^") := by unfold IsOp; decide
  have hrl := hrv.length
  have F := F₀
  have hmap := Fine.mk (map6 hm0 hm1 hm2 hm3 hm4 hm5)
  rw [map6 hm0 hm1 hm2 hm3 hm4 hm5] at F
  have hlS : s.heap.IsList aL lvs.toArray := News.isList N (List.Mem.tail _ (List.Mem.tail _ (List.Mem.head _)))
  clear hm0 hm1 hm2 hm3 hm4 hm5
  unfold forBody lawBody lawEnv lawScope lawX
  dsimp only
  clear F₀
  k_with_none
  k_with "my call" => ((fail_if_success (with_reducible show wpAny _ _ (call (Value.ref 372) _) _ _ _)); (fail_if_success (with_reducible show wpAny _ _ (call (Value.ref 369) _) _ _ _)); refine halt ?_)
  k_with "my elt" => (refine halt ?_)
  k_with "my comp" => (refine halt ?_)
  k_with "my note" => (refine halt ?_)
  k_with "my go" => (refine halt ?_)
  k_with "my call" => (k_here; (with_reducible show wpAny _ _ (call (Value.ref 396) _) _ _ _); (rename Fr _ _ _ _ => Fz); (rename News _ _ _ _ => Nz); k_dflt ((refine' wpAny_mono (c_due ?mB Fz ?mX ?mT ?mk ?mdp ?mun _ l r aL aR lvs rvs _ hl4 hr4 ?q1 hlv ?q2 hrv) ?_ (fun _ _ x => x)); (case mB => k_asm); (case mX => k_asm); (case mT => k_asm); (case mk => exact rfl); (case mdp => k_extra "my room"); (case mun => k_extra "my room"); (case q1 => exact News.isList Nz (by k_mem)); (case q2 => exact News.isList Nz (by k_mem)); intro vz sz hz; (obtain ⟨⟨h2, tk2, rfl, hk2⟩, hz2⟩ := hz); (have hk3 : ∀ b o, _ → h2.get? b = some o := fun b o => hk2 b o (fun hb => nomatch hb)); (have F2 := Fz.keeps hk3); (rcases hz2 with ⟨hfil, ad, vs2, c2, rfl, hn2, hs2, hv2⟩ | ⟨hfil, rfl⟩); (rotate_left); (have N2 := Nz.grown hk3); rotate_left; (have N2 := news_more Fz Nz hk3 hn2 hs2); (all_goals ((try clear hk3); (try clear hk2); (try clear Fz); (try clear Nz); (try dsimp only)))))
  k_with "my comp" => (k_here; (with_reducible show wpAny _ _ (exec (Stmt.Assign _ (Expr.ListComp _ _ _ _) _) _) _ _ _); (rename Fr _ _ _ _ => lF); (refine' Assign_ord lF ?hLe ?hsw ?hclos ?hcell ?hkind ?hnames ?hx ?hh ?hy ?hp ?hs ?_); (case hLe => with_unfolding_all rfl); (case hsw => with_unfolding_all rfl); (case hclos => with_unfolding_all rfl); (case hcell => decide); (case hkind => with_unfolding_all rfl); (case hnames => decide); (case hx => with_unfolding_all rfl); (case hh => with_unfolding_all rfl); (case hy => with_unfolding_all rfl); (case hp => with_unfolding_all rfl); (case hs => intro _; with_unfolding_all rfl))
  k_with "my cw" => (dsimp only)
  k_with "my call" => (k_here; (with_reducible show wpAny _ _ (call (Value.ref 347) _) _ _ _); (rename Fr _ _ _ _ => Fz); (rename News _ _ _ _ => Nz); k_dflt ((refine' wpAny_mono (c_op_xor ?mB Fz ?mX ?mT ?mk ?mdp ?mun l r _ _ _ hl4.out hr4.out (codes_nonneg hlc.out) (codes_nonneg hrc.out) (due_pos hop hlc.out hrc.out)) ?_ (fun ez sz hz => False.elim (hz.1.elim fun i hi => filt_some hop hlc.out hrc.out hi.1 hi.2 hfil))); (case mB => k_asm); (case mX => k_asm); (case mT => k_asm); (case mk => exact rfl); (case mdp => k_extra "my room"); (case mun => k_extra "my room"); (intro vz sz hz); (obtain ⟨hle, ⟨h2, tk2, rfl, hk2⟩, t2, rfl⟩ := hz); (have hk3 : ∀ b o, _ → h2.get? b = some o := fun b o => hk2 b o (fun hb => nomatch hb)); (have F2 := Fz.keeps hk3); (have N2 := Nz.grown hk3);  (try clear hk3); (try clear hk2); (try clear Fz); (try clear Nz); (try dsimp only)))
  k_with "my call" => (k_here; (with_reducible show wpAny _ _ (call (Value.ref 347) _) _ _ _); (rename Fr _ _ _ _ => Fz); (rename News _ _ _ _ => Nz); k_dflt ((refine' wpAny_mono (c_op_xor ?mB Fz ?mX ?mT ?mk ?mdp ?mun l r _ _ _ hl4.out hr4.out (codes_nonneg hlc.out) (codes_nonneg hrc.out) (due_pos hop hlc.out hrc.out)) (fun vz sz hz => absurd (filt_nil hop hlc.out hrc.out _ hz.1) hfil) ?_); (case mB => k_asm); (case mX => k_asm); (case mT => k_asm); (case mk => exact rfl); (case mdp => k_extra "my room"); (case mun => k_extra "my room"); (intro ez sz hz); (obtain ⟨hbad, e2, rfl, hup⟩ := hz); k_extra "my caught"))
  k_with "my call" => (k_here; (with_reducible show wpAny _ _ (call (Value.ref 298) _) _ _ _); (rename Fr _ _ _ _ => Fz); (rename News _ _ _ _ => Nz); k_dflt ((refine' wpAny_mono (c_bits_xor ?mB Fz ?mX ?mT ?mk ?mdp ?mun r l _ _ _ hr4.out hl4.out (codes_nonneg hrc.out) (codes_nonneg hlc.out) (due_pos hop hrc.out hlc.out)) ?_ (fun ez sz hz => False.elim (hz.1.elim fun i hi => filt_some hop hlc.out hrc.out (many_swap _ l r ▸ hi.1) (dueAt_swap hop hlc.out hrc.out i ▸ hi.2) hfil))); (case mB => k_asm); (case mX => k_asm); (case mT => k_asm); (case mk => exact rfl); (case mdp => k_extra "my room"); (case mun => k_extra "my room"); (intro vz sz hz); (obtain ⟨hle, ⟨h2, tk2, rfl, hk2⟩, t2, rfl⟩ := hz); (rw [due_swap hop hlc.out hrc.out, many_swap]); (have hk3 : ∀ b o, _ → h2.get? b = some o := fun b o => hk2 b o (fun hb => nomatch hb)); (have F2 := Fz.keeps hk3); (have N2 := Nz.grown hk3);  (try clear hk3); (try clear hk2); (try clear Fz); (try clear Nz); (try dsimp only)))
  k_with "my elt" => ((rename Fr _ _ _ _ => Fz); (rename News _ _ _ _ => Nz); refine EltEnd.intro Fz Nz (fun p hp => hp) (by simp only [LCg.Off3, and_true]; assumption) ?_; k_dflt (exact ⟨rfl, _, rfl⟩))
  k_with "my caught" => (refine' caught_die ?he ?K ?F ?Nw hup ?X ?T ?ex ?hC ?_ ?hk ?hx ?hd PassesOwnAt.never; (case he => exact rfl); (case K => assumption); (case F => exact Fz); (case Nw => exact Nz); (case X => k_asm); (case T => k_asm); (case ex => k_is); (case hC => k_is); (case hk => exact rfl); (case hx => exact rfl); (case hd => decide); k_whole; intro hc tkc oec hcalm Fc Nc; (try clear hup); (try clear Fz); (try clear Nz); (try dsimp only))
  k_with "my go" => ((rename Fr _ _ _ _ => lF); (rename News _ _ _ _ => lN); k_dflt ((refine' OrdGo.intro lF lN ?hsz (fun n t I oI C oC Dk ys m₂ hk tok E' hn hoC hxk Fk Nk offk nek => ?_) (fun ys Dk hk tok hys Fk Nk offk => ?_)); (case hsz => (rw [txt_length, dueN_length]; exact Nat.le_trans (many_le4 (by first | exact hl4.out | exact hr4.out) (by first | exact hl4.out | exact hr4.out)) (by decide))); (all_goals (try simp only [LCg.Off3, and_true] at offk)); (all_goals (try simp only [LCg.Off1, and_true] at offk)); (try clear lF); (try clear lN)))
  k_with "my unpack" => (k_here; (with_reducible show wpAny _ _ (assign (Expr.Tuple _ _ _) _ (Value.ref _)) _ _ _); k_dflt (refine' assign_row ?F ?N ?hh ?he ?hc ?ht ?hn ?hst ?_; (case F => k_asm); (case N => k_asm); (case hh => exact rfl); (case hc => exact hcalm); (case he => k_mem); (case ht => exact News.isTup (by k_asm) (by k_mem)); (case hn => exact rfl); (case hst => exact rfl); k_whole); intro hu Fu Nu)
  k_with "my room" => ((try simp only [depth_under_make, depth_under_kw, depth_in1, depth_deeper, depth_caller, units_in1, units_deeper, Around.mark_units, units_caller, claimMargin, recursionLimit, cLine]); first | decide | omega)
  k_steps
  all_goals first
    | (exact absurd ((codes_txt (dueN_pos hop hlc.out hrc.out _)).trans (law_due hop hlc.out hrc.out _).symm) (by assumption))
    | (rename Fr _ _ _ _ => Fz
       rename News _ _ _ _ => Nz
       exact turn_end hmap.out Fz Nz (by repeat (first | exact sub_same | refine sub_skip ?_)))
end Mine
-- part LC
namespace Mine
example : True := by
  w_top off
  trivial
set_option maxRecDepth 100000
set_option maxHeartbeats 8000000
example : PySem.Challenge.rw_qz0090_01 = PySem.Challenge.rw_qz0090_01 ∧ hd.heap_1 = hd.heap_1 := by
  k_fill
  exact ⟨rfl, rfl⟩
local macro_rules | `(tactic| walk_at "exec Assign cons ListComp") => `(tactic| k_extra "my comp")
local macro_rules | `(tactic| walk_at "DrawGo") => `(tactic| k_extra "my go")
local macro_rules | `(tactic| walk_at "call ref") => `(tactic| k_extra "my call")
local macro_rules | `(tactic| walk_at "EltEnd") => `(tactic| k_extra "my elt")
local macro_rules | `(tactic| walk_at "eval ListComp") => `(tactic| k_extra "my map")
local macro_rules | `(tactic| walk_at "MapGo") => `(tactic| k_extra "my mapgo")
local macro_rules | `(tactic| walk_at "call builtin:chr") => `(tactic| k_extra "my chr")
local macro_rules | `(tactic| walk_at "call builtin:str.join") => `(tactic| k_extra "my join")
local macro_rules | `(tactic| walk_at "execs cons") => `(tactic| k_extra "my turn")
local macro_rules | `(tactic| walk_at "UnrEndW") => `(tactic| k_extra "my unr")
local macro_rules | `(tactic| walk_at "subscriptTail") => `(tactic| k_extra "my sign")
noncomputable def restBody (w : World) : List Stmt := (lawBody w).drop 6
theorem rest_end {h₀ h : Heap} {L : Addr} {m : Str → Option Value} {s : Shared} {tk : Nat} {α : Type} [BEq α] [ReflBEq α] {a : α} (F : Fr h₀ L h m) : Fine (∃ h' tk' m', Flow.ret (Value.bool (a == a)) = Flow.ret (Value.bool true) ∧ ({ s with heap := h, toks := tk } : Shared) = { s with heap := h', toks := tk' } ∧ Fr h₀ L h' m') := ⟨h, tk, m, by rw [beq_self_eq_true], rfl, F⟩
theorem law_rest {w : World} {mean : ExcName → Option Value} {mg mb : Str → Option Value} {h₀ : Heap} {L fa : Addr} {cdv : Value} {m : Str → Option Value} {s : Shared}
    (B : Below callerA h₀ [] h₀) (F : Fr h₀ L s.heap m) (X : (hd.heap_1 w.params).In h₀) (T : TOP mean mg mb h₀)
    {D d : Addr} {o oC : Obj} {k : Int} {ws : List Value} {cells : List Int} {c : Nat}
    (N : News h₀ L s.heap [(D, W.listOf ws.toArray c), (d, o), (L + 1, oC)]) (hcell : oC.data = Data.cell (some (Value.ref d))) (hd0 : TinIs w D k o) (hk0 : 0 ≤ k) (hk1 : k ≤ 100) (hli : IntsAre ws cells) (hlen : cells.length ≤ 1000) (o1 : D ≠ d) (o2 : L + 1 ≠ d) (o3 : D ≠ L + 1) :
    wpAny (model PR w) (callerA.deeper (lawEnv w L fa cdv)) (execs (restBody w) (lawEnv w L fa cdv)) (fun f s' => Fine (∃ h' tk m', f = .ret (.bool true) ∧ s' = { s with heap := h', toks := tk } ∧ Fr h₀ L h' m')) (fun _ _ => False) s := by
  have q1 : @Ne Nat D d := o1
  have q2 : @Ne Nat (L + 1) d := o2
  have q3 : @Ne Nat D (L + 1) := o3
  unfold restBody lawBody lawEnv lawScope lawX
  dsimp only [List.drop]
  k_with "my map" => (refine halt ?_)
  k_with "my mapgo" => (refine halt ?_)
  k_with "my chr" => (refine halt ?_)
  k_with "my join" => (refine halt ?_)
  k_with "my go" => (refine halt ?_)
  k_with "my comp" => (refine halt ?_)
  k_with "my elt" => (refine halt ?_)
  k_with "my call" => ((fail_if_success (with_reducible show wpAny _ _ (call (Value.ref 354) _) _ _ _)); (fail_if_success (with_reducible show wpAny _ _ (call (Value.ref 372) _) _ _ _)); (fail_if_success (with_reducible show wpAny _ _ (call (Value.ref 369) _) _ _ _)); refine halt ?_)
  k_with "my room" => ((try simp only [depth_under_make, depth_under_kw, depth_in1, depth_deeper, depth_caller, units_in1, units_deeper, Around.mark_units, units_caller, claimMargin, recursionLimit, cLine]); first | decide | omega)
  k_with "my tin" => (first | assumption | k_dflt (exact tin_start (by assumption)))
  k_with "my call" => (k_here; (with_reducible show wpAny _ _ (call (Value.ref 384) _) _ _ _); k_dflt (refine' nip_row _ ?hm ?B ?F ?X ?T ?hk ?hdp ?hun ?N ?U ?hd0 ?hk0 ?hk1 ?hDm ?hli ?hlen ?hne ?_; (case hm => decide); (case B => k_asm); (case F => k_asm); (case X => k_asm); (case T => k_asm); (case hk => exact rfl); (case hdp => k_extra "my room"); (case hun => k_extra "my room"); (case N => k_asm); (case U => k_updF); (case hd0 => k_extra "my tin"); (case hk0 => omega); (case hk1 => omega); (case hDm => k_mem); (case hli => assumption); (case hlen => omega); (case hne => k_ne); k_whole); intro rz tz oz hz tkz hr0 hr1 hdz Fz Nz; (try dsimp only at Nz); (try dsimp only))
  k_with "my comp" => (k_here; (rename Fr _ _ _ _ => lF); (rename News _ _ _ _ => lN); (refine' Assign_draw CodesAre lF lN ?hC ?hU ?hd ?hLe ?hsw ?hclos ?hcell ?hkind ?hnames ?hx ?hh ?hy ?hp ?hs ?_); (case hC => assumption); (case hU => k_updF); (case hd => k_extra "my tin"); (case hLe => with_unfolding_all rfl); (case hsw => with_unfolding_all rfl); (case hclos => with_unfolding_all rfl); (case hcell => decide); (case hkind => with_unfolding_all rfl); (case hnames => decide); (case hx => with_unfolding_all rfl); (case hh => with_unfolding_all rfl); (case hy => with_unfolding_all rfl); (case hp => with_unfolding_all rfl); (case hs => intro _; with_unfolding_all rfl))
  k_with "my go" => ((rename Fr _ _ _ _ => lF); (rename News _ _ _ _ => lN); (rename IsRange _ _ _ _ _ _ _ _ => rgX); k_dflt (refine' DrawGo.intro lF lN rgX ?b0 ?b1 ?hI (fun i ys nk tk I oI C oC Dk m₂ hk tok E' hik hIk hoC hxk Fk Nk offk nek => ?_) (fun ys nk Dk hk tok hIk Fk Nk offk => ?_); (case b0 => omega); (case b1 => omega); (case hI => exact DrawJ.intro rfl (by assumption) (by omega) (by omega) signs_nil); (all_goals (obtain ⟨oi, ki, rfl, hdi, hi0, hi1, hys⟩ := hIk)); (all_goals (try simp only [LCg.Off3, and_true] at offk)); (all_goals (try simp only [LCg.Off1, and_true] at offk)); (all_goals (try dsimp only at Nk)); (all_goals (first | (have _ := hik; skip) | (obtain ⟨lT, hlzT, hllT, hlcT⟩ := hys))); (try clear lF); (try clear lN)))
  k_with "my elt" => ((rename Fr _ _ _ _ => Fz); (rename News _ _ _ _ => Nz); refine EltEnd.intro Fz Nz (fun p hp => hp) (by simp only [LCg.Off3, and_true]; assumption) ?_; k_dflt (exact DrawJ.intro rfl (by assumption) (by omega) (by omega) (signs_snoc hys (by assumption))))
  k_with "my map" => (k_here; (with_reducible show wpAny _ _ (eval (Expr.ListComp (Expr.Call _ _ _ _) _ _ _) _) _ _ _); (rename Fr _ _ _ _ => lF); (refine' ListComp_map oneC lF ?hclos ?hcell ?hkind ?hnames ?hx ?hh ?hs ?_); (case hclos => with_unfolding_all rfl); (case hcell => decide); (case hkind => with_unfolding_all rfl); (case hnames => decide); (case hx => with_unfolding_all rfl); (case hh => with_unfolding_all rfl); (case hs => intro _; with_unfolding_all rfl))
  k_with "my mapgo" => ((rename Fr _ _ _ _ => lF); (rename News _ _ _ _ => lN); k_dflt ((refine' MapGo.intro lF lN ?hm ?hv ?hsz (fun n t I oI C oC Dk ys m₂ hk tok E' hn hoC hxk Fk Nk offk nek => ?_) (fun ys Dk hk tok hys Fk Nk offk => ?_)); (case hm => k_mem); (case hv => assumption); (case hsz => omega); (all_goals (try simp only [LCg.Off3, and_true] at offk)); (all_goals (try simp only [LCg.Off1, and_true] at offk)); (try clear lF); (try clear lN)))
  k_with "my chr" => (refine chr_of_range ?c0 ?c1 ?_; (case c0 => exact (codes_range (by first | exact hlcL _ (by assumption) | exact hlcR _ (by assumption))).1); (case c1 => (have hcr := codes_range (by first | exact hlcL _ (by assumption) | exact hlcR _ (by assumption))); omega))
  k_with "my elt" => ((rename Fr _ _ _ _ => Fz); (rename News _ _ _ _ => Nz); refine EltEnd.intro Fz Nz (fun p hp => hp) (by simp only [LCg.Off3, and_true]; assumption) ?_; k_dflt (exact ⟨rfl, _, rfl⟩))
  k_with "my join" => (k_here; (with_reducible show wpAny _ _ (call (Value.builtin _) [Value.str _ _, Value.ref _]) _ _ _); k_dflt (refine' join_codes ?jl ?ji ?jn ?_; (case jl => exact News.isList (by k_asm) (by k_mem)); (case ji => assumption); (case jn => omega)); intro tj kj)
  k_with "my call" => (k_here; (with_reducible show wpAny _ _ (call (Value.ref 291) _) _ _ _); k_dflt (refine' neg_row ?mB ?mF ?mX ?mT ?mk ?mdp ?mun ?mN ?mx ?m1 ?m2 ?_ ?_; (case mB => k_asm); (case mF => k_asm); (case mX => k_asm); (case mT => k_asm); (case mk => exact rfl); (case mdp => k_extra "my room"); (case mun => k_extra "my room"); (case mN => k_asm); (case mx => (rw [txt_length]; omega)); (case m1 => k_mem); (case m2 => k_mem); k_whole); (all_goals (intro nV tV hV tkV hnV FV NV; (try dsimp only))))
  k_with "my call" => (k_here; (with_reducible show wpAny _ _ (call (Value.ref 401) _) _ _ _); k_dflt (refine' min_int ?mB ?mF ?mX ?mT ?mk ?mdp ?mun ?mN hlcT ?m4 hnV ?_; (case mB => k_asm); (case mF => k_asm); (case mX => k_asm); (case mT => k_asm); (case mk => exact rfl); (case mdp => k_extra "my room"); (case mun => k_extra "my room"); (case mN => k_asm); (case m4 => omega); k_whole); intro tM hM tkM FM NM; (try dsimp only))
  k_with "my call" => (k_here; (with_reducible show wpAny _ _ (call (Value.ref 401) _) _ _ _); k_dflt (refine' min_str ?mB ?mF ?mX ?mT ?mk ?mdp ?mun ?mN hlcT ?m4 hnV ?_; (case mB => k_asm); (case mF => k_asm); (case mX => k_asm); (case mT => k_asm); (case mk => exact rfl); (case mdp => k_extra "my room"); (case mun => k_extra "my room"); (case mN => k_asm); (case m4 => omega); k_whole); intro tM hM tkM FM NM; (try dsimp only))
  k_with "my map" => (k_here; (with_reducible show wpAny _ _ (eval (Expr.ListComp (Expr.Subscript _ _ _) _ _ _) _) _ _ _); (rename Fr _ _ _ _ => lF); (rename News _ _ _ _ => lN); (refine' eval_draw SignsAre lF lN ?hC ?hU ?hd ?hclos ?hcell ?hkind ?hnames ?hx ?hh ?hs ?_); (case hC => assumption); (case hU => k_updF); (case hd => k_extra "my tin"); (case hclos => with_unfolding_all rfl); (case hcell => decide); (case hkind => with_unfolding_all rfl); (case hnames => decide); (case hx => with_unfolding_all rfl); (case hh => with_unfolding_all rfl); (case hs => intro _; with_unfolding_all rfl))
  k_with "my sign" => (k_here; (with_reducible show wpAny _ _ (subscriptTail _ _ (Value.str _ _) (Value.int _ _)) _ _ _); k_dflt (refine' item_sign ?h0 ?h1 ?_; (case h0 => omega); (case h1 => omega)); intro cz tz kz hcz)
  k_steps
  all_goals exact rest_end FM
end Mine
-- part LB
namespace Mine
example : True := by
  w_top off
  trivial
set_option maxRecDepth 100000
set_option maxHeartbeats 8000000
example : PySem.Challenge.rw_qz0090_01 = PySem.Challenge.rw_qz0090_01 ∧ hd.heap_1 = hd.heap_1 := by
  k_fill
  exact ⟨rfl, rfl⟩
local macro_rules | `(tactic| walk_at "UnrEndW") => `(tactic| k_extra "my unr")
local macro_rules | `(tactic| walk_at "execs cons") => `(tactic| k_extra "my turn")
theorem unr_end {h₀ h' : Heap} {L : Addr} {m' : Str → Option Value} {s₁ : Shared} {tk : Nat} {p : Addr × Obj} {nw : List (Addr × Obj)} {rest : (Str → Option Value) → List (Addr × Obj) → Prop} (F : Fr h₀ L h' m') (N : News h₀ L h' (p :: nw)) (off : ∀ q ∈ nw, q.1 ≠ p.1) (r : rest m' nw) : UnrEndW h₀ L s₁ [p] rest { s₁ with heap := h', toks := tk } :=
  ⟨h', tk, m', nw, rfl, F, N, fun a ha q hq => by rw [List.mem_singleton.mp hq]; exact off a ha, r⟩
theorem news3 {h₀ h : Heap} {L : Addr} {nw : List (Addr × Obj)} {a b c : Addr × Obj} (N : News h₀ L h nw) (h1 : a ∈ nw) (h2 : b ∈ nw) (h3 : c ∈ nw) : News h₀ L h [a, b, c] := fun p hp => by
  rcases List.mem_cons.mp hp with rfl | hp
  · exact N _ h1
  rcases List.mem_cons.mp hp with rfl | hp
  · exact N _ h2
  rw [List.mem_singleton.mp hp]
  exact N _ h3
noncomputable def loopBody (w : World) : List Stmt := (lawBody w).drop 5
theorem map5 {m : Str → Option Value} {v1 v2 v3 v4 v5 : Value} (h1 : m (Str.ofString "ops") = some v1) (h2 : m (Str.ofString "one") = some v2) (h3 : m (Str.ofString "other") = some v3) (h4 : m (Str.ofString "right") = some v4) (h5 : m (Str.ofString "left") = some v5) :
    m = fun z => if z = Str.ofString "ops" then some v1 else if z = Str.ofString "one" then some v2 else if z = Str.ofString "other" then some v3 else if z = Str.ofString "right" then some v4 else if z = Str.ofString "left" then some v5 else m z := by
  funext z
  by_cases e1 : z = Str.ofString "ops"
  · rw [if_pos e1, e1, h1]
  rw [if_neg e1]
  by_cases e2 : z = Str.ofString "one"
  · rw [if_pos e2, e2, h2]
  rw [if_neg e2]
  by_cases e3 : z = Str.ofString "other"
  · rw [if_pos e3, e3, h3]
  rw [if_neg e3]
  by_cases e4 : z = Str.ofString "right"
  · rw [if_pos e4, e4, h4]
  rw [if_neg e4]
  by_cases e5 : z = Str.ofString "left"
  · rw [if_pos e5, e5, h5]
  rw [if_neg e5]
theorem law_loop {w : World} {mean : ExcName → Option Value} {mg mb : Str → Option Value} {h₀ : Heap} {L fa : Addr} {cdv : Value} {m₀ : Str → Option Value} {s : Shared}
    (B : Below callerA h₀ [] h₀) (F₀ : Fr h₀ L s.heap m₀) (X : (hd.heap_1 w.params).In h₀) (T : TOP mean mg mb h₀)
    (lL lR : List Int) {t1 t2 : Tok} {aL aR dO D d : Addr} {lvs rvs : List Value} {oO o oC : Obj} {k : Int} {ws : List Value} {cells : List Int} {c : Nat}
    (N : News h₀ L s.heap [(dO, oO), (aR, LCg.lst rvs), (aL, LCg.lst lvs), (D, W.listOf ws.toArray c), (d, o), (L + 1, oC)]) (hO : OpsAre w oO)
    (hm1 : m₀ (Str.ofString "ops") = some (.ref dO)) (hm2 : m₀ (Str.ofString "one") = some (.str (txt lL) t1)) (hm3 : m₀ (Str.ofString "other") = some (.str (txt lR) t2)) (hm4 : m₀ (Str.ofString "right") = some (.ref aR)) (hm5 : m₀ (Str.ofString "left") = some (.ref aL))
    (hlzL : IntsAre lvs lL) (hlzR : IntsAre rvs lR) (hl4 : Fine (lL.length ≤ 4)) (hr4 : Fine (lR.length ≤ 4)) (hlcL : Fine (∀ c ∈ lL, c ∈ codes)) (hlcR : Fine (∀ c ∈ lR, c ∈ codes))
    (hcell : oC.data = Data.cell (some (Value.ref d))) (hd0 : TinIs w D k o) (hk0 : 0 ≤ k) (hk1 : k ≤ 100) (hli : IntsAre ws cells) (hlen : cells.length ≤ 1000) (o1 : D ≠ d) (o2 : L + 1 ≠ d) (o3 : D ≠ L + 1) :
    wpAny (model PR w) (callerA.deeper (lawEnv w L fa cdv)) (execs (loopBody w) (lawEnv w L fa cdv)) (fun f s' => Fine (∃ h' tk m', f = .ret (.bool true) ∧ s' = { s with heap := h', toks := tk } ∧ Fr h₀ L h' m')) (fun _ _ => False) s := by
  have q1 : @Ne Nat D d := o1
  have q2 : @Ne Nat (L + 1) d := o2
  have q3 : @Ne Nat D (L + 1) := o3
  have F := F₀
  rw [map5 hm1 hm2 hm3 hm4 hm5] at F
  clear hm1 hm2 hm3 hm4 hm5 F₀
  unfold loopBody lawBody lawEnv lawScope lawX
  dsimp only [List.drop]
  k_with_none
  k_with "my turn" => ((with_reducible show wpAny _ _ (execs (Stmt.Assign [Expr.Name _ _] _ _ :: _) _) _ _ _); refine halt ?_)
  k_with "my room" => ((try simp only [depth_under_make, depth_under_kw, depth_in1, depth_deeper, depth_caller, units_in1, units_deeper, Around.mark_units, units_caller, claimMargin, recursionLimit, cLine]); first | decide | omega)
  k_with "my turn" => (k_here; (with_reducible show wpAny _ _ (execs (Stmt.Assign [Expr.Name (Str.ofString "due") _] _ _ :: _) _) _ _ _); (rename Fr _ _ _ _ => Fz); (rename News _ _ _ _ => Nz); k_dflt ((refine' wpAny_mono (turn_and (l := lL) (r := lR) ?B Fz ?X ?T ?N ?hO ?m0 ?m1 ?m2 ?m3 ?m4 ?m5 hlzL hlzR ?l4 ?r4 hlcL hlcR) ?_ (fun _ _ x => x.elim)); (case m0 => with_unfolding_all rfl); (case m1 => with_unfolding_all rfl); (case m2 => with_unfolding_all rfl); (case m3 => with_unfolding_all rfl); (case m4 => with_unfolding_all rfl); (case m5 => with_unfolding_all rfl); (case B => k_asm); (case X => k_asm); (case T => k_asm); (case N => exact news_put Nz (by k_mem) (by k_mem) (by k_mem)); (case hO => exact hO); (case l4 => exact hl4); (case r4 => exact hr4); intro fz sz hz; (obtain ⟨rfl, h2, tk2, v1, v2, v3, rfl, F2, N2⟩ := hz); (have N3 := news_drop3 N2); (try clear N2); (try clear Fz); (try clear Nz); (try dsimp only)))
  k_with "my turn" => (k_here; (with_reducible show wpAny _ _ (execs (Stmt.Assign [Expr.Name (Str.ofString "due") _] _ _ :: _) _) _ _ _); (rename Fr _ _ _ _ => Fz); (rename News _ _ _ _ => Nz); k_dflt ((refine' wpAny_mono (turn_or (l := lL) (r := lR) ?B Fz ?X ?T ?N ?hO ?m0 ?m1 ?m2 ?m3 ?m4 ?m5 hlzL hlzR ?l4 ?r4 hlcL hlcR) ?_ (fun _ _ x => x.elim)); (case m0 => with_unfolding_all rfl); (case m1 => with_unfolding_all rfl); (case m2 => with_unfolding_all rfl); (case m3 => with_unfolding_all rfl); (case m4 => with_unfolding_all rfl); (case m5 => with_unfolding_all rfl); (case B => k_asm); (case X => k_asm); (case T => k_asm); (case N => exact news_put Nz (by k_mem) (by k_mem) (by k_mem)); (case hO => exact hO); (case l4 => exact hl4); (case r4 => exact hr4); intro fz sz hz; (obtain ⟨rfl, h2, tk2, v1, v2, v3, rfl, F2, N2⟩ := hz); (have N3 := news_drop3 N2); (try clear N2); (try clear Fz); (try clear Nz); (try dsimp only)))
  k_with "my turn" => (k_here; (with_reducible show wpAny _ _ (execs (Stmt.Assign [Expr.Name (Str.ofString "due") _] _ _ :: _) _) _ _ _); (rename Fr _ _ _ _ => Fz); (rename News _ _ _ _ => Nz); k_dflt ((refine' wpAny_mono (turn_xor (l := lL) (r := lR) ?B Fz ?X ?T ?N ?hO ?m0 ?m1 ?m2 ?m3 ?m4 ?m5 hlzL hlzR ?l4 ?r4 hlcL hlcR) ?_ (fun _ _ x => x.elim)); (case m0 => with_unfolding_all rfl); (case m1 => with_unfolding_all rfl); (case m2 => with_unfolding_all rfl); (case m3 => with_unfolding_all rfl); (case m4 => with_unfolding_all rfl); (case m5 => with_unfolding_all rfl); (case B => k_asm); (case X => k_asm); (case T => k_asm); (case N => exact news_put Nz (by k_mem) (by k_mem) (by k_mem)); (case hO => exact hO); (case l4 => exact hl4); (case r4 => exact hr4); intro fz sz hz; (obtain ⟨rfl, h2, tk2, v1, v2, v3, rfl, F2, N2⟩ := hz); (have N3 := news_drop3 N2); (try clear N2); (try clear Fz); (try clear Nz); (try dsimp only)))
  k_with "my turn" => (k_here; (with_reducible show wpAny _ _ (execs (Stmt.Assign [Expr.Name (Str.ofString "text") _] _ _ :: _) _) _ _ _); (rename Fr _ _ _ _ => Fz); (rename News _ _ _ _ => Nz); k_dflt (refine' wpAny_mono (law_rest ?B Fz ?X ?T ?N hcell hd0 hk0 hk1 hli hlen o1 o2 o3) ?_ (fun _ _ x => x.elim); (case B => k_asm); (case X => k_asm); (case T => k_asm); (case N => exact news3 Nz (by k_mem) (by k_mem) (by k_mem)); intro fz sz hz; (obtain ⟨h2, tk2, m2, rfl, rfl, F2⟩ := hz); first | exact ⟨_, _, _, rfl, rfl, F2⟩ | refine halt ?_))
  k_with "my unr" => ((rename Fr _ _ _ _ => Fq); (rename News _ _ _ _ => Nq); k_dflt (refine' unr_end Fq Nq ?off ⟨?sub, ?_⟩; (case off => k_all); (case sub => k_subL); k_whole))
  k_steps
end Mine
-- part LM2
namespace Mine
example : True := by
  w_top off
  trivial
set_option maxRecDepth 100000
set_option maxHeartbeats 8000000
local macro_rules | `(tactic| walk_at "exec Assign cons ListComp") => `(tactic| k_extra "my comp")
local macro_rules | `(tactic| walk_at "DrawGo") => `(tactic| k_extra "my go")
local macro_rules | `(tactic| walk_at "call ref") => `(tactic| k_extra "my call")
local macro_rules | `(tactic| walk_at "EltEnd") => `(tactic| k_extra "my elt")
local macro_rules | `(tactic| walk_at "subscriptTail") => `(tactic| k_extra "my item")
local macro_rules | `(tactic| walk_at "eval ListComp") => `(tactic| k_extra "my map")
local macro_rules | `(tactic| walk_at "MapGo") => `(tactic| k_extra "my mapgo")
local macro_rules | `(tactic| walk_at "call builtin:chr") => `(tactic| k_extra "my chr")
local macro_rules | `(tactic| walk_at "call builtin:str.join") => `(tactic| k_extra "my join")
local macro_rules | `(tactic| walk_at "execs cons") => `(tactic| k_extra "my loop")
theorem news6 {h₀ h : Heap} {L : Addr} {nw : List (Addr × Obj)} {a b c d e f : Addr × Obj} (N : News h₀ L h nw) (h1 : a ∈ nw) (h2 : b ∈ nw) (h3 : c ∈ nw) (h4 : d ∈ nw) (h5 : e ∈ nw) (h6 : f ∈ nw) : News h₀ L h [a, b, c, d, e, f] := fun p hp => by
  rcases List.mem_cons.mp hp with rfl | hp
  · exact N _ h1
  rcases List.mem_cons.mp hp with rfl | hp
  · exact N _ h2
  rcases List.mem_cons.mp hp with rfl | hp
  · exact N _ h3
  rcases List.mem_cons.mp hp with rfl | hp
  · exact N _ h4
  rcases List.mem_cons.mp hp with rfl | hp
  · exact N _ h5
  rw [List.mem_singleton.mp hp]
  exact N _ h6
-- the head's two name looks by the kernel alone: k_qdec would write the program's twin
local macro_rules | `(tactic| k_qdec) => `(tactic| decide +kernel)
noncomputable def lawD : (d : DefRec) ×' (kwd : List (Str × Expr)) ×' (defOf view PySem.Challenge.rw_qz0090_01.row.name = some (d, kwd)) := ⟨_, _, rfl⟩
theorem walk0 : WalkO view [Str.ofString "Limits", Str.ofString "_law_codes"] (XL view []) hook.says PySem.Challenge.rw_qz0090_01.row.toRowW lawD.1 lawD.2.1 (fun f vs => PySem.call f vs) := by
  unfold lawD hook
  dsimp only
  w_strict (k_go0
            (all_goals try k_fold)
            k_with_none
            k_with "om" => omega
            k_with "om" => ((repeat (rename And _ _ => hAq; clear hAq)); omega)
            k_with "my map" => (refine halt ?_)
            k_with "my mapgo" => (refine halt ?_)
            k_with "my chr" => (refine halt ?_)
            k_with "my join" => (refine halt ?_)
            k_with "my go" => (refine halt ?_)
            k_with "my comp" => (refine halt ?_)
            k_with "my elt" => (refine halt ?_)
            k_with "my call" => ((fail_if_success (with_reducible show wpAny _ _ (call (Value.ref 354) _) _ _ _)); (fail_if_success (with_reducible show wpAny _ _ (call (Value.ref 372) _) _ _ _)); (fail_if_success (with_reducible show wpAny _ _ (call (Value.ref 369) _) _ _ _)); refine halt ?_)
            k_with "my item" => (refine halt ?_)
            k_with "my room" => ((try simp only [depth_under_make, depth_under_kw, depth_in1, depth_deeper, depth_caller, units_in1, units_deeper, Around.mark_units, units_caller, claimMargin, recursionLimit, cLine]); first | decide | omega)
            k_with "my tin" => (first | assumption | k_dflt (exact tin_start (by assumption)))
            k_with "my call" => (k_here; (with_reducible show wpAny _ _ (call (Value.ref 384) _) _ _ _); k_dflt (refine' nip_row _ ?hm ?B ?F ?X ?T ?hk ?hdp ?hun ?N ?U ?hd0 ?hk0 ?hk1 ?hDm ?hli ?hlen ?hne ?_; (case hm => decide); (case B => k_asm); (case F => k_asm); (case X => k_asm); (case T => k_asm); (case hk => exact rfl); (case hdp => k_extra "my room"); (case hun => k_extra "my room"); (case N => k_asm); (case U => k_updF); (case hd0 => k_extra "my tin"); (case hk0 => k_extra "om"); (case hk1 => k_extra "om"); (case hDm => k_mem); (case hli => assumption); (case hlen => k_extra "om"); (case hne => k_ne); k_whole); intro rz tz oz hz tkz hr0 hr1 hdz Fz Nz; (try dsimp only at Nz); (try dsimp only))
            k_with "my comp" => (k_here; (rename Fr _ _ _ _ => lF); (rename News _ _ _ _ => lN); (refine' Assign_draw CodesAre lF lN ?hC ?hU ?hd ?hLe ?hsw ?hclos ?hcell ?hkind ?hnames ?hx ?hh ?hy ?hp ?hs ?_); (case hC => assumption); (case hU => k_updF); (case hd => k_extra "my tin"); (case hLe => with_unfolding_all rfl); (case hsw => with_unfolding_all rfl); (case hclos => with_unfolding_all rfl); (case hcell => decide); (case hkind => with_unfolding_all rfl); (case hnames => decide); (case hx => with_unfolding_all rfl); (case hh => with_unfolding_all rfl); (case hy => with_unfolding_all rfl); (case hp => with_unfolding_all rfl); (case hs => intro _; with_unfolding_all rfl))
            k_with "my go" => ((rename Fr _ _ _ _ => lF); (rename News _ _ _ _ => lN); (rename IsRange _ _ _ _ _ _ _ _ => rgX); k_dflt (refine' DrawGo.intro lF lN rgX ?b0 ?b1 ?hI (fun i ys nk tk I oI C oC Dk m₂ hk tok E' hik hIk hoC hxk Fk Nk offk nek => ?_) (fun ys nk Dk hk tok hIk Fk Nk offk => ?_); (case b0 => k_extra "om"); (case b1 => k_extra "om"); (case hI => exact DrawJ.intro rfl (by assumption) (by k_extra "om") (by k_extra "om") codes_nil); (all_goals (obtain ⟨oi, ki, rfl, hdi, hi0, hi1, hys⟩ := hIk)); (all_goals (try simp only [LCg.Off3, and_true] at offk)); (all_goals (try simp only [LCg.Off1, and_true] at offk)); (all_goals (try dsimp only at Nk)); (all_goals (first | (have _ := hik; skip) | (obtain ⟨lL, hlzL, hllL, hlcL⟩ := hys))); (try clear lF); (try clear lN)))
            k_with "my go" => ((have _ := hlcL); (rename Fr _ _ _ _ => lF); (rename News _ _ _ _ => lN); (rename IsRange _ _ _ _ _ _ _ _ => rgX); k_dflt (refine' DrawGo.intro lF lN rgX ?b0 ?b1 ?hI (fun i ys nk tk I oI C oC Dk m₂ hk tok E' hik hIk hoC hxk Fk Nk offk nek => ?_) (fun ys nk Dk hk tok hIk Fk Nk offk => ?_); (case b0 => k_extra "om"); (case b1 => k_extra "om"); (case hI => exact DrawJ.intro rfl (by assumption) (by k_extra "om") (by k_extra "om") codes_nil); (all_goals (obtain ⟨oi, ki, rfl, hdi, hi0, hi1, hys⟩ := hIk)); (all_goals (try simp only [LCg.Off3, and_true] at offk)); (all_goals (try simp only [LCg.Off1, and_true] at offk)); (all_goals (try dsimp only at Nk)); (all_goals (first | (have _ := hik; skip) | (obtain ⟨lR, hlzR, hllR, hlcR⟩ := hys))); (try clear lF); (try clear lN)))
            k_with "my item" => (k_here; (with_reducible show wpAny _ _ (subscriptTail _ _ (Value.ref 377) (Value.int _ _)) _ _ _); k_dflt (refine' item_codes ?F ?X ?h0 ?h1 ?_; (case F => k_asm); (case X => k_asm); (case h0 => k_extra "om"); (case h1 => k_extra "om")); intro cz tz hcz)
            k_with "my elt" => ((rename Fr _ _ _ _ => Fz); (rename News _ _ _ _ => Nz); refine EltEnd.intro Fz Nz (fun p hp => hp) (by simp only [LCg.Off3, and_true]; assumption) ?_; k_dflt (exact DrawJ.intro rfl (by assumption) (by k_extra "om") (by k_extra "om") (codes_snoc hys (by assumption))))
            k_with "my map" => (k_here; (with_reducible show wpAny _ _ (eval (Expr.ListComp (Expr.Call _ _ _ _) _ _ _) _) _ _ _); (rename Fr _ _ _ _ => lF); (refine' ListComp_map oneC lF ?hclos ?hcell ?hkind ?hnames ?hx ?hh ?hs ?_); (case hclos => with_unfolding_all rfl); (case hcell => decide); (case hkind => with_unfolding_all rfl); (case hnames => decide); (case hx => with_unfolding_all rfl); (case hh => with_unfolding_all rfl); (case hs => intro _; with_unfolding_all rfl))
            k_with "my mapgo" => ((rename Fr _ _ _ _ => lF); (rename News _ _ _ _ => lN); k_dflt ((refine' MapGo.intro lF lN ?hm ?hv ?hsz (fun n t I oI C oC Dk ys m₂ hk tok E' hn hoC hxk Fk Nk offk nek => ?_) (fun ys Dk hk tok hys Fk Nk offk => ?_)); (case hm => k_mem); (case hv => assumption); (case hsz => k_extra "om"); (all_goals (try simp only [LCg.Off3, and_true] at offk)); (all_goals (try simp only [LCg.Off1, and_true] at offk)); (try clear lF); (try clear lN)))
            k_with "my chr" => (refine chr_of_range ?c0 ?c1 ?_; (case c0 => exact (codes_range (by first | exact hlcL _ (by assumption) | exact hlcR _ (by assumption))).1); (case c1 => (have hcr := codes_range (by first | exact hlcL _ (by assumption) | exact hlcR _ (by assumption))); k_extra "om"))
            k_with "my elt" => ((rename Fr _ _ _ _ => Fz); (rename News _ _ _ _ => Nz); refine EltEnd.intro Fz Nz (fun p hp => hp) (by simp only [LCg.Off3, and_true]; assumption) ?_; k_dflt (exact ⟨rfl, _, rfl⟩))
            k_with "my join" => (k_here; (with_reducible show wpAny _ _ (call (Value.builtin _) [Value.str _ _, Value.ref _]) _ _ _); k_dflt (refine' join_codes ?jl ?ji ?jn ?_; (case jl => exact News.isList (by k_asm) (by k_mem)); (case ji => assumption); (case jn => k_extra "om")); intro tj kj)
            k_with "my loop" => ((with_reducible show wpAny _ _ (execs (Stmt.For _ _ _ _ _ :: _) _) _ _ _); refine halt ?_)
            k_steps
            refine Halt.out ?_
            (rename Fr _ _ _ _ => Fz); (rename News _ _ _ _ => Nz)
            refine' wpAny_mono (law_loop ?B Fz ?X ?T lL lR ?N ?hO ?m1 ?m2 ?m3 ?m4 ?m5 hlzL hlzR ?l4 ?r4 (Fine.mk hlcL) (Fine.mk hlcR) ?hcell ?hd0 ?hk0 ?hk1 ?hli ?hlen ?o1 ?o2 ?o3) ?_ (fun _ _ x => x.elim)
            (case m1 => with_unfolding_all rfl)
            (case m2 => with_unfolding_all rfl)
            (case m3 => with_unfolding_all rfl)
            (case m4 => with_unfolding_all rfl)
            (case m5 => with_unfolding_all rfl)
            (case B => k_asm); (case X => k_asm); (case T => k_asm)
            (case hcell => assumption)
            (case hd0 => k_extra "my tin")
            (case N => exact news6 Nz (by k_mem) (by k_mem) (by k_mem) (by k_mem) (by k_mem) (by k_mem))
            (case hO => exact ops_start (by assumption))
            (case l4 => exact Fine.mk (by k_extra "om")); (case r4 => exact Fine.mk (by k_extra "om"))
            (case hli => assumption)
            (case hk0 => k_extra "om")
            (case hk1 => k_extra "om")
            (case hlen => k_extra "om")
            (case o1 => k_ne)
            (case o2 => k_ne)
            (case o3 => k_ne)
            intro fz sz hz
            obtain ⟨h2, tk2, m2, rfl, rfl, F2⟩ := hz
            try dsimp only
            k_steps

            skip)
end Mine
-- part top
namespace Mine
set_option maxRecDepth 100000
set_option maxHeartbeats 0
theorem top.tw10005945817407372193 : True := trivial
theorem top.tw10060563435695780796 : True := trivial
theorem top.tw10090393231696489298 : True := trivial
theorem top.tw10134937180695548359 : True := trivial
theorem top.tw1040915598704419856 : True := trivial
theorem top.tw10448899703829047738 : True := trivial
theorem top.tw1047907039808853306 : True := trivial
theorem top.tw105208000716104510 : True := trivial
theorem top.tw10548783162686979305 : True := trivial
theorem top.tw10617020205504526918 : True := trivial
theorem top.tw10648311167861321448 : True := trivial
theorem top.tw10657950659306570408 : True := trivial
theorem top.tw10783980745131425670 : True := trivial
theorem top.tw10797620697341660853 : True := trivial
theorem top.tw1088946173253831356 : True := trivial
theorem top.tw10915162052029792233 : True := trivial
theorem top.tw10936122117785486979 : True := trivial
theorem top.tw10956490626425055710 : True := trivial
theorem top.tw10996937224433265937 : True := trivial
theorem top.tw11141966352661209427 : True := trivial
theorem top.tw11203750815551599093 : True := trivial
theorem top.tw11204274270748810449 : True := trivial
theorem top.tw11240886729373846589 : True := trivial
theorem top.tw11423202765487971197 : True := trivial
theorem top.tw1142415686869020238 : True := trivial
theorem top.tw11424894988859586721 : True := trivial
theorem top.tw11466170419677230873 : True := trivial
theorem top.tw11520865232209809239 : True := trivial
theorem top.tw11582926029173025856 : True := trivial
theorem top.tw11613256710310857696 : True := trivial
theorem top.tw11845233108574324481 : True := trivial
theorem top.tw1195175773429642966 : True := trivial
theorem top.tw12080426169559351053 : True := trivial
theorem top.tw12105128591322288922 : True := trivial
theorem top.tw12166907935582030026 : True := trivial
theorem top.tw12317137736924338119 : True := trivial
theorem top.tw12318557346453588183 : True := trivial
theorem top.tw12385144161495827662 : True := trivial
theorem top.tw12392516345856041104 : True := trivial
theorem top.tw12427389293880184781 : True := trivial
theorem top.tw1245559373397905713 : True := trivial
theorem top.tw12483720753089274532 : True := trivial
theorem top.tw12535971307161669396 : True := trivial
theorem top.tw12540527436937284434 : True := trivial
theorem top.tw12643491718579748851 : True := trivial
theorem top.tw1275901062530889299 : True := trivial
theorem top.tw12787338502077490372 : True := trivial
theorem top.tw12819366960792805191 : True := trivial
theorem top.tw1284575025550258836 : True := trivial
theorem top.tw12958502747184954254 : True := trivial
theorem top.tw13044034144603486326 : True := trivial
theorem top.tw13068111086705522682 : True := trivial
theorem top.tw13090165191389475591 : True := trivial
theorem top.tw13134186033006778460 : True := trivial
theorem top.tw13177472732611162249 : True := trivial
theorem top.tw13272337422414781067 : True := trivial
theorem top.tw13303987763403120937 : True := trivial
theorem top.tw13359135706311490777 : True := trivial
theorem top.tw13706816188851595723 : True := trivial
theorem top.tw13802547742096326172 : True := trivial
theorem top.tw13889309363888878346 : True := trivial
theorem top.tw13928562000808390012 : True := trivial
theorem top.tw1400011881503588481 : True := trivial
theorem top.tw1411768538616736371 : True := trivial
theorem top.tw14168018189251442112 : True := trivial
theorem top.tw14263998999751124003 : True := trivial
theorem top.tw14282377253939248939 : True := trivial
theorem top.tw14349089067433371257 : True := trivial
theorem top.tw14371913498598963198 : True := trivial
theorem top.tw14399976873020721970 : True := trivial
theorem top.tw14402358008270493973 : True := trivial
theorem top.tw14597223018079223185 : True := trivial
theorem top.tw14608685727046917156 : True := trivial
theorem top.tw14611434983143301774 : True := trivial
theorem top.tw146815374380898660 : True := trivial
theorem top.tw14697636140705633519 : True := trivial
theorem top.tw14747140909534839006 : True := trivial
theorem top.tw14826035006057030972 : True := trivial
theorem top.tw1483126911874232274 : True := trivial
theorem top.tw14901070454687303710 : True := trivial
theorem top.tw14917401599646851644 : True := trivial
theorem top.tw14987219478266130788 : True := trivial
theorem top.tw15058813355848621054 : True := trivial
theorem top.tw15095372191486117680 : True := trivial
theorem top.tw1516213087968936877 : True := trivial
theorem top.tw15240379268576122478 : True := trivial
theorem top.tw15339535825480214425 : True := trivial
theorem top.tw15646934709686841381 : True := trivial
theorem top.tw15740088241188596515 : True := trivial
theorem top.tw15829088240239346022 : True := trivial
theorem top.tw1585457916280141200 : True := trivial
theorem top.tw15860264024139754761 : True := trivial
theorem top.tw15877122091014420850 : True := trivial
theorem top.tw15878805988109762761 : True := trivial
theorem top.tw15918733279669447828 : True := trivial
theorem top.tw16058212318047004132 : True := trivial
theorem top.tw16196420915677631385 : True := trivial
theorem top.tw16204670001084760307 : True := trivial
theorem top.tw16325430554902658873 : True := trivial
theorem top.tw16352630495959832749 : True := trivial
theorem top.tw1638113669730673903 : True := trivial
theorem top.tw16415559393655328363 : True := trivial
theorem top.tw16420938139371093754 : True := trivial
theorem top.tw16439428074185983240 : True := trivial
theorem top.tw16580785732701462914 : True := trivial
theorem top.tw16666122058527598403 : True := trivial
theorem top.tw16713831800681072344 : True := trivial
theorem top.tw1676862907878916244 : True := trivial
theorem top.tw16782997733028217545 : True := trivial
theorem top.tw16795567611416646642 : True := trivial
theorem top.tw16821654228018055803 : True := trivial
theorem top.tw16840627104734473223 : True := trivial
theorem top.tw16885616592811714743 : True := trivial
theorem top.tw16900427199656544559 : True := trivial
theorem top.tw17046948494117081484 : True := trivial
theorem top.tw1706793611546318481 : True := trivial
theorem top.tw17315540178315561739 : True := trivial
theorem top.tw17428532607074087071 : True := trivial
theorem top.tw17470836177267949868 : True := trivial
theorem top.tw17555251805378815213 : True := trivial
theorem top.tw17565814175750979855 : True := trivial
theorem top.tw17620759639134147866 : True := trivial
theorem top.tw17795014544551873601 : True := trivial
theorem top.tw17810072253543177317 : True := trivial
theorem top.tw18034075008235765660 : True := trivial
theorem top.tw18063644159110109576 : True := trivial
theorem top.tw1814787853859245837 : True := trivial
theorem top.tw18164388396756303480 : True := trivial
theorem top.tw18289109515434150305 : True := trivial
theorem top.tw18367679650794681301 : True := trivial
theorem top.tw18371284783138465269 : True := trivial
theorem top.tw1886144042066472794 : True := trivial
theorem top.tw2007660962349395123 : True := trivial
theorem top.tw2126296398998916975 : True := trivial
theorem top.tw2218668502564051296 : True := trivial
theorem top.tw2443449257678562572 : True := trivial
theorem top.tw2462062305354472974 : True := trivial
theorem top.tw2464713573024523455 : True := trivial
theorem top.tw2514443458684651071 : True := trivial
theorem top.tw2543606523685570607 : True := trivial
theorem top.tw2581206410525282061 : True := trivial
theorem top.tw2601027998652028288 : True := trivial
theorem top.tw2732273902793177162 : True := trivial
theorem top.tw2758071753971750899 : True := trivial
theorem top.tw2811446512466313300 : True := trivial
theorem top.tw2822501910515967889 : True := trivial
theorem top.tw2849167335222591983 : True := trivial
theorem top.tw2867133514656366558 : True := trivial
theorem top.tw2907113945770861938 : True := trivial
theorem top.tw2985252069258134486 : True := trivial
theorem top.tw3180438532700378233 : True := trivial
theorem top.tw3254097082911018636 : True := trivial
theorem top.tw3261557481417251176 : True := trivial
theorem top.tw3337584539547039419 : True := trivial
theorem top.tw339143206060000330 : True := trivial
theorem top.tw3561193834555079511 : True := trivial
theorem top.tw3567177698169325468 : True := trivial
theorem top.tw357486453476387696 : True := trivial
theorem top.tw370947364307004932 : True := trivial
theorem top.tw3730354652608582461 : True := trivial
theorem top.tw381845443943030031 : True := trivial
theorem top.tw3855276242980373810 : True := trivial
theorem top.tw390997316461189296 : True := trivial
theorem top.tw3955772918649907234 : True := trivial
theorem top.tw3969286963782609292 : True := trivial
theorem top.tw4011251493133185883 : True := trivial
theorem top.tw4076138812419527698 : True := trivial
theorem top.tw4159251561096739476 : True := trivial
theorem top.tw4166218997396506358 : True := trivial
theorem top.tw4186445540838780016 : True := trivial
theorem top.tw4299629679881509495 : True := trivial
theorem top.tw4321519831107876412 : True := trivial
theorem top.tw4498253355057717688 : True := trivial
theorem top.tw4571971715460732019 : True := trivial
theorem top.tw4671429814451907529 : True := trivial
theorem top.tw4713442408853163898 : True := trivial
theorem top.tw5058314954733539658 : True := trivial
theorem top.tw5105846836358774362 : True := trivial
theorem top.tw5225916559131626549 : True := trivial
theorem top.tw5278709424875269971 : True := trivial
theorem top.tw5303079699428457377 : True := trivial
theorem top.tw5523086135645875356 : True := trivial
theorem top.tw5703469652483361258 : True := trivial
theorem top.tw5868845118606482295 : True := trivial
theorem top.tw5915399644114372684 : True := trivial
theorem top.tw5938664839603501006 : True := trivial
theorem top.tw6042063481754889096 : True := trivial
theorem top.tw6127594578889010139 : True := trivial
theorem top.tw6187478851450931391 : True := trivial
theorem top.tw620129878449983639 : True := trivial
theorem top.tw6240723676877644813 : True := trivial
theorem top.tw6286779285267259847 : True := trivial
theorem top.tw6333448901615975916 : True := trivial
theorem top.tw640038096231849403 : True := trivial
theorem top.tw6430265229019958763 : True := trivial
theorem top.tw6431110157172167083 : True := trivial
theorem top.tw6473336682457920079 : True := trivial
theorem top.tw6491118196486620199 : True := trivial
theorem top.tw6495677840255480795 : True := trivial
theorem top.tw649594095290182367 : True := trivial
theorem top.tw6520327441239513222 : True := trivial
theorem top.tw6572447435987645144 : True := trivial
theorem top.tw6621670593625495552 : True := trivial
theorem top.tw6662652255960138227 : True := trivial
theorem top.tw6694047246710070196 : True := trivial
theorem top.tw6756868429301003459 : True := trivial
theorem top.tw6761616313442571491 : True := trivial
theorem top.tw6812286434817487243 : True := trivial
theorem top.tw6859976401760118174 : True := trivial
theorem top.tw6883741973766446791 : True := trivial
theorem top.tw6885214360128481674 : True := trivial
theorem top.tw6898770573198911631 : True := trivial
theorem top.tw6906291655842520137 : True := trivial
theorem top.tw6930518751129746686 : True := trivial
theorem top.tw705360758644809490 : True := trivial
theorem top.tw708234853630380328 : True := trivial
theorem top.tw72247145696351765 : True := trivial
theorem top.tw7297446738713254254 : True := trivial
theorem top.tw7313339093194340965 : True := trivial
theorem top.tw7374682395561060027 : True := trivial
theorem top.tw7414872774492366064 : True := trivial
theorem top.tw7429413206186439793 : True := trivial
theorem top.tw7512850731694144728 : True := trivial
theorem top.tw7527032243904285869 : True := trivial
theorem top.tw7557910624720293991 : True := trivial
theorem top.tw7600245330811189008 : True := trivial
theorem top.tw76412952228603488 : True := trivial
theorem top.tw7673058066778466091 : True := trivial
theorem top.tw7715697345341360870 : True := trivial
theorem top.tw7743179893348639699 : True := trivial
theorem top.tw7855079511596107753 : True := trivial
theorem top.tw795583310449317561 : True := trivial
theorem top.tw7990429038631628895 : True := trivial
theorem top.tw8107780213005350392 : True := trivial
theorem top.tw814325599930780420 : True := trivial
theorem top.tw8159302507568227503 : True := trivial
theorem top.tw81815255157605957 : True := trivial
theorem top.tw8204474986945543665 : True := trivial
theorem top.tw8237333600419904120 : True := trivial
theorem top.tw8345894832289464959 : True := trivial
theorem top.tw8410488445778877200 : True := trivial
theorem top.tw8442151666995427815 : True := trivial
theorem top.tw8443935842833279946 : True := trivial
theorem top.tw8507776931139520737 : True := trivial
theorem top.tw8538268897159353584 : True := trivial
theorem top.tw8598144960395782539 : True := trivial
theorem top.tw8622502720953521162 : True := trivial
theorem top.tw8640399195822439974 : True := trivial
theorem top.tw864819663365544661 : True := trivial
theorem top.tw8657480035899644758 : True := trivial
theorem top.tw8679839319945467846 : True := trivial
theorem top.tw8689318265317240412 : True := trivial
theorem top.tw877433047237710547 : True := trivial
theorem top.tw8973803690348224638 : True := trivial
theorem top.tw9028721232379810249 : True := trivial
theorem top.tw9059672392935016618 : True := trivial
theorem top.tw9059832203979395877 : True := trivial
theorem top.tw9063741608606530840 : True := trivial
theorem top.tw9068506458530023791 : True := trivial
theorem top.tw908825868028484722 : True := trivial
theorem top.tw9227057690007400460 : True := trivial
theorem top.tw9229161468869434483 : True := trivial
theorem top.tw9233335307524088747 : True := trivial
theorem top.tw9259421805112917234 : True := trivial
theorem top.tw9272544492142499777 : True := trivial
theorem top.tw9305691244287143441 : True := trivial
theorem top.tw9335426496214029073 : True := trivial
theorem top.tw9366391650621772374 : True := trivial
theorem top.tw9437893007894698314 : True := trivial
theorem top.tw9442318146202087700 : True := trivial
theorem top.tw9481324761139184277 : True := trivial
theorem top.tw956942650209027819 : True := trivial
theorem top.tw9614876229902214918 : True := trivial
theorem top.tw9739860059890490050 : True := trivial
theorem top.tw9743097575036673082 : True := trivial
theorem top.tw9759319705405543751 : True := trivial
theorem top.tw9800703332001039478 : True := trivial
theorem top.tw9953747333497923681 : True := trivial
set_option Elab.async true in
/-- the head, and the walk behind it; async, so that what the library names for it stands under this theorem's name -/
theorem top : PySem.Challenge.rw_qz0090_01.Holds := by
  (w_on; o_law; o_head hook; (case hw => w_witness2); exact walk0)
end Mine
theorem PySem.Challenge.cw_qz0090_01_holds : PySem.Challenge.rw_qz0090_01.Holds := by
  exact Mine.top
