import PyProof.Rows.All
import Wide.All
import OpenK.AllK
import Wide.FinOn
import HandS.Words
import HandS.Walk
import HandS.Head0
import HandS.Head1
import HandS.Head2
import HandS.HeadEnd
import HandS.HeadHook1
import HandS.HeadHook2
import HandS.HeadHook3
import HandS.HeadHook4
import HandS.TupSets
import HandS.SortOrd
import KE.SortData
import HandS.ForMost
import HandS.Deep
import HandS.IsInst
import HandS.TupAny
import HandS.Flow
import HandS.Style
import HandS.Zip
import HandS.NoneIn
import KE.GoesMore
import HandS.Defaults
import KE.KDictZip
import HandS.DictComp
import KE.KRevSl
import HandS.SortInts
import HandS.Strs
import KE.DataFind
import HandS.SetFor
import OpenK.KMore
import KE.DataMinMax
import PySem.Challenge.RW_tatamirooms_k32_whole_reaches_judged
/-! ## H0 -/
set_option Elab.async false
set_option linter.all false
set_option maxRecDepth 100000
set_option maxHeartbeats 0
/-! ### the head: what the top leaves -/
namespace TR
open PySem PySem.Spec PyProof.Rows L2
def topS (i : Nat) : Stmt := PySem.Challenge.pw_tatamirooms_k32_whole_reaches_judged.main.body.getD i (.Pass ⟨0, 0, 0, 0⟩)
def nm0 : List Str := [("TooMany" : Str), ("Unfit" : Str), ("is_number" : Str), ("is_within" : Str), ("is_long" : Str), ("tupled" : Str), ("ascends" : Str), ("set_of" : Str), ("are_numbers" : Str), ("is_pair" : Str), ("is_any_square" : Str), ("is_room" : Str), ("sure_room" : Str), ("four_of" : Str), ("known_of" : Str), ("HALF" : Str), ("EAST" : Str), ("SOUTH" : Str), ("WEST" : Str), ("NORTH" : Str), ("KINDS" : Str), ("FAR" : Str), ("is_kind" : Str), ("are_kinds" : Str), ("led_by" : Str), ("alone_in" : Str), ("kinds_in" : Str), ("fits_across" : Str), ("fits_about" : Str), ("is_kind_set" : Str), ("are_lets_in" : Str), ("sure_lets" : Str), ("MOST_HIGH" : Str), ("sure_x" : Str), ("column_at" : Str)]
def nm1 : List Str := [("sure_row" : Str), ("columns_in" : Str), ("refuse_wide" : Str), ("kinds_let" : Str), ("rows_by" : Str), ("is_let_behind" : Str), ("rows_behind" : Str), ("key_of" : Str), ("reaches_in" : Str), ("is_shut_in" : Str), ("row_fits" : Str), ("lefts_in" : Str), ("fit_lets" : Str), ("fit_lets_at" : Str), ("column" : Str), ("rows_at" : Str), ("fit_behind" : Str), ("reaches" : Str), ("are_rows" : Str), ("is_reaches" : Str), ("is_shut" : Str), ("how_far" : Str), ("rows_left" : Str), ("_law_box" : Str), ("_law_take" : Str), ("_law_cells" : Str), ("_law_of" : Str), ("_law_pick" : Str), ("_law_lists" : Str), ("_law_same" : Str), ("_law_over" : Str), ("_law_beside" : Str), ("_law_four" : Str), ("_law_plan" : Str), ("_law_kinds_next" : Str)]
def nm2 : List Str := [("_law_moved_on" : Str), ("_law_lets_of" : Str), ("_law_floors" : Str), ("_law_boxed" : Str), ("_law_room" : Str), ("_law_column" : Str), ("_law_rows" : Str), ("_law_row_fits" : Str), ("_law_reaches" : Str), ("_law_some_lets" : Str), ("_law_told_lets" : Str), ("_law_lets_drawn" : Str), ("_law_keeps" : Str), ("_law_by_hand_right" : Str), ("_law_bent" : Str), ("_law_is_own" : Str), ("_law_right" : Str)]
def nmAll : List Str := nm0 ++ nm1 ++ nm2
def dfn (x : Str) (i : Nat) : He.DefD := ⟨(x, none), x, x, defArgs (topS i), defBody (topS i), defScope (topS i), [], []⟩
def fnL0 : List He.DefD := [dfn "is_number" 4, dfn "is_within" 5, dfn "is_long" 6, dfn "tupled" 7, dfn "ascends" 8, dfn "set_of" 9, dfn "are_numbers" 10, dfn "is_pair" 12, dfn "is_any_square" 13, dfn "is_room" 14, dfn "sure_room" 15, dfn "four_of" 16, dfn "known_of" 17, dfn "is_kind" 26, dfn "are_kinds" 27, dfn "led_by" 28, dfn "alone_in" 29, dfn "kinds_in" 30, dfn "fits_across" 31, dfn "fits_about" 32, dfn "is_kind_set" 34, dfn "are_lets_in" 35, dfn "sure_lets" 36, dfn "sure_x" 39, dfn "column_at" 40, dfn "sure_row" 41, dfn "columns_in" 42, dfn "refuse_wide" 43, dfn "kinds_let" 44, dfn "rows_by" 45, dfn "is_let_behind" 46, dfn "rows_behind" 47, dfn "key_of" 48, dfn "reaches_in" 49, dfn "is_shut_in" 50]
def fnL1 : List He.DefD := [dfn "row_fits" 51, dfn "lefts_in" 52, dfn "fit_lets" 53, dfn "fit_lets_at" 54, dfn "column" 55, dfn "rows_at" 56, dfn "fit_behind" 57, dfn "reaches" 58, dfn "are_rows" 59, dfn "is_reaches" 60, dfn "is_shut" 61, dfn "how_far" 62, dfn "rows_left" 63, dfn "_law_box" 65, dfn "_law_take" 66, dfn "_law_cells" 67, dfn "_law_of" 68, dfn "_law_pick" 69, dfn "_law_lists" 70, dfn "_law_same" 71, dfn "_law_over" 72, dfn "_law_beside" 73, dfn "_law_four" 74, dfn "_law_plan" 75, dfn "_law_kinds_next" 76, dfn "_law_moved_on" 77, dfn "_law_lets_of" 78, dfn "_law_floors" 79, dfn "_law_boxed" 80, dfn "_law_room" 81, dfn "_law_column" 82, dfn "_law_rows" 83, dfn "_law_row_fits" 84, dfn "_law_reaches" 85, dfn "_law_some_lets" 86]
def fnL2 : List He.DefD := [dfn "_law_told_lets" 87, dfn "_law_lets_drawn" 88, dfn "_law_keeps" 89, dfn "_law_by_hand_right" 90, dfn "_law_bent" 91, dfn "_law_is_own" 92, dfn "_law_right" 93, dfn "law" 94]
def fnL : List He.DefD := fnL0 ++ fnL1 ++ fnL2
def faF : List He.Fa := [.free "abs", .free "all", .free "any", .free "bool", .free "dict", .free "enumerate", .free "int", .free "isinstance", .free "len", .free "list", .free "max", .free "min", .free "range", .free "set", .free "sorted", .free "str", .free "tuple", .free "zip"]
def faI : List He.Fa := [.int "HALF" 0, .int "EAST" 1, .int "SOUTH" 2, .int "WEST" 3, .int "NORTH" 4, .int "MOST_HIGH" 7, .glo "KINDS", .glo "FAR"]
def faG0 : List He.Fa := [.glo "is_number", .glo "is_within", .glo "is_long", .glo "tupled", .glo "ascends", .glo "set_of", .glo "are_numbers", .glo "is_pair", .glo "is_any_square", .glo "is_room", .glo "sure_room", .glo "four_of", .glo "known_of", .glo "is_kind", .glo "are_kinds", .glo "led_by", .glo "alone_in", .glo "kinds_in", .glo "fits_across", .glo "fits_about", .glo "is_kind_set", .glo "are_lets_in", .glo "sure_lets", .glo "sure_x", .glo "column_at", .glo "sure_row", .glo "columns_in", .glo "refuse_wide", .glo "kinds_let", .glo "rows_by", .glo "is_let_behind", .glo "rows_behind", .glo "key_of", .glo "reaches_in", .glo "is_shut_in"]
def faG1 : List He.Fa := [.glo "row_fits", .glo "lefts_in", .glo "fit_lets", .glo "fit_lets_at", .glo "column", .glo "rows_at", .glo "fit_behind", .glo "reaches", .glo "are_rows", .glo "is_reaches", .glo "is_shut", .glo "how_far", .glo "rows_left", .glo "_law_box", .glo "_law_take", .glo "_law_cells", .glo "_law_of", .glo "_law_pick", .glo "_law_lists", .glo "_law_same", .glo "_law_over", .glo "_law_beside", .glo "_law_four", .glo "_law_plan", .glo "_law_kinds_next", .glo "_law_moved_on", .glo "_law_lets_of", .glo "_law_floors", .glo "_law_boxed", .glo "_law_room", .glo "_law_column", .glo "_law_rows", .glo "_law_row_fits", .glo "_law_reaches", .glo "_law_some_lets"]
def faG2 : List He.Fa := [.glo "_law_told_lets", .glo "_law_lets_drawn", .glo "_law_keeps", .glo "_law_by_hand_right", .glo "_law_bent", .glo "_law_is_own", .glo "_law_right", .glo "law"]
def faL : List He.Fa := faF ++ faI ++ faG0 ++ faG1 ++ faG2
def tupA (K : PySem.W.Frag) (a : Addr) (vs : List V) : Bool :=
  match List.lookup a K with
  | some { cls := Value.type c, dict := _, data := Data.seq its _, slots := _ } => decide (c = "tuple") && (decide (its.size ≤ sizeLine) && He.relAll vs its.toList)
  | _ => false
def refsIn : List Value → List Addr
  | [] => []
  | .ref a :: l => a :: refsIn l
  | _ :: l => refsIn l
def itsAt (K : PySem.W.Frag) (a : Addr) : List Value :=
  match List.lookup a K with
  | some { cls := _, dict := _, data := Data.seq its _, slots := _ } => its.toList
  | _ => []
def tupsA (K : PySem.W.Frag) : List Addr → List (List Int) → Bool
  | [], [] => true
  | a :: l, r :: rs => tupA K a (r.map V.int) && tupsA K l rs
  | _, _ => false
def rowsA (K : PySem.W.Frag) (a : Addr) (rs : List (List Int)) : Bool := tupA K a ((refsIn (itsAt K a)).map V.ref) && tupsA K (refsIn (itsAt K a)) rs
def noLst (K : PySem.W.Frag) : Bool := K.all fun q => match q.2.cls with
  | .type c => c != "list"
  | _ => true
def exB (K : PySem.W.Frag) : Bool := noLst K && (tupA K (He.ga K "KINDS") (([0, 1, 2, 3, 4] : List Int).map V.int) && rowsA K (He.ga K "FAR") [[0, 0], [1, 0], [0, 1], [-1, 0], [0, -1]])
theorem tupA_ok {K : PySem.W.Frag} {a : Addr} {vs : List V} (h : tupA K a vs = true) : ∃ (o : Obj) (its : Array Value) (n : Nat), K.lookup a = some o ∧ o.cls = .type "tuple" ∧ o.data = .seq its n ∧ its.size ≤ sizeLine ∧ Vals vs its.toList := by
  unfold tupA at h
  split at h
  · rename_i c dd its n sl hk
    simp only [Bool.and_eq_true, decide_eq_true_eq] at h
    exact ⟨_, its, n, hk, by rw [h.1], rfl, h.2.1, He.relAll_ok h.2.2⟩
  · cases h
theorem noLst_ok {K : PySem.W.Frag} (h : noLst K = true) {a : Addr} {o : Obj} (hk : K.lookup a = some o) (hc : o.cls = .type "list") : False := by
  have m : (a, o) ∈ K := He.lookup_mem hk
  have := List.all_eq_true.mp h _ m
  rw [show ((a, o) : Addr × Obj).2.cls = .type "list" from hc] at this
  cases this
theorem tupsA_ok {K : PySem.W.Frag} : ∀ {bs : List Addr} {rs : List (List Int)}, tupsA K bs rs = true → bs.length = rs.length ∧ ∀ (i : Nat) b r, bs[i]? = some b → rs[i]? = some r → tupA K b (r.map V.int) = true
  | [], [], _ => ⟨rfl, fun i b r h => by simp at h⟩
  | a :: l, r :: rs, h => by
    have h : tupA K a (r.map V.int) = true ∧ tupsA K l rs = true := by simpa [tupsA] using h
    obtain ⟨h1, h2⟩ := tupsA_ok h.2
    refine ⟨by rw [List.length_cons, List.length_cons, h1], fun i b q hb hr => ?_⟩
    cases i with
    | zero => simp at hb hr; rw [← hb, ← hr]; exact h.1
    | succ i => exact h2 i b q (by simpa using hb) (by simpa using hr)
  | [], _ :: _, h => by cases h
  | _ :: _, [], h => by cases h
theorem vals_refs : ∀ {bs : List Addr} {us : List Value}, Vals (bs.map V.ref) us → us = bs.map Value.ref
  | [], _, .nil => rfl
  | b :: bs, _, .cons h t => by rw [List.map_cons, vals_refs t, show _ = Value.ref b from h]
abbrev headR : PySem.W.OpenRow := PySem.W.OpenLaw.row PySem.Challenge.rw_tatamirooms_k32_whole_reaches_judged
abbrev headV : Program := PySem.W.view headR.prog [94]
abbrev headK : PySem.W.Hook := He.hookX 2 faL fnL [] [] exB
def headO (s : PySem.W.SharedT) : He.AlX := He.obsX 2 faL fnL [] [] exB (HandSHeadRun.getT s)
theorem headO_eq (s : PySem.W.SharedT) : headO s = headK.obs s.abs := He.obsX_eq (HandSHeadRun.getT_eq s)
theorem head_run (w : World) : HandSHeadRun.RunEq headR headV headK headO 3000 nmAll w := by
  intro os
  kernel_rfl
end TR
open PySem PySem.W PySem.Calls PyProof.Rows in
theorem TR.head_one (hc : WalkO TR.headV TR.nmAll (XL TR.headV []) TR.headK.says TR.headR.toRowW (HandSHeadRun.topDef TR.headR.prog 94) [] fun f vs => PySem.call f vs) : PySem.Challenge.rw_tatamirooms_k32_whole_reaches_judged.Holds := by
  w_on; o_law
  refine HandSHeadRun.head_any (r := TR.headR) (q := TR.headV) (H := TR.headK) (ob := TR.headO) (M := 3000) (loose := TR.nmAll) (d := HandSHeadRun.topDef TR.headR.prog 94) (kwd := []) TR.headO_eq
    (by kernel_rfl) (fun s => by kernel_rfl) TR.head_run (by kernel_rfl) (by kernel_rfl) (by kernel_rfl) (by rfl) (by first | assumption | decide +kernel) (by decide +kernel) ⟨rfl, rfl, rfl, rfl, rfl, by decide +kernel⟩ ?hw hc
  case hw => w_witness2
/-! ## S0 -/
set_option Elab.async false
set_option linter.all false
set_option maxRecDepth 100000
namespace TR
open PySem L2
/-- the slots met in a round, as bits -/
def seenGo (m : Nat) : Nat → Nat → Nat → Nat
  | 0, _, s => s
  | n + 1, x, s => seenGo m n ((x * 5 + 1) % (m + 1)) (s ||| 1 <<< x)
theorem seen_go (m j : Nat) : ∀ n b s, (seenGo m n (lcgN m b) s).testBit j = true → s.testBit j = true ∨ ∃ c, c < b + n ∧ lcgN m c = j
  | 0, b, s, h => .inl h
  | n + 1, b, s, h => by
    rcases seen_go m j n (b + 1) (s ||| 1 <<< lcgN m b) h with q | ⟨c, hc, e⟩
    · rw [Nat.testBit_or, Bool.or_eq_true] at q
      rcases q with q | q
      · exact .inl q
      · refine .inr ⟨b, by omega, ?_⟩
        rw [Nat.one_shiftLeft, Nat.testBit_two_pow] at q
        exact of_decide_eq_true q
    · exact .inr ⟨c, by omega, e⟩
structure MG (m : Nat) : Prop where
  odd : m % 2 = 1
  big : m ≤ 5000
  all : ∀ j, j ≤ m → ∃ b, b ≤ m ∧ lcgN m b = j
  round : lcgN m (m + 1) = 0
def lastGo (m : Nat) : Nat → Nat → Nat
  | 0, x => x
  | n + 1, x => lastGo m n ((x * 5 + 1) % (m + 1))
theorem last_go (m : Nat) : ∀ n b, lastGo m n (lcgN m b) = lcgN m (b + n)
  | 0, b => rfl
  | n + 1, b => by
    show lastGo m n (lcgN m (b + 1)) = _
    rw [last_go m n (b + 1)]
    congr 1; omega
theorem MG.of {m : Nat} (h1 : m % 2 = 1) (h2 : m ≤ 5000) (h3 : seenGo m (m + 1) 0 0 = 2 ^ (m + 1) - 1) (h4 : lastGo m (m + 1) 0 = 0) : MG m := by
  refine ⟨h1, h2, fun j hj => ?_, ?_⟩
  · have q := seen_go m j (m + 1) 0 0 (by
      show (seenGo m (m + 1) 0 0).testBit j = true
      rw [h3, Nat.testBit_two_pow_sub_one]
      exact decide_eq_true (by omega))
    rcases q with q | ⟨c, hc, e⟩
    · rw [Nat.zero_testBit] at q; cases q
    · exact ⟨c, by omega, e⟩
  · have q := last_go m (m + 1) 0
    rw [Nat.zero_add] at q
    rw [← q]; exact h4
theorem mg7 : MG 7 := .of (by decide) (by decide) (by decide +kernel) (by decide +kernel)
theorem mg31 : MG 31 := .of (by decide) (by decide) (by decide +kernel) (by decide +kernel)
theorem mg127 : MG 127 := .of (by decide) (by decide) (by decide +kernel) (by decide +kernel)
theorem mg511 : MG 511 := .of (by decide) (by decide) (by decide +kernel) (by decide +kernel)
theorem mg2047 : MG 2047 := .of (by decide) (by decide) (by decide +kernel) (by decide +kernel)
theorem MG.at {m i j : Nat} (M : MG m) (hi : i ≤ m) (hj : j ≤ m) : ∃ k, k ≤ m ∧ lcgI m i k = j := by
  obtain ⟨p, hp, rfl⟩ := M.all i hi
  obtain ⟨q, hq, rfl⟩ := M.all j hj
  have turn : ∀ k, lcgN m (m + 1 + k) = lcgN m k := fun k => by
    induction k with
    | zero => exact M.round
    | succ k ih => show (lcgN m (m + 1 + k) * 5 + 1) % (m + 1) = _; rw [ih]; rfl
  by_cases c : p ≤ q
  · exact ⟨q - p, by omega, by rw [lcgN_add, Nat.add_sub_cancel' c]⟩
  · exact ⟨m + 1 + q - p, by omega, by rw [lcgN_add, show p + (m + 1 + q - p) = m + 1 + q by omega, turn]⟩
end TR
/-! ## S1 -/
set_option Elab.async false
set_option linter.all false
set_option maxRecDepth 100000
namespace TR
open PySem L2 PySem.Spec PyProof.Rows
section
variable {m i j k : Nat} {h : Int} {owner : Array (Option Nat)}
theorem MG.runs (M : MG m) (h : Int) (hj : j ≤ m) : ∃ n, n ≤ m + 12 ∧ runI m (SetTable.bits h) n = j :=
  (M.at (runI_le m (SetTable.bits h) 12) hj).elim fun k q => ⟨12 + k, by omega, (runI_tail (bits_lt h) k).trans q.2⟩
theorem MG.meets (M : MG m) (h : Int) (hj : j ≤ m) : ∃ k, k < 10 * SetTable.turns m ∧ way m h k = j := by
  obtain ⟨n, hn, en⟩ := M.runs h hj
  obtain ⟨c, hc, ec⟩ := run_nth m (SetTable.bits h) n
  refine ⟨c, ?_, (congrArg SetTable.Probe.j ec).trans en⟩
  show c < 10 * (m + 15)
  omega
theorem way_in (m : Nat) (h : Int) (k : Nat) : way m h k ≤ m := by
  have b := runEnd_bd (m := m) (i := SetTable.bits h % (m + 1)) (Nat.le_of_lt_succ (Nat.mod_lt (SetTable.bits h) (Nat.succ_pos m)))
  refine Nat.le_trans (Nat.le_add_right _ _) (nth_in k (runAt m _ _) ?_)
  show SetTable.bits h % (m + 1) + (SetTable.runEnd m (SetTable.bits h % (m + 1)) - SetTable.bits h % (m + 1)) ≤ m
  omega
theorem least_of (p : Nat → Prop) (n : Nat) (h : p n) : ∃ k, k ≤ n ∧ p k ∧ ∀ c, c < k → ¬ p c := st_least n h
theorem MG.free (M : MG m) (owner : Array (Option Nat)) (h : Int) (hj : j ≤ m) (hf : oAt owner j = none) :
    ∃ c, SetTable.layClean.free m owner (SetTable.turns m) (SetTable.bits h % (m + 1)) (SetTable.bits h) = some (way m h c) ∧ oAt owner (way m h c) = none ∧ ∀ k, k < c → oAt owner (way m h k) ≠ none := by
  obtain ⟨n, hn, en⟩ := M.runs h hj
  have e1 : way m h (off m (SetTable.bits h % (m + 1)) (SetTable.bits h) n) = j := (congrArg SetTable.Probe.j (nth_off m n _ _)).trans ((congrArg Prod.fst (itL_run m (SetTable.bits h) n)).trans en)
  obtain ⟨c, c1, c2, c3⟩ := least_of (fun k => oAt owner (way m h k) = none) (off m (SetTable.bits h % (m + 1)) (SetTable.bits h) n) (by show oAt owner _ = none; rw [e1, hf])
  have hlt : n < SetTable.turns m := by show n < m + 15; omega
  exact ⟨c, free_spec m owner (SetTable.turns m) n _ _ c hlt c1 (fun k hk => Option.isNone_eq_false_iff.mpr (Option.isSome_iff_ne_none.mpr (c3 k hk))) (by rw [Option.isNone_iff_eq_none]; exact c2), c2, c3⟩
/-- one more is seated -/
theorem MG.seat (M : MG m) {done : List Int} (W : Own m done owner) (hl : done.length ≤ m) (h : Int) :
    ∃ j, SetTable.layClean.free m owner (SetTable.turns m) (SetTable.bits h % (m + 1)) (SetTable.bits h) = some j ∧ Own m (done ++ [h]) (owner.setIfInBounds j (some done.length)) := by
  obtain ⟨taken, ht, hin⟩ := W.ps
  obtain ⟨u, u1, u2⟩ := st_missing taken (m + 1) (by omega)
  have uf : oAt owner u = none := Classical.byContradiction fun z => u2 (hin u (by omega) z)
  obtain ⟨c, e1, e2, e3⟩ := M.free owner h (j := u) (by omega) uf
  generalize hy : way m h c = y at e1 e2
  have ym : y ≤ m := by rw [← hy]; exact way_in m h c
  have self : oAt (owner.setIfInBounds y (some done.length)) y = some done.length := oAt_set_self _ (by rw [W.sz]; omega)
  have keep : ∀ {z}, oAt owner z ≠ none → oAt (owner.setIfInBounds y (some done.length)) z ≠ none := fun {z} hz => by
    by_cases q : z = y
    · subst q; exact absurd e2 hz
    · rw [oAt_set_ne _ q]; exact hz
  refine ⟨y, e1, ⟨(Array.size_setIfInBounds ..).trans W.sz, fun z k zm ek => ?_, fun k hk => ?_, y :: taken, ?_, fun z zm ez => ?_⟩⟩
  · by_cases q : z = y
    · subst q
      obtain rfl : done.length = k := by rw [self] at ek; exact Option.some.inj ek
      exact ⟨h, c, by simp, hy, fun k' hk' => keep (e3 k' hk')⟩
    · rw [oAt_set_ne _ q] at ek
      obtain ⟨h', c', a1, a2, a3⟩ := W.at_ z k zm ek
      exact ⟨h', c', (List.getElem?_append_left (List.getElem?_eq_some_iff.mp a1).1).trans a1, a2, fun k' hk' => keep (a3 k' hk')⟩
  · rcases Nat.lt_or_ge k done.length with q | q
    · obtain ⟨z, zm, ez⟩ := W.all k q
      refine ⟨z, zm, ?_⟩
      rw [oAt_set_ne _ (by rintro rfl; rw [e2] at ez; cases ez)]
      exact ez
    · have : k = done.length := by simp at hk; omega
      subst this
      exact ⟨y, ym, self⟩
  · simp [ht]
  · by_cases q : z = y
    · exact q ▸ List.mem_cons_self
    · rw [oAt_set_ne _ q] at ez
      exact List.mem_cons_of_mem _ (hin z zm ez)
theorem MG.seats (M : MG m) : ∀ (rest done : List Int) (owner : Array (Option Nat)), Own m done owner → done.length + rest.length ≤ m → ∃ o2, rest.foldl (stepF m) (some (owner, done.length)) = some (o2, (done ++ rest).length) ∧ Own m (done ++ rest) o2
  | [], done, owner, W, _ => ⟨owner, by simp, by simpa using W⟩
  | h :: rest, done, owner, W, hl => by
    have hl2 : done.length + (rest.length + 1) ≤ m := hl
    obtain ⟨y, e, W2⟩ := M.seat W (by omega) h
    have e3 : (done ++ [h]).length = done.length + 1 := by simp
    obtain ⟨o2, f, W3⟩ := M.seats rest (done ++ [h]) _ W2 (by omega)
    rw [List.append_assoc, List.singleton_append] at f W3
    refine ⟨o2, ?_, W3⟩
    show rest.foldl (stepF m) (stepF m (some (owner, done.length)) h) = _
    rw [stepF_some e, ← e3]
    exact f
theorem MG.lay (M : MG m) {hs : Array Int} (hn : hs.size ≤ m) : ∃ o2, SetTable.layClean m hs = some o2 ∧ Own m hs.toList o2 := by
  obtain ⟨o2, f, W⟩ := M.seats hs.toList [] _ (Own.init m) (by simpa using hn)
  refine ⟨o2, ?_, by simpa using W⟩
  rw [layClean_eq, show List.foldl (stepF m) (some (Array.replicate (m + 1) none, 0)) hs.toList = _ from f]
  rfl
end
/-- a table in which each hash is found again -/
structure Tb (t : SetTable) (hs : List Int) : Prop where
  up : Ris t.place.toList
  clean : t.dummies = #[]
  many : t.place.size = hs.length
  mg : MG t.mask
  inn : ∀ x ∈ t.place.toList, x ≤ t.mask
  road : ∀ (i : Nat) (h : Int) (j : Nat), hs[i]? = some h → t.place.toList[i]? = some j → ∃ k, way t.mask h k = j ∧ ∀ c, c < k → way t.mask h c ∈ t.place.toList
section
variable {t : SetTable} {hs : List Int} {h : Int}
theorem Tb.len (T : Tb t hs) : t.place.toList.length = hs.length := (Array.length_toList (xs := t.place)).trans T.many
/-- the first free place -/
theorem Tb.gap (T : Tb t hs) (hl : hs.length ≤ t.mask) (h : Int) : ∃ K, K < 10 * SetTable.turns t.mask ∧ way t.mask h K ∉ t.place.toList ∧ ∀ k, k < K → way t.mask h k ∈ t.place.toList := by
  obtain ⟨y, y1, y2⟩ := st_missing t.place.toList (t.mask + 1) (by have := T.len; omega)
  obtain ⟨c, c1, c2⟩ := T.mg.meets h (j := y) (by omega)
  obtain ⟨K, k1, k2, k3⟩ := least_of (fun k => way t.mask h k ∉ t.place.toList) c (by show way t.mask h c ∉ _; rw [c2]; exact y2)
  exact ⟨K, by omega, k2, fun k hk => Classical.byContradiction (k3 k hk)⟩
theorem Tb.ahead (T : Tb t hs) {K i y : Nat} (hK : way t.mask h K ∉ t.place.toList) (hi : hs[i]? = some h) (hy : t.place.toList[i]? = some y) : ∃ k, k < K ∧ way t.mask h k = y := by
  obtain ⟨k, e, q⟩ := T.road i h y hi hy
  have nK : k ≠ K := by rintro rfl; exact hK (e ▸ List.mem_of_getElem? hy)
  exact ⟨k, Classical.byContradiction fun z => hK (q K (by omega)), e⟩
theorem Tb.put (T : Tb t hs) {K : Nat} (hK : way t.mask h K ∉ t.place.toList) (hb : ∀ k, k < K → way t.mask h k ∈ t.place.toList) :
    SetTable.below t.place (way t.mask h K) ≤ hs.length ∧ Tb (t.put (way t.mask h K)).1 (hs.take (SetTable.below t.place (way t.mask h K)) ++ h :: hs.drop (SetTable.below t.place (way t.mask h K))) ∧ (t.put (way t.mask h K)).1.fill = hs.length + 1 := by
  have ym : way t.mask h K ≤ t.mask := way_in _ _ _
  generalize hy : way t.mask h K = y at hK ym
  have b1 : SetTable.below t.place y ≤ t.place.size := (below_cut T.up y).1
  have b2 : SetTable.below t.place y ≤ t.place.toList.length := by simpa using b1
  have b3 : SetTable.below t.place y ≤ hs.length := by rw [← T.many]; exact b1
  have pl := put_place t y
  have sz : (t.put y).1.place.size = hs.length + 1 := by
    rw [← Array.length_toList, pl, len_ins _ b2, T.len]
  have grow : ∀ {x}, x ∈ t.place.toList → x ∈ (t.put y).1.place.toList := fun {x} hx => pl ▸ mem_ins.2 (.inr hx)
  refine ⟨b3, ⟨ris_insert T.up fun e => hK (List.mem_of_getElem? ((Array.getElem?_toList ..).trans e)), put_dm T.clean y, sz.trans (len_ins _ b3 h).symm, T.mg, fun x hx => ?_, fun i h2 z e1 e2 => ?_⟩, ?_⟩
  · rw [pl] at hx
    exact (mem_ins.1 hx).elim (fun e => e ▸ ym) (T.inn x)
  · rw [tins_get hs b3] at e1
    rw [pl, tins_get _ b2] at e2
    have old : ∀ i', hs[i']? = some h2 → t.place.toList[i']? = some z → ∃ k, way t.mask h2 k = z ∧ ∀ c, c < k → way t.mask h2 c ∈ (t.put y).1.place.toList := fun i' q1 q2 =>
      (T.road i' h2 z q1 q2).elim fun k q => ⟨k, q.1, fun c hc => grow (q.2 c hc)⟩
    by_cases c1 : i < SetTable.below t.place y
    · rw [if_pos c1] at e1 e2; exact old i e1 e2
    · rw [if_neg c1] at e1 e2
      by_cases c2 : i = SetTable.below t.place y
      · rw [if_pos c2] at e1 e2
        cases e1; cases e2
        exact ⟨K, hy, fun c hc => grow (hb c hc)⟩
      · rw [if_neg c2] at e1 e2; exact old (i - 1) e1 e2
  · show (t.put y).1.place.size + (t.put y).1.dummies.size = hs.length + 1
    rw [sz, put_dm T.clean y]; rfl
/-- laid anew -/
theorem relay_tb (t : SetTable) {hs : Array Int} {wanted M : Nat} (hw : SetTable.sizeAbove wanted - 1 = M) (G : MG M) (hn : hs.size ≤ M) :
    ∃ t2 order, t.relaid hs wanted = some (t2, order) ∧ order.toList.Perm (List.range hs.size) ∧ Tb t2 (order.toList.map fun i => hs.getD i 0) ∧ t2.mask = M ∧ t2.led = t.led ∧ t2.plain = t.plain := by
  obtain ⟨ow, el, W⟩ := G.lay hn
  have rs := ris_live (fun j => ow.getD j none) (List.range (M + 1)) List.pairwise_lt_range
  have r1 : Ris ((liveOf M ow).map (·.1)) := rs.1
  have live : ∀ {y k : Nat}, (y, k) ∈ liveOf M ow ↔ y ≤ M ∧ oAt ow y = some k := mem_live W.sz
  have hlen : (liveOf M ow).length = hs.size := by
    obtain ⟨tk, p1, p2⟩ := W.ps
    have nd1 : ((liveOf M ow).map fun q : Nat × Nat => q.1).Nodup := List.Pairwise.imp (fun q => Nat.ne_of_lt q) r1
    have le1 := nat_nodup_len ((liveOf M ow).map (·.1)) tk nd1 (by
      rintro x hx
      obtain ⟨⟨y, k⟩, hq, rfl⟩ := List.mem_map.mp hx
      exact p2 y (live.1 hq).1 (by rw [(live.1 hq).2]; simp))
    have le2 := nat_nodup_len (List.range hs.size) ((liveOf M ow).map (·.2)) List.nodup_range (by
      intro k hk
      obtain ⟨y, b1, b2⟩ := W.all k (by simpa using hk)
      exact List.mem_map.mpr ⟨(y, k), live.2 ⟨b1, b2⟩, rfl⟩)
    simp only [List.length_map, List.length_range, Array.length_toList] at le1 le2 p1
    omega
  refine ⟨tabOf t M ow, ((liveOf M ow).map (·.2)).toArray, by rw [relaid_eq, hw, el]; rfl, perm_range hs.size _ (by simpa using hlen) fun k hk => ?_, ⟨r1, rfl, by simp [tabOf], G, fun x hx => ?_, fun i h y q1 q2 => ?_⟩, rfl, rfl, rfl⟩
  · obtain ⟨y, b1, b2⟩ := W.all k (by simpa using hk)
    exact List.mem_map.mpr ⟨(y, k), live.2 ⟨b1, b2⟩, rfl⟩
  · have := List.mem_range.mp (rs.2 x hx)
    show x ≤ M
    omega
  · have q1' : (((liveOf M ow).map (·.2)).map fun i => hs.getD i 0)[i]? = some h := q1
    have q2' : ((liveOf M ow).map (·.1))[i]? = some y := q2
    rw [List.getElem?_map, List.getElem?_map] at q1'
    rw [List.getElem?_map] at q2'
    obtain ⟨⟨y', k⟩, hq, rfl⟩ := Option.map_eq_some_iff.mp q2'
    rw [hq] at q1'
    have eh : hs.getD k 0 = h := Option.some.inj q1'
    obtain ⟨b1, b2⟩ := live.1 (List.mem_of_getElem? hq)
    obtain ⟨h0, c, a1, a2, a3⟩ := W.at_ y' k b1 b2
    have e0 : hs.getD k 0 = h0 := by
      have : hs[k]? = some h0 := by rw [← Array.getElem?_toList]; exact a1
      simp [Array.getD_eq_getD_getElem?, this]
    obtain rfl : h0 = h := e0.symm.trans eh
    refine ⟨c, a2, fun k' hk' => ?_⟩
    obtain ⟨k2, z⟩ := Option.ne_none_iff_exists'.mp (a3 k' hk')
    exact List.mem_map.mpr ⟨(way M h0 k', k2), live.2 ⟨way_in M h0 k', z⟩, rfl⟩
end
end TR
/-! ## S2 -/
set_option Elab.async false
set_option linter.all false
set_option maxRecDepth 100000
namespace TR
open PySem L2 PySem.Spec PyProof.Rows
/-- the set of tuples of ints that stands at a: its rows in the table's order -/
structure Sx (P : Program) (w : World) (h : Heap) (a : Addr) (L : List (Addr × List Int)) (es : Array (Int × Value)) (ep : Nat) (t : SetTable) : Prop where
  obj : ∃ o, h.get? a = some o ∧ o.ExactSet ∧ o.data = .set es ep t
  ents : es.toList = rowsOf P w L
  tb : Tb t (L.map fun p => thash P w p.2)
  uniq : (L.map (·.2)).Nodup
  elts : ∀ p ∈ L, IsT P w h p.2 p.1
  plain : t.plain = true
  order : w.params.followText "set-order" = true ∨ t.led = true
  slack : L.length * 5 < t.mask * 3
  kind : t.mask ∈ [7, 31, 127, 511, 2047]
abbrev prb (m : Nat) (h : Int) (k : Nat) : SetTable.Probe := nth m (runAt m (SetTable.bits h % (m + 1)) (SetTable.bits h)) k
theorem prb_dm (m : Nat) : ∀ (n : Nat) (p : SetTable.Probe), p.dummy = none → (nth m p n).dummy = none
  | 0, _, e => e
  | n + 1, p, e => prb_dm m n (adv m p) (by unfold adv; split <;> exact e)
section
variable {P : Program} {w : World} {A : Around} {E : Value → Shared → Prop} {s : Shared} {a x : Addr} {k : List Int} {L : List (Addr × List Int)} {es : Array (Int × Value)} {ep : Nat} {t : SetTable}
theorem ents_len (e : es.toList = rowsOf P w L) : es.size = L.length := by simpa [rowsOf] using congrArg List.length e
theorem ents_at (e : es.toList = rowsOf P w L) {i : Nat} {p : Addr × List Int} (hp : L[i]? = some p) : es[i]? = some (thash P w p.2, Value.ref p.1) := by
  have q : es.toList[i]? = some (thash P w p.2, Value.ref p.1) := by rw [e, rowsOf, List.getElem?_map, hp]; rfl
  rwa [Array.getElem?_toList] at q
theorem Sx.fits (G : Sx P w s.heap a L es ep t) : t.fits es.size = true := by
  have q1 : t.place.size = L.length := by simpa using G.tb.many
  have q2 := ents_len G.ents
  have q3 := G.slack
  have q4 : t.dummies.size = 0 := by rw [G.tb.clean]; rfl
  unfold SetTable.fits SetTable.fill
  rw [Bool.and_eq_true, beq_iff_eq, decide_eq_true_eq]
  exact ⟨by omega, by omega⟩
theorem Sx.stays (G : Sx P w s.heap a L es ep t) : ¬ t.gaveWay = true := by
  have o := G.tb.mg.odd
  simp [SetTable.gaveWay, o]
theorem slot_of (G : Sx P w s.heap a L es ep t) {i : Nat} {p : Addr × List Int} (hp : L[i]? = some p) : ∃ y, t.place.toList[i]? = some y := by
  have q : t.place.toList.length = L.length := by simpa using G.tb.len
  exact ⟨_, List.getElem?_eq_getElem (by rw [q]; exact (List.getElem?_eq_some_iff.mp hp).1)⟩
theorem seek (G : Sx P w s.heap a L es ep t) (hx : IsT P w s.heap k x) (hu : A.units < cLine) {K : Nat} (hKf : K < 10 * SetTable.turns t.mask) (gap : way t.mask (thash P w k) K ∉ t.place.toList)
    (full : ∀ c, c < K → way t.mask (thash P w k) c ∈ t.place.toList) {Q : SetFound → Shared → Prop} (yes : k ∈ L.map (·.2) → Q (.there none) s) (no : k ∉ L.map (·.2) → Q (.free (way t.mask (thash P w k) K) false) s) :
    ∀ (f c : Nat) (st : Option SetTable.Probe), st.getD (t.probeStart (thash P w k)) = prb t.mask (thash P w k) c → c ≤ K → K - c < f →
      (∀ (i : Nat) p, L[i]? = some p → p.2 = k → ∃ d, c ≤ d ∧ d < K ∧ t.place.toList[i]? = some (way t.mask (thash P w k) d)) → wpAny (model P w) A (setSearchFrom a (.ref x) (thash P w k) true f st) Q E s := by
  intro f
  induction f with
  | zero => intro c st _ _ z; exact absurd z (Nat.not_lt_zero _)
  | succ f IH =>
    intro c st hst hc hf left
    obtain ⟨o, ho, hex, hd⟩ := G.obj
    rw [setSearchFrom_succ]
    refine wpAny_bind (wpAny_setState_of ho hd G.fits ?_)
    dsimp only
    refine wp_if_neg G.stays ?_
    try refine wpAny_bind (wpAny_pure ?_)
    have fwd : ∀ q, nth t.mask (prb t.mask (thash P w k) c) q = prb t.mask (thash P w k) (c + q) := fun q => (nth_add t.mask c _ q).symm
    have fj : ∀ q, (nth t.mask (prb t.mask (thash P w k) c) q).j = way t.mask (thash P w k) (c + q) := fun q => by rw [fwd]
    have eK : way t.mask (thash P w k) (c + (K - c)) = way t.mask (thash P w k) K := by rw [Nat.add_sub_cancel' hc]
    have hashes : ∀ (i : Nat) p, L[i]? = some p → ((es[i]?.map (·.1)).getD 0 : Int) = thash P w p.2 := fun i p hp => by rw [ents_at G.ents hp]; rfl
    rcases go_spec t G.tb.up G.tb.clean (fun i => (es[i]?.map (·.1)).getD 0) (thash P w k) (10 * SetTable.turns t.mask) (K - c) (prb t.mask (thash P w k) c) (prb_dm _ _ _ rfl) (by omega) (fun q hq => by rw [fj]; exact full _ (by omega)) (by rw [fj, eK]; exact gap) with
      ⟨q, i, hq, hi, hh, pass, met⟩ | ⟨pass, met⟩
    · have met2 : t.probe (fun i => (es[i]?.map (·.1)).getD 0) (thash P w k) (st.getD (t.probeStart (thash P w k))) = some (.candidate (way t.mask (thash P w k) (c + q)) i (prb t.mask (thash P w k) (c + (q + 1)))) := by
        rw [hst, ← fj, ← fwd]; exact met
      rw [met2]
      dsimp only
      rw [fj] at hi
      have live := slot_live G.tb.up hi
      obtain ⟨p, hp⟩ : ∃ p, L[i]? = some p := by
        have q1 : t.place.toList.length = L.length := by simpa using G.tb.len
        exact ⟨_, List.getElem?_eq_getElem (by rw [← q1]; exact (List.getElem?_eq_some_iff.mp hi).1)⟩
      have pin : p ∈ L := List.mem_of_getElem? hp
      have body : wpAny (model P w) A (searchRest a (.ref x) (thash P w k) true f es t (way t.mask (thash P w k) (c + q)) i (prb t.mask (thash P w k) (c + (q + 1)))) Q E s := by
        unfold searchRest
        rw [ents_at G.ents hp]
        dsimp only
        refine wpAny_bind (wpAny_holding (wpAny_eqBool_tuple hu (G.elts p pin) hx ?_))
        refine wpAny_bind (wpAny_setState_of ho hd G.fits ?_)
        dsimp only
        by_cases same : p.2 = k
        · exact wp_if_pos (by simp [same]) (wpAny_pure (yes (List.mem_map.mpr ⟨p, pin, same⟩)))
        · refine wp_if_neg (by simp [same]) ?_
          try refine wpAny_bind (wpAny_pure ?_)
          rw [sameMem]
          dsimp only
          simp only [if_true, live, ents_at G.ents hp]
          refine wpAny_bind (wpAny_isSame_ref_self (wpAny_bind (wpAny_pure ?_)))
          simp only [if_true]
          refine wp_if_neg (by simp [same]) ?_
          refine IH (c + (q + 1)) _ rfl (by omega) (by omega) fun i2 p2 h2 k2 => ?_
          obtain ⟨d, d1, d2, d3⟩ := left i2 p2 h2 k2
          have e2 : ((es[i2]?.map (·.1)).getD 0 : Int) = thash P w k := (hashes i2 p2 h2).trans (congrArg (thash P w) k2)
          refine ⟨d, Classical.byContradiction fun z => ?_, d2, d3⟩
          by_cases zz : d = c + q
          · subst zz
            have l2 := slot_live G.tb.up d3
            rw [live] at l2
            obtain rfl : i = i2 := SetTable.Slot.live.inj l2
            rw [hp] at h2
            exact same (by rw [Option.some.inj h2]; exact k2)
          · exact pass (d - c) i2 (by omega) (by rw [fj, Nat.add_sub_cancel' d1]; exact d3) e2
      by_cases hl : t.led = true
      · refine wp_if_neg (by simp [hl]) ?_
        try refine wpAny_bind (wpAny_pure ?_)
        exact body
      · refine wp_if_pos (by simp [hl]) ?_
        refine wpAny_bind (seen_tup hx (fun y hy => ?_) ?_)
        · obtain ⟨e, he, rfl⟩ := List.mem_map.mp hy
          have he2 : e ∈ es.toList := by
            have : e ∈ es ∧ e.1 = thash P w k := by simpa using he
            simpa using this.1
          rw [G.ents] at he2
          obtain ⟨p2, hp2, rfl⟩ := List.mem_map.mp he2
          exact ⟨p2.2, p2.1, rfl, G.elts p2 hp2⟩
        · refine wp_if_neg (by decide) ?_
          try refine wpAny_bind (wpAny_pure ?_)
          exact body
    · have met2 : t.probe (fun i => (es[i]?.map (·.1)).getD 0) (thash P w k) (st.getD (t.probeStart (thash P w k))) = some (.empty (way t.mask (thash P w k) K) none) := by
        rw [hst, ← eK, ← fj]; exact met
      rw [met2]
      dsimp only
      refine wpAny_pure (no fun hm => ?_)
      obtain ⟨p2, h2, k2⟩ := List.mem_map.mp hm
      obtain ⟨i2, l2, g2⟩ := List.getElem_of_mem h2
      have h3 : L[i2]? = some p2 := by rw [List.getElem?_eq_getElem l2, g2]
      obtain ⟨d, d1, d2, d3⟩ := left i2 p2 h3 k2
      exact pass (d - c) i2 (by omega) (by rw [fj, Nat.add_sub_cancel' d1]; exact d3) ((hashes i2 p2 h3).trans (congrArg (thash P w) k2))
theorem seek0 (G : Sx P w s.heap a L es ep t) (hx : IsT P w s.heap k x) (hu : A.units < cLine) {Q : SetFound → Shared → Prop} (yes : k ∈ L.map (·.2) → Q (.there none) s)
    (no : ∀ K, k ∉ L.map (·.2) → way t.mask (thash P w k) K ∉ t.place.toList → (∀ c, c < K → way t.mask (thash P w k) c ∈ t.place.toList) → Q (.free (way t.mask (thash P w k) K) false) s) : wpAny (model P w) A (setSearch a (.ref x) (thash P w k) true) Q E s := by
  have sl := G.slack
  obtain ⟨K, k1, k2, k3⟩ := G.tb.gap (by simpa using (by omega : L.length ≤ t.mask)) (thash P w k)
  have k4 : K < 100000 := by
    have := G.tb.mg.big
    have : SetTable.turns t.mask = t.mask + 15 := rfl
    omega
  refine seek G hx hu k1 k2 k3 yes (fun hn => no K hn k2 k3) 100000 0 none rfl (Nat.zero_le _) (by omega) fun i p hp hk => ?_
  obtain ⟨y, hy⟩ := slot_of G hp
  obtain ⟨c, hc, e⟩ := G.tb.ahead (h := thash P w k) k2 (i := i) (by rw [List.getElem?_map, hp, ← hk]; rfl) hy
  exact ⟨c, Nat.zero_le _, hc, by rw [hy, e]⟩
end
end TR
/-! ## S3 -/
set_option Elab.async false
set_option linter.all false
set_option maxRecDepth 100000
namespace TR
open PySem L2 PySem.Spec PyProof.Rows
section
variable {P : Program} {w : World} {A : Around} {E : Value → Shared → Prop} {s : Shared} {a x : Addr} {k : List Int} {L : List (Addr × List Int)} {es : Array (Int × Value)} {ep : Nat} {t : SetTable} {o : Obj}
theorem regrow (ho : s.heap.get? a = some o) (hex : o.ExactSet) (hd : o.data = .set es ep t) (ents : es.toList = rowsOf P w L) (many : t.place.size = es.size) (clean : t.dummies = #[]) (low : es.size ≤ t.mask) (uniq : (L.map (·.2)).Nodup)
    (elts : ∀ p ∈ L, IsT P w s.heap p.2 p.1) (plain : t.plain = true) (order : w.params.followText "set-order" = true ∨ t.led = true) {wanted M : Nat} (hw : SetTable.sizeAbove wanted = M + 1) (G : MG M) (kind : M ∈ [7, 31, 127, 511, 2047]) (slack : L.length * 5 < M * 3) {Q : Unit → Shared → Prop}
    (fin : ∀ h2 L2 es2 ep2 t2, Heap.SameBut a s.heap h2 → Sx P w h2 a L2 es2 ep2 t2 → L2.Perm L → Q () { s with heap := h2 }) : wpAny (model P w) A (setRelay a wanted) Q E s := by
  have n1 := ents_len ents
  have n2 := G.big
  have fit : t.fits es.size = true := by
    have q4 : t.dummies.size = 0 := by rw [clean]; rfl
    unfold SetTable.fits SetTable.fill
    rw [Bool.and_eq_true, beq_iff_eq, decide_eq_true_eq]
    exact ⟨many, by omega⟩
  have n3 : (es.map (·.1)).size = L.length := by rw [Array.size_map, n1]
  obtain ⟨t2, ord, e1, pm, T, em, el, epl⟩ := relay_tb t (hs := es.map (·.1)) (wanted := wanted) (by rw [hw, Nat.add_sub_cancel]) G (by rw [n3]; omega)
  rw [n3] at pm
  obtain ⟨L2, r1, r2, r3⟩ := order_rows L es ord ents pm
  rw [← r3] at T
  have n4 : (ord.filterMap (es[·]?)).size = L.length := (ents_len r1).trans r2.length_eq
  rw [setRelay_eq]
  refine wpAny_bind (wpAny_setState_of ho hd fit ?_)
  dsimp only
  refine wp_if_neg (by rw [sizeLine_eq, hw]; omega) ?_
  try refine wpAny_bind (wpAny_pure ?_)
  rw [e1]
  dsimp only
  refine wpAny_bind ?_
  refine wp_if_neg (by rw [n4, n1]; simp) ?_
  try refine wpAny_bind (wpAny_pure ?_)
  refine wpAny_pure ?_
  dsimp only
  refine wpAny_storeSet_of ho hd ?_ (by rw [n4, sizeLine_eq]; omega)
  have but : Heap.SameBut a s.heap (s.heap.update a (Obj.putSet (ord.filterMap (es[·]?)) t2)) := Heap.SameBut.update ..
  exact fin _ L2 _ (ep + 1) t2 but ⟨⟨_, store_at ho hd, ⟨hex.1, hex.2.1, hex.2.2⟩, rfl⟩, r1, T, (r2.map (·.2)).nodup_iff.mpr uniq, fun p hp => isT_same (elts p (r2.mem_iff.mp hp)) ho hd but, epl.trans plain, el ▸ order, by rw [r2.length_eq, em]; exact slack, by rw [em]; exact kind⟩ r2
theorem size_5 : SetTable.sizeAbove (SetTable.grown 5) = 31 + 1 := by decide +kernel
theorem size_19 : SetTable.sizeAbove (SetTable.grown 19) = 127 + 1 := by decide +kernel
theorem size_77 : SetTable.sizeAbove (SetTable.grown 77) = 511 + 1 := by decide +kernel
theorem size_307 : SetTable.sizeAbove (SetTable.grown 307) = 2047 + 1 := by decide +kernel
theorem next_mask {m n : Nat} (hm : m ∈ [7, 31, 127, 511, 2047]) (h1 : n * 5 < m * 3) (h2 : (n + 1) * 5 ≥ m * 3) (h3 : n < 1228) : ∃ M, SetTable.sizeAbove (SetTable.grown (n + 1)) = M + 1 ∧ MG M ∧ M ∈ [7, 31, 127, 511, 2047] ∧ (n + 1) * 5 < M * 3 := by
  simp only [List.mem_cons, List.not_mem_nil, or_false] at hm
  rcases hm with rfl | rfl | rfl | rfl | rfl
  · obtain rfl : n = 4 := by omega
    exact ⟨31, size_5, mg31, by decide, by decide⟩
  · obtain rfl : n = 18 := by omega
    exact ⟨127, size_19, mg127, by decide, by decide⟩
  · obtain rfl : n = 76 := by omega
    exact ⟨511, size_77, mg511, by decide, by decide⟩
  · obtain rfl : n = 306 := by omega
    exact ⟨2047, size_307, mg2047, by decide, by decide⟩
  · omega
/-- one tuple is added -/
theorem Sx.add (G : Sx P w s.heap a L es ep t) (hx : IsT P w s.heap k x) (hu : A.units < cLine) (few : L.length < 1228) {Q : Bool → Shared → Prop}
    (fin : ∀ b h2 L2 es2 ep2 t2, Heap.SameBut a s.heap h2 → Sx P w h2 a L2 es2 ep2 t2 → (k ∈ L.map (·.2) → L2 = L) → (k ∉ L.map (·.2) → L2.Perm ((x, k) :: L)) → Q b { s with heap := h2 }) : wpAny (model P w) A (setAddHashed a (.ref x) (thash P w k)) Q E s := by
  obtain ⟨o, ho, hex, hd⟩ := G.obj
  have n1 := ents_len G.ents
  have sl := G.slack
  unfold setAddHashed
  refine wpAny_holding ?_
  rw [show 100000 = 99999 + 1 from rfl, setAddHashedIn_succ]
  refine wpAny_bind (wpAny_setState_of ho hd G.fits ?_)
  dsimp only
  refine wp_if_neg (by simp [byScan, Value.scannable]) ?_
  try refine wpAny_bind (wpAny_pure ?_)
  refine wpAny_bind (seek0 G hx hu (fun hm => wpAny_pure (fin false s.heap L es ep t (Heap.SameBut.refl a s.heap) G (fun _ => rfl) fun z => absurd hm z)) fun K new gap full => ?_)
  dsimp only
  refine wpAny_bind (wpAny_setState_of ho hd G.fits ?_)
  dsimp only
  obtain ⟨b1, T1, f1⟩ := G.tb.put gap full
  obtain ⟨t1, e1⟩ : ∃ t1, t1 = (t.put (way t.mask (thash P w k) K)).1 := ⟨_, rfl⟩
  have m1 : t1.mask = t.mask := by rw [e1]; rfl
  have l1 : t1.led = t.led := by rw [e1]; rfl
  have p1 : t1.plain = true := by rw [e1]; exact G.plain
  have c1 : t1.dummies = #[] := by rw [e1]; exact put_dm G.tb.clean _
  rw [show t.put (way t.mask (thash P w k) K) = (t1, SetTable.below t.place (way t.mask (thash P w k) K)) by rw [e1]; rfl]
  rw [← e1] at T1 f1
  generalize SetTable.below t.place (way t.mask (thash P w k) K) = at_ at b1 T1
  dsimp only
  first
    | (refine wpAny_bind ?_; refine wp_if_pos p1 ?_; refine hashBy_tup hx ?_)
    | refine wp_if_pos p1 (wpAny_bind (hashBy_tup hx ?_))
  simp only [if_true]
  have r1 : (SetTable.insertAt es at_ (thash P w k, Value.ref x)).toList = rowsOf P w (L.take at_ ++ (x, k) :: L.drop at_) := by rw [SetTable.toList_insertAt, rows_put, G.ents]
  have r2 : (L.take at_ ++ (x, k) :: L.drop at_).Perm ((x, k) :: L) := put_perm L at_ (x, k)
  have r3 : (L.take at_ ++ (x, k) :: L.drop at_).map (fun p => thash P w p.2) = (L.map fun p => thash P w p.2).take at_ ++ thash P w k :: (L.map fun p => thash P w p.2).drop at_ := by simp
  rw [← r3] at T1
  generalize SetTable.insertAt es at_ (thash P w k, Value.ref x) = es1 at r1
  generalize L.take at_ ++ (x, k) :: L.drop at_ = L1 at r1 r2 T1
  have n2 : L1.length = L.length + 1 := r2.length_eq
  have n3 := ents_len r1
  have u1 : (L1.map (·.2)).Nodup := (r2.map (·.2)).nodup_iff.mpr (List.nodup_cons.mpr ⟨new, G.uniq⟩)
  refine wpAny_bind (wpAny_storeSet_of ho hd ?_ (by rw [n3, n2, sizeLine_eq]; omega))
  have but : Heap.SameBut a s.heap (s.heap.update a (Obj.putSet es1 t1)) := Heap.SameBut.update ..
  have ho1 := store_at (es' := es1) (t' := t1) ho hd
  generalize s.heap.update a (Obj.putSet es1 t1) = h1 at but ho1 ⊢
  have v1 : ∀ p ∈ L1, IsT P w h1 p.2 p.1 := fun p hp => (List.mem_cons.mp (r2.mem_iff.mp hp)).elim (fun e => e ▸ isT_same hx ho hd but) fun q => isT_same (G.elts p q) ho hd but
  have o1 : w.params.followText "set-order" = true ∨ t1.led = true := l1 ▸ G.order
  have fl : t1.fill = L.length + 1 := by simpa using f1
  by_cases crowded : t1.tooFull = true
  · first
      | (refine wpAny_bind ?_; refine wp_if_pos (by simp [crowded]) ?_)
      | (refine wp_if_pos (by simp [crowded]) ?_; refine wpAny_bind ?_)
    have q : (L.length + 1) * 5 ≥ t.mask * 3 := by
      have z : t1.fill * 5 ≥ t1.mask * 3 := of_decide_eq_true crowded
      rwa [fl, m1] at z
    obtain ⟨M, w1, w2, w3, w4⟩ := next_mask G.kind sl q few
    rw [n1]
    refine regrow (s := { s with heap := h1 }) ho1 ⟨hex.1, hex.2.1, hex.2.2⟩ rfl r1 (by rw [n3]; simpa using T1.many) c1 (by rw [n3, n2, m1]; omega) u1 v1 p1 o1 w1 w2 w3 (by rw [n2]; exact w4) fun h2 L2 es2 ep2 t2 but2 G2 pm2 => ?_
    exact wpAny_pure (fin true h2 L2 es2 ep2 t2 (but.trans but2) G2 (fun z => absurd z new) fun _ => pm2.trans r2)
  · first
      | refine wp_if_neg (by simp [crowded]) ?_
      | (refine wpAny_bind ?_; refine wp_if_neg (by simp [crowded]) ?_; refine wpAny_pure ?_)
    refine wpAny_pure (fin true h1 L1 es1 (ep + 1) t1 but ⟨⟨_, ho1, ⟨hex.1, hex.2.1, hex.2.2⟩, rfl⟩, r1, T1, u1, v1, p1, o1, ?_, by rw [m1]; exact G.kind⟩ (fun z => absurd z new) fun _ => r2)
    have z : ¬ t1.fill * 5 ≥ t1.mask * 3 := fun z => crowded (decide_eq_true z)
    rw [n2]
    rw [fl] at z
    omega
theorem Sx.keep {h h2 : Heap} (G : Sx P w h a L es ep t) (ka : ∀ o, h.get? a = some o → h2.get? a = some o) (ke : ∀ p ∈ L, IsT P w h2 p.2 p.1) : Sx P w h2 a L es ep t := by
  obtain ⟨o, ho, r⟩ := G.obj
  exact ⟨⟨o, ka o ho, r⟩, G.ents, G.tb, G.uniq, ke, G.plain, G.order, G.slack, G.kind⟩
abbrev blank (w : World) : SetTable := .fresh 0 0 (!w.params.followText "set-order")
theorem Sx.blank {h : Heap} (ho : h.get? a = some { cls := .type "set", dict := none, data := .set #[] 0 (blank w) }) : Sx P w h a [] #[] 0 (blank w) := by
  refine ⟨⟨_, ho, ⟨rfl, rfl, rfl⟩, rfl⟩, rfl, ⟨List.Pairwise.nil, rfl, rfl, mg7, fun x hx => (by cases hx), fun i h j hi => (by simp at hi)⟩, List.nodup_nil, fun p hp => (by cases hp), rfl, ?_, (by decide : 0 * 5 < 7 * 3), (by decide : 7 ∈ [7, 31, 127, 511, 2047])⟩
  show _ ∨ (!w.params.followText "set-order") = true
  cases w.params.followText "set-order" <;> simp
/-- keys of the rows: few -/
theorem Got.few {ks L : List (Addr × List Int)} {i n : Nat} (g : Got ks i L) (u : (L.map (·.2)).Nodup) (C : List (List Int)) (hC : ∀ p ∈ ks, p.2 ∈ C) (hn : C.length ≤ n) : L.length ≤ n := by
  have sub : ∀ q ∈ L.map (·.2), q ∈ C := fun q hq => by
    obtain ⟨p, hp, rfl⟩ := List.mem_map.mp hq
    exact hC p (List.mem_of_mem_take (g.sub p hp))
  have : (L.map (·.2)).length ≤ C.length := u.length_le_of_subset sub
  rw [List.length_map] at this
  omega
end
end TR
/-! ## S4 -/
set_option Elab.async false
set_option linter.all false
set_option maxRecDepth 100000
namespace TR
open PySem L2 PySem.Spec PyProof.Rows
abbrev blankO (w : World) : Obj := { cls := .type "set", dict := none, data := .set #[] 0 (blank w) }
section
variable {P : Program} {w : World} {A : Around} {E : Value → Shared → Prop} {s : Shared}
/-- the loop of set.update -/
theorem fill_set {I : Addr} {fp wr : List Addr} {G : Array GenState → Array GenState → Prop} {n : Nat} {Pv : Nat → Value → Prop} {St : Nat → Shared → Prop} {R : Result → Shared → Prop} (W : WalksS P w A.in1 I fp wr G n Pv St) (S : Addr) (out : S ∉ fp) (ks : List (Addr × List Int)) (hn : n = ks.length)
    (C : List (List Int)) (hC : ∀ p ∈ ks, p.2 ∈ C) (few : C.length ≤ 1227) (vals : ∀ i v, Pv i v → ∃ p, ks[i]? = some p ∧ v = .ref p.1) (h0 : Heap) (elts : ∀ p ∈ ks, IsT P w h0 p.2 p.1) (fresh : h0.get? S = none) (freshW : ∀ b ∈ wr, h0.get? b = none) (hu : A.in1.units < cLine) :
    ∀ (d i : Nat) (s : Shared), i + d = n → St i s → (∀ b o, h0.get? b = some o → s.heap.get? b = some o) → (∃ L es ep t, Sx P w s.heap S L es ep t ∧ Got ks i L) →
      (∀ s2 L es ep t, Moved (S :: wr) G s s2 → Sx P w s2.heap S L es ep t → Got ks n L → (∀ b o, h0.get? b = some o → s2.heap.get? b = some o) → R (.ok (.ret .none)) s2) → codeAny (model P w) A (.builtin "set.update.loop" ⟨[.ref S, .ref I], []⟩) R s := by
  have up : ∀ b ∈ wr, b ∈ S :: wr := fun b => List.mem_cons_of_mem S
  have stays : ∀ {s s2 : Shared}, Moved wr G s s2 → (∀ b o, h0.get? b = some o → s.heap.get? b = some o) → ∀ b o, h0.get? b = some o → s2.heap.get? b = some o := fun {s s2} m kp b o e =>
    m.heap b o (fun hb => by have := freshW b hb; rw [e] at this; cases this) (kp b o e)
  have own : ∀ {s s2 : Shared} {i L es ep t}, Moved wr G s s2 → Got ks i L → (∀ b o, h0.get? b = some o → s2.heap.get? b = some o) → Sx P w s.heap S L es ep t → Sx P w s2.heap S L es ep t := fun {s s2 i L es ep t} m g kp q =>
    q.keep (fun o e => m.heap S o (fun z => out (W.sub _ z)) e) fun p hp => isT_keep (elts p (List.mem_of_mem_take (g.sub p hp))) kp
  intro d
  induction d with
  | zero =>
    rintro i s hi st kp ⟨L, es, ep, t, q, g⟩ fin
    obtain rfl : i = n := hi
    refine codeAny_builtin F.entry_set_update_loop ?_
    rw [Around.under_plainId F.plain_set_update_loop _]
    show wpAny _ A.in1 (pyNext (.ref I) >>= _) _ _ s
    refine wpAny_bind (W.done s _ _ st fun s2 m => ?_)
    show wpAny _ A.in1 (ret Value.none) _ _ s2
    exact wpAny_pure (fin s2 L es ep t (m.mono up) (own m g (stays m kp) q) g (stays m kp))
  | succ d ih =>
    rintro i s hi st kp ⟨L, es, ep, t, q, g⟩ fin
    refine codeAny_builtin F.entry_set_update_loop ?_
    rw [Around.under_plainId F.plain_set_update_loop _]
    show wpAny _ A.in1 (pyNext (.ref I) >>= _) _ _ s
    refine wpAny_bind (W.item i s _ _ (by omega) st fun v s2 pv st2 m => ?_)
    obtain ⟨p, hp, rfl⟩ := vals i v pv
    have kp2 := stays m kp
    have q2 := own m g kp2 q
    have xt : IsT P w s2.heap p.2 p.1 := isT_keep (elts p (List.mem_of_getElem? hp)) kp2
    show wpAny _ A.in1 (holding [Value.ref p.1] (setAdd S (.ref p.1)) >>= _) _ _ s2
    refine wpAny_bind (wpAny_holding ?_)
    unfold setAdd
    refine wpAny_holding ?_
    refine wpAny_bind (wpAny_pyHash_tuple hu xt ?_)
    have lf := Got.few g q.uniq C hC few
    refine Sx.add (s := { s2 with toks := s2.toks + (p.2.length + 1) }) q2 xt hu (by omega) fun b h3 L3 es3 ep3 t3 but q3 c1 c2 => ?_
    have g3 : Got ks (i + 1) L3 := (Classical.em (p.2 ∈ L.map (·.2))).elim (fun c => by rw [c1 c]; exact g.same hp c) fun c => g.more hp (c2 c)
    have kp3 : ∀ b o, h0.get? b = some o → h3.get? b = some o := fun b o e => by
      rw [but.2 b (by rintro rfl; rw [e] at fresh; cases fresh)]; exact kp2 b o e
    refine wpAny_pure ⟨plainId_quiet F.plain_set_update_loop _, ih (i + 1) _ (by omega) (W.frame _ s2 _ _ st2 (Nat.le_add_right _ _) fun b hb o e => ?_) kp3 ⟨L3, es3, ep3, t3, q3, g3⟩ fun s4 L4 es4 ep4 t4 m4 q4 g4 kp4 => ?_⟩
    · rw [but.2 b (by rintro rfl; exact out hb)]; exact e
    · refine fin s4 L4 es4 ep4 t4 (Moved.trans W.gtrans ((m.mono up).then_heap (Nat.le_add_right _ _) fun b o hb e => ?_) m4) q4 g4 kp4
      rw [but.2 b (by rintro rfl; exact hb List.mem_cons_self)]; exact e
set_option maxHeartbeats 3200000 in
/-- set(xs) -/
theorem make_set {l : Addr} {items : Array Value} (ks : List (Addr × List Int)) (C : List (List Int)) {Q : Value → Shared → Prop} (hh : A.handled = none) (hl : s.heap.IsList l items) (hit : items.toList = ks.map fun p => Value.ref p.1) (elts : ∀ p ∈ ks, IsT P w s.heap p.2 p.1) (hC : ∀ p ∈ ks, p.2 ∈ C)
    (few : C.length ≤ 1227) (hu : A.units + 3 < cLine) (fin : ∀ (h2 : Heap) (tk : Nat) L es ep t, Sx P w h2 s.heap.objs.size L es ep t → Got ks ks.length L → (∀ b o, s.heap.get? b = some o → h2.get? b = some o) → Q (.ref s.heap.objs.size) { s with heap := h2, toks := tk }) :
    wpAny (model P w) A (call (.type "set") [.ref l]) Q E s := by
  have many : items.size = ks.length := by simpa using congrArg List.length hit
  obtain ⟨cc, tl, hmro⟩ := F.called_set.mro
  have f1 := F.called_set.made
  have f2 := F.called_set.sub
  have f3 := F.called_set.notType
  have f4 := F.called_set.canCreate
  have f5 := F.typeCall_set_1 (.ref l)
  have gone : ∀ b, s.heap.objs.size ≤ b → s.heap.get? b = none := fun b hb => Option.eq_none_iff_forall_ne_some.mpr fun o e => absurd (Heap.lt_size e) (Nat.not_lt.mpr hb)
  refine wpAny_call (codeAny_of_tree ?_)
  show wpAny _ _ (callAny (.type "set") _) _ _ _
  refine wpAny_pure ⟨Code.quiet_builtin _ (by decide +kernel), codeAny_builtin F.entry_type_call ?_⟩
  rw [Around.under_plain (weight_type_call_type "set" [.ref l] []) rfl]
  repeat (any_goals (first | assumption | wp_step))
  refine codeAny_mono (code_set_led1 (.ref l) (E := E) (Q₁ := fun obj s₁ => obj = .ref s.heap.objs.size ∧ s₁ = { s with heap := s.heap.push (blankO w) }) ⟨rfl, rfl⟩) fun r s₁ hr => ?_
  match r, hr with
  | .error _, hr => exact hr
  | .ok (.ret obj), hr =>
    obtain ⟨rfl, rfl⟩ := hr
    have hS : (s.heap.push (blankO w)).get? s.heap.objs.size = some (blankO w) := Heap.get?_push_size _ rfl
    have hT : Shared.TypeIs { s with heap := s.heap.push (blankO w) } (.ref s.heap.objs.size) "set" := ⟨_, hS, rfl⟩
    have g1 := F.called_set.init.lookup
    have g2 := F.called_set.init.bind (.ref s.heap.objs.size)
    repeat (any_goals (first | assumption | wp_step))
    refine codeAny_mono (codeAny_call_builtin (R := wants (fun r s₂ => r = .none ∧ ∃ h2 tk L es ep t, s₂ = { s with heap := h2, toks := tk } ∧ Sx P w h2 s.heap.objs.size L es ep t ∧ Got ks ks.length L ∧ (∀ b o, s.heap.get? b = some o → h2.get? b = some o)) E) F.called_set.init.plain F.entry_set_init (check_set_init_1 hT ?_)) fun r₂ s₂ hr₂ => ?_
    · obtain ⟨⟨ocls, odict, odata, oslots⟩, hol, hcl, nl, hdl⟩ := hl
      simp only at hcl hdl
      subst hcl; subst hdl
      have hol2 : (s.heap.push (blankO w)).get? l = some { cls := .type "list", dict := odict, data := .seq items nl, slots := oslots } := Heap.get?_push_of_some _ hol
      have d1 := F.sub_list_set
      have d2 := F.sub_list_frozenset
      have d3 : (Value.type "list" == Value.type "dict") = false := by decide
      have lst1 : (s.heap.push (blankO w)).IsList l items := ⟨_, hol2, rfl, nl, rfl⟩
      unfold Builtin.«set.__init__» noKeywords Builtin.Frozenset.updateFrom
      generalize hPI : pyIter = PI
      wp_walk
      subst hPI
      refine wpAny_pyIter_list lst1 ?_
      refine wpAny_bind (wpAny_runValue ?_)
      have ls : l < s.heap.objs.size := Heap.lt_size hol
      have hh3 : A.in1.in1.in1.handled = none := by simp [hh]
      have z1 : (s.heap.push (blankO w)).objs.size = s.heap.objs.size + 1 := Heap.size_push ..
      have apart : l ≠ (s.heap.push (blankO w)).objs.size := by rw [z1]; exact Nat.ne_of_lt (Nat.lt_succ_of_lt ls)
      refine fill_set ((Walks.list hh3 _ l apart items).toS) s.heap.objs.size (by
        rw [z1, List.mem_cons, List.mem_singleton]
        exact fun z => z.elim (fun z => Nat.ne_of_lt (Nat.lt_succ_self _) z) fun z => Nat.ne_of_gt ls z) ks many C hC few (fun i v hv => ?_) s.heap elts (gone _ (Nat.le_refl _)) (fun b hb => gone b (by rw [List.mem_singleton.mp hb, z1]; exact Nat.le_succ _)) hu items.size 0 _ (Nat.zero_add _)
        ⟨⟨_, Heap.get?_push_size _ rfl, rfl, rfl⟩, (lst1.push _)⟩ (fun b o e => Heap.get?_push_of_some _ (Heap.get?_push_of_some _ e)) ⟨[], #[], 0, _, Sx.blank (Heap.get?_push_of_some _ hS), Got.zero ks⟩ fun s3 L es ep t m q g kp => ?_
      · have e : items.toList[i]? = some v := by rw [Array.getElem?_toList]; exact hv
        rw [hit, List.getElem?_map] at e
        obtain ⟨p, hp, e2⟩ := Option.map_eq_some_iff.mp e
        exact ⟨p, hp, e2.symm⟩
      · obtain ⟨h3, gg, dd, tt, os3⟩ := s3
        obtain rfl : gg = s.gens := m.gens
        obtain rfl : dd = s.drawn := m.drawn
        obtain rfl : os3 = s.os := m.os
        show wpAny _ _ _ _ _ _
        refine wpAny_pure ?_
        show wpAny _ _ (ret Value.none) _ _ _
        rw [many] at g
        exact wpAny_pure ⟨rfl, h3, tt, L, es, ep, t, rfl, q, g, kp⟩
    · match r₂, hr₂ with
      | .error _, hr₂ => exact hr₂
      | .ok (.ret r), hr₂ =>
        obtain ⟨rfl, h2, tk, L, es, ep, t, rfl, q, g, kp⟩ := hr₂
        repeat (any_goals (first | assumption | wp_step))
        exact fin _ _ _ _ _ _ q g kp
end
end TR
/-! ## S5 -/
set_option Elab.async false
set_option linter.all false
set_option maxRecDepth 100000
namespace TR
open PySem L2 PySem.Spec PyProof.Rows
section
variable {P : Program} {w : World} {A : Around} {E : Value → Shared → Prop} {s : Shared}
theorem reads_ints {h : Heap} {k : List Int} {vs : List Value} (r : ItemsAre (intKind P w) k vs) : ReadsAll h vs (k.map .int) [] := by
  induction r with
  | nil => exact .nil
  | cons h1 _ ih =>
    obtain ⟨t, rfl⟩ := Value.isInt_shape h1
    exact .cons (.int _ t) ih
theorem reads_tup {h : Heap} {k : List Int} {b : Addr} (x : IsT P w h k b) : Reads h (.ref b) (.tuple (k.map .int)) [] := by
  obtain ⟨o, its, n, ho, hc, hd, hi⟩ := x
  exact .tuple ho hc hd (reads_ints hi)
abbrev rowE (p : Addr × List Int) : PyData := .tuple (p.2.map .int)
theorem rows_le : PySem.W.dataLe false rowE = fun p q => decide (p.2 ≤ q.2) := by
  funext p q
  show (!PySem.W.dataLt (.tuple (q.2.map .int)) (.tuple (p.2.map .int))) = _
  rw [PySem.W.dataLt_tuple]
  show (!PySem.W.rowLt (q.2.map .int) (p.2.map .int)) = _
  rw [PySem.W.dataLt_ints]
  by_cases c : p.2 ≤ q.2
  · simp [c, List.not_lt.mpr c]
  · simp [c, List.not_le.mp c]
theorem rows_alike (bs : List (Addr × List Int)) : PySem.W.AllAlike (bs.map rowE) := .of fun b b' => by simp [rowE, PySem.W.alike, PySem.W.alike_ints]
theorem rows_sortable {bs : List (Addr × List Int)} (ne : ∀ p ∈ bs, p.2 ≠ []) : PySem.W.Sortable (bs.map rowE) := .inl fun d hd => by
  obtain ⟨⟨b, k⟩, hb, rfl⟩ := List.mem_map.mp hd
  cases k with
  | nil => exact absurd rfl (ne _ hb)
  | cons i k => exact ⟨_, _, rfl⟩
theorem each_refs : ∀ bs : List (Addr × List Int), PySem.W.EachIs (fun v (p : Addr × List Int) => v = Value.ref p.1) (bs.map fun p => Value.ref p.1) bs
  | [] => .nil
  | p :: bs => .cons rfl (each_refs bs)
theorem refs_each : ∀ {vs : List Value} {bs : List (Addr × List Int)}, PySem.W.EachIs (fun v (p : Addr × List Int) => v = Value.ref p.1) vs bs → vs = bs.map fun p => Value.ref p.1
  | _, _, .nil => rfl
  | _, _, .cons e t => by rw [e, refs_each t]; rfl
theorem each_reads {h : Heap} {Z : List Addr → Prop} (hz : Z []) : ∀ bs : List (Addr × List Int), (∀ p ∈ bs, IsT P w h p.2 p.1) → PySem.W.EachIs (fun v p => ∃ as, Reads h v (rowE p) as ∧ Z as) (bs.map fun p => Value.ref p.1) bs
  | [], _ => .nil
  | p :: bs, x => .cons ⟨[], reads_tup (x p List.mem_cons_self), hz⟩ (each_reads hz bs fun q hq => x q (List.mem_cons_of_mem _ hq))
theorem ms_rows (bs : List (Addr × List Int)) : (bs.mergeSort (PySem.W.dataLe false rowE)).Perm bs ∧ (bs.mergeSort (PySem.W.dataLe false rowE)).Pairwise (fun q r => q.2 ≤ r.2) := by
  refine ⟨List.mergeSort_perm _ _, ?_⟩
  rw [rows_le]
  refine List.Pairwise.imp (fun q => of_decide_eq_true q) (List.pairwise_mergeSort (fun x y z p q => ?_) (fun x y => ?_) bs)
  · exact decide_eq_true (List.le_trans (of_decide_eq_true p) (of_decide_eq_true q))
  · rw [Bool.or_eq_true]
    exact (List.le_total x.2 y.2).imp (fun q => decide_eq_true q) fun q => decide_eq_true q
theorem shallow (k : List Int) : PyData.depth (.tuple (k.map .int)) = 1 := by
  show PyData.depthAll _ + 1 = 1
  rw [PySem.W.depth_ints]
theorem swo0 : SrtO.Swo (fun _ _ : Value => false) := by constructor <;> simp
theorem perm_few {α : Type} {l m : List α} (h : l.Perm m) (hl : ¬ 2 ≤ m.length) : l = m := by
  match m, hl with
  | [], _ => exact List.perm_nil.mp h
  | [x], _ => exact List.perm_singleton.mp h
  | _ :: _ :: _, hl => simp at hl
theorem few_sorted {bs : List (Addr × List Int)} (hl : ¬ 2 ≤ bs.length) : bs.Pairwise (fun q r => q.2 ≤ r.2) := by
  match bs, hl with
  | [], _ => exact .nil
  | [x], _ => exact List.pairwise_singleton _ _
  | _ :: _ :: _, hl => simp at hl
/-- list.sort of tuples of ints -/
theorem sort_rows {a : Addr} {n : Nat} (bs : List (Addr × List Int)) (ho : s.heap.get? a = some (seqObj "list" (bs.map fun p => Value.ref p.1).toArray n)) (tp : ∀ p ∈ bs, IsT P w s.heap p.2 p.1) (ne : 2 ≤ bs.length → ∀ p ∈ bs, p.2 ≠ []) (hL : bs.length ≤ sizeLine) (hu : A.units + 3 < cLine)
    {Q : Value → Shared → Prop} (fin : ∀ L2 : List (Addr × List Int), L2.Perm bs → L2.Pairwise (fun q r => q.2 ≤ r.2) → Q .none { s with heap := PyProof.Rows.sortedHeap s.heap a (bs.map fun p => Value.ref p.1) (L2.map fun p => Value.ref p.1).toArray }) : wpAny (model P w) A (call (.builtin "list.sort") [.ref a]) Q E s := by
  by_cases c : 2 ≤ bs.length
  · refine PySem.W.list_sort_data (enc := rowE) ho (each_refs bs) (each_reads (Z := fun as => a ∉ as) (by simp) bs tp) (rows_alike bs) (rows_sortable (ne c)) hL (fun b _ => by rw [shallow]; omega) fun out _ e => ?_
    rw [refs_each e]
    exact fin _ (ms_rows bs).1 (ms_rows bs).2
  · refine wpAny_call_entry PyProof.Rows.slot_list_sort ⟨_, ho, rfl⟩ PyProof.Rows.entry_list_sort (SrtO.list_sort_ord swo0 ho (by simpa using hL) (fun h2 => absurd (by simpa using h2) c) fun out h1 h2 => ⟨_, rfl, ?_⟩) (PyProof.Rows.args_list_sort _)
    rw [perm_few h2.perm (by simpa using c)]
    exact fin bs (List.Perm.refl _) (few_sorted c)
/-- sorted(list) of tuples of ints -/
theorem sorted_rows {l : Addr} (bs : List (Addr × List Int)) (hl : s.heap.IsList l (bs.map fun p => Value.ref p.1).toArray) (tp : ∀ p ∈ bs, IsT P w s.heap p.2 p.1) (ne : 2 ≤ bs.length → ∀ p ∈ bs, p.2 ≠ []) (hL : bs.length ≤ sizeLine) (hu : A.units + 3 < cLine)
    {Q : Value → Shared → Prop} (fin : ∀ L2 : List (Addr × List Int), L2.Perm bs → L2.Pairwise (fun q r => q.2 ≤ r.2) → Q (.ref (s.heap.objs.size + 1)) { s with heap := PyProof.Rows.sortedAll s.heap (bs.map fun p => Value.ref p.1) (L2.map fun p => Value.ref p.1).toArray }) : wpAny (model P w) A (call (.builtin "sorted") [.ref l]) Q E s := by
  by_cases c : 2 ≤ bs.length
  · refine PySem.W.sorted_data (enc := rowE) hl (each_refs bs) ((each_reads (Z := fun _ => True) trivial bs tp).mono fun v p q => q.elim fun as z => ⟨as, z.1⟩) (rows_alike bs) (rows_sortable (ne c)) hL (fun b _ => by rw [shallow]; omega) fun out _ e => ?_
    rw [refs_each e]
    exact fin _ (ms_rows bs).1 (ms_rows bs).2
  · refine SrtO.sorted_ord swo0 hl (by simpa using hL) (fun h2 => absurd (by simpa using h2) c) fun out h1 h2 => ?_
    rw [perm_few h2.perm (by simpa using c)]
    exact fin bs (List.Perm.refl _) (few_sorted c)
end
end TR
/-! ## S6 -/
set_option Elab.async false
set_option linter.all false
set_option maxRecDepth 100000
namespace TR
open PySem L2 PySem.Spec PyProof.Rows
section
variable {P : Program} {w : World} {A : Around} {E : Value → Shared → Prop} {s : Shared}
theorem nodup_back {α β : Type} {f : α → β} {l : List α} (h : (l.map f).Nodup) : l.Nodup := List.Pairwise.of_map f (fun _ _ n e => n (congrArg f e)) h
/-- values that are the rows' own, in some order -/
theorem rows_back {L : List (Addr × List Int)} (inj : ∀ q ∈ L, ∀ r ∈ L, q.1 = r.1 → q = r) (nd : (L.map (·.2)).Nodup) {vs : List Value} (pm : vs.Perm (L.map fun q => Value.ref q.1)) : ∃ L1 : List (Addr × List Int), vs = L1.map (fun q => Value.ref q.1) ∧ L1.Perm L := by
  have pick : ∀ us : List Value, (∀ v ∈ us, ∃ q ∈ L, v = Value.ref q.1) → ∃ L1 : List (Addr × List Int), us = L1.map (fun q => Value.ref q.1) ∧ ∀ q ∈ L1, q ∈ L := by
    intro us
    induction us with
    | nil => exact fun _ => ⟨[], rfl, by simp⟩
    | cons v us ih =>
      intro hv
      obtain ⟨q, hq, rfl⟩ := hv v (by simp)
      obtain ⟨L1, rfl, sub⟩ := ih fun u hu => hv u (by simp [hu])
      exact ⟨q :: L1, rfl, by simpa [hq] using fun a b h => sub (a, b) h⟩
  obtain ⟨L1, rfl, sub⟩ := pick vs fun v hv => by
    obtain ⟨q, hq, e⟩ := List.mem_map.mp (pm.mem_iff.mp hv)
    exact ⟨q, hq, e.symm⟩
  have nL := nodup_back nd
  have nR : (L.map fun q => Value.ref q.1).Nodup := List.pairwise_map.mpr (nL.imp_of_mem fun hq hr n e => n (inj _ hq _ hr (Value.ref.inj e)))
  refine ⟨L1, rfl, (List.perm_ext_iff_of_nodup (nodup_back (pm.nodup_iff.mpr nR)) nL).mpr fun q => ⟨sub q, fun hq => ?_⟩⟩
  obtain ⟨r, hr, e⟩ := List.mem_map.mp (pm.mem_iff.mpr (List.mem_map.mpr ⟨q, hq, rfl⟩))
  rw [← inj r (sub r hr) q hq (Value.ref.inj e)]
  exact hr
variable {a : Addr} {L : List (Addr × List Int)} {es : Array (Int × Value)} {ep : Nat} {t : SetTable}
/-- sorted(set) -/
theorem sorted_sx {Q : Value → Shared → Prop} (G : Sx P w s.heap a L es ep t) (hh : A.handled = none) (ne : 2 ≤ L.length → ∀ p ∈ L, p.2 ≠ []) (few : L.length < 4096) (hu : A.units + 8 < cLine)
    (fin : ∀ s2 p (c : Nat) (L2 : List (Addr × List Int)), (∀ b o, s.heap.get? b = some o → s2.heap.get? b = some o) → s2.gens = s.gens → s2.os = s.os → s.heap.objs.size ≤ p → s2.heap.get? p = some (seqObj "list" (L2.map fun q => Value.ref q.1).toArray c) →
      L2.Perm L → L2.Pairwise (fun q r => q.2 ≤ r.2) → Q (.ref p) s2) : wpAny (model P w) A (call (.builtin "sorted") [.ref a]) Q E s := by
  obtain ⟨o, ho, hex, hd⟩ := G.obj
  have n1 := ents_len G.ents
  refine Calls.call_function_entry kind_sorted plain_sorted entry_sorted (args_sorted1 _) ?_
  unfold Builtin.«sorted»
  refine wpAny_bind (m := checkCount "sorted" 1 1 _) (wpAny_pure ?_)
  refine wpAny_bind (collect_set (A := A.in1) hh ⟨o, ho, hex.1, hd⟩ G.fits (by rw [n1]; exact few) G.tb.up G.order fun s1 vs kp z1 g1 o1 pm => ?_)
  have e1 : es.toList.map (·.2) = L.map fun q => Value.ref q.1 := by rw [G.ents, rowsOf, List.map_map]; rfl
  rw [e1] at pm
  have inj : ∀ q ∈ L, ∀ r ∈ L, q.1 = r.1 → q = r := fun q hq r hr e => by
    have q1 := G.elts q hq
    rw [e] at q1
    exact Prod.ext e (q1.inj (G.elts r hr))
  obtain ⟨L1, rfl, pL⟩ := rows_back inj G.uniq pm
  have hz : (L1.map fun q => Value.ref q.1).length ≤ sizeLine := by rw [List.length_map, pL.length_eq, sizeLine_eq]; omega
  refine wpAny_bind (wpAny_newList ?_ hz)
  have at1 : (s1.heap.push (seqObj "list" (L1.map fun q => Value.ref q.1).toArray 0)).get? s1.heap.objs.size = some (seqObj "list" (L1.map fun q => Value.ref q.1).toArray 0) := Heap.get?_push_size _ rfl
  refine wpAny_bind (wpAny_holding (sort_rows (P := P) (w := w) (s := { s1 with heap := s1.heap.push (seqObj "list" (L1.map fun q => Value.ref q.1).toArray 0) }) L1 at1 (fun p hp => isT_keep (G.elts p (pL.mem_iff.mp hp)) fun b u e => Heap.get?_push_of_some _ (kp b u e))
    (fun h2 p hp => ne (by rw [← pL.length_eq]; exact h2) p (pL.mem_iff.mp hp)) (by simpa using hz) (by show A.units + _ + 3 < _; omega) fun L2 p2 w2 => ?_))
  obtain ⟨c, hc⟩ := sortedHeap_at (vs := L1.map fun q => Value.ref q.1) (out := (L2.map fun q => Value.ref q.1).toArray) at1
  refine wpAny_pure ⟨_, rfl, fin _ s1.heap.objs.size c L2 (fun b u e => ?_) g1 o1 z1 hc (p2.trans pL) w2⟩
  have lt := Heap.lt_size (kp b u e)
  show (PyProof.Rows.sortedHeap (s1.heap.push (seqObj "list" (L1.map fun q => Value.ref q.1).toArray 0)) s1.heap.objs.size (L1.map fun q => Value.ref q.1) (L2.map fun q => Value.ref q.1).toArray).get? b = some u
  rw [sortedHeap_old (Nat.ne_of_lt lt) (by rw [size_push']; exact Nat.lt_succ_of_lt lt)]
  exact Heap.get?_push_of_some _ (kp b u e)
end
/-! ### over the layer -/
structure SetT (P : Program) (w : World) (h : Heap) (a : Addr) (L : List (Addr × List Int)) : Prop where
  ex : ∃ (es : Array (Int × Value)) (ep : Nat) (t : SetTable), (∃ o, h.get? a = some o ∧ o.ExactSet ∧ o.data = .set es ep t) ∧ es.toList = rowsOf P w L ∧ Tb t (L.map fun p => thash P w p.2) ∧ (L.map (·.2)).Nodup ∧ t.plain = true ∧ (w.params.followText "set-order" = true ∨ t.led = true) ∧ L.length * 5 < t.mask * 3 ∧ t.mask ∈ [7, 31, 127, 511, 2047]
def SetHO (P : Program) (w : World) (a : Addr) (L : List (Addr × List Int)) : HO := .ext fun h => SetT P w h a L
section
variable {P : Program} {w : World} {H : Hp} {h : Heap} {a : Addr} {L : List (Addr × List Int)}
theorem Sx.bare {es : Array (Int × Value)} {ep : Nat} {t : SetTable} (G : Sx P w h a L es ep t) : SetT P w h a L := ⟨es, ep, t, G.obj, G.ents, G.tb, G.uniq, G.plain, G.order, G.slack, G.kind⟩
theorem SetT.full (R : SetT P w h a L) (ht : ∀ p ∈ L, IsT P w h p.2 p.1) : ∃ es ep t, Sx P w h a L es ep t := by
  obtain ⟨es, ep, t, h1, h2, h3, h4, h5, h6, h7, h8⟩ := R.ex
  exact ⟨es, ep, t, h1, h2, h3, h4, ht, h5, h6, h7, h8⟩
theorem setHO_ok (R : SetT P w h a L) : ObjOk P w H h a (SetHO P w a L) := by
  have ⟨es, ep, t, ⟨o, ho, r⟩, q⟩ := R.ex
  refine ⟨R, ⟨o, ho⟩, fun h1 h2 p k => ?_⟩
  have ⟨es', ep', t', ⟨o', ho', r'⟩, q'⟩ := SetT.ex p
  exact ⟨es', ep', t', ⟨o', k o' ho', r'⟩, q'⟩
end
section
variable {X : Cx}
def rSetR (K : PySem.W.Frag) (P : Program) (w : World) : List V → Hp → VK → Prop := fun xs H Q => ∃ (l : Addr) (ks : List (Addr × List Int)) (C : List (List Int)), xs = [V.ref l] ∧ SqL K H l (ks.map fun p => V.ref p.1) ∧ (∀ p ∈ ks, SqT K H p.1 (p.2.map V.int)) ∧ (∀ p ∈ ks, p.2 ∈ C) ∧ C.length ≤ 1227 ∧
  ∀ a L, H a = none → (∀ p ∈ L, p ∈ ks) → (∀ p ∈ ks, p.2 ∈ L.map (·.2)) → (L.map (·.2)).Nodup → Q (.ref a) (upd H a (SetHO P w a L))
theorem cr_setR (hc : X.calm = true) (hu : X.A.units + 64 < cLine) : CallR X (.type "set") (rSetR X.K X.prog X.w) := by
  intro pins s σ H xs us Q I r h
  obtain ⟨l, ks, C, rfl, hl, hk, hC, few, q⟩ := h
  rw [Vals.ref1 r]
  obtain ⟨its, rv, pl, hz⟩ := I.list hl
  refine make_set (P := X.prog) (w := X.w) ks C (I.ok.hd hc) pl.isList (by simpa using refs_of_vals rv) (fun p hp => I.isT (hk p hp)) hC few (by omega) fun h2 tk L es ep t G g kp => ?_
  refine ⟨.ref s.heap.objs.size, upd H s.heap.objs.size (SetHO X.prog X.w s.heap.objs.size L), I.laid (t' := tk) kp (Nat.le_refl _) (setHO_ok G.bare), rfl, q _ L (I.hok.fresh (Nat.le_refl _)) (fun p hp => List.mem_of_mem_take (g.sub p hp)) (fun p hp => g.all p (by rw [List.take_length]; exact hp)) G.uniq⟩
def rSortR (K : PySem.W.Frag) (P : Program) (w : World) : List V → Hp → VK → Prop := fun vs H Q => ∃ (a : Addr) (L : List (Addr × List Int)), vs = [V.ref a] ∧ (H a = some (SetHO P w a L) ∧ L.length < 4096 ∨ SqL K H a (L.map fun p => V.ref p.1)) ∧ (∀ p ∈ L, SqT K H p.1 (p.2.map V.int)) ∧ (2 ≤ L.length → ∀ p ∈ L, p.2 ≠ []) ∧
  ∀ (L2 : List (Addr × List Int)) (p : Addr), L2.Perm L → L2.Pairwise (fun q r => q.2 ≤ r.2) → H p = none → Q (.ref p) (upd H p (.lst (L2.map fun q => V.ref q.1)))
theorem cr_sortR (hc : X.calm = true) (hu : X.A.units + 64 < cLine) : CallR X (.builtin "sorted") (rSortR X.K X.prog X.w) := by
  intro pins s σ H vs us Q I r h
  obtain ⟨a, L, rfl, ha, hk, ne, q⟩ := h
  rw [Vals.ref1 r]
  rcases ha with ⟨ha, few⟩ | ha
  · have R0 : SetT X.prog X.w s.heap a L := (I.hok a _ ha).1
    obtain ⟨es, ep, t, G⟩ := R0.full fun p hp => I.isT (hk p hp)
    refine sorted_sx G (I.ok.hd hc) ne few (by omega) fun s2 p c L2 kp g o hp hg pm pw => ?_
    have hlen : (L2.map fun q => V.ref q.1).length ≤ sizeLine := by rw [List.length_map, pm.length_eq, sizeLine_eq]; omega
    have hn : H p = none := I.hok.fresh hp
    have J : Inv X pins σ (upd H p (.lst (L2.map fun q => V.ref q.1))) { s with heap := s2.heap, gens := s2.gens, drawn := s2.drawn, toks := s2.toks } :=
      I.call (ch := []) (Un.laid kp hp hn) (I.hok.laid kp hp ⟨hlen, _, c, vals_of_refs L2, hg⟩) (by rw [g]; exact I.bare) (fun _ z => nomatch z)
    have e : s2 = { s with heap := s2.heap, gens := s2.gens, drawn := s2.drawn, toks := s2.toks } := by
      cases s2; cases s; cases o; rfl
    rw [e]
    exact ⟨.ref p, _, J, rfl, q L2 p pm pw hn⟩
  · obtain ⟨its, rv, pl, hz⟩ := I.list ha
    obtain rfl := refs_of_vals rv
    refine sorted_rows (P := X.prog) (w := X.w) L pl.isList (fun p hp => I.isT (hk p hp)) ne (by simpa using hz) (by omega) fun L2 pm pw => ?_
    obtain ⟨ep, he⟩ := PyProof.Rows.sortedAll_at s.heap (L.map fun p => Value.ref p.1) (L2.map fun p => Value.ref p.1).toArray
    have hlen : (L2.map fun q => V.ref q.1).length ≤ sizeLine := by rw [List.length_map, pm.length_eq]; simpa using hz
    exact ⟨.ref _, upd H (s.heap.objs.size + 1) (.lst (L2.map fun q => V.ref q.1)), I.laid (t' := s.toks) (fun _ _ => PyProof.Rows.sortedAll_old) (Nat.le_succ _) ⟨hlen, _, ep, vals_of_refs L2, he⟩, rfl, q L2 _ pm pw (I.hok.fresh (Nat.le_succ _))⟩
end
end TR
/-! ## C1 -/
set_option Elab.async false
set_option linter.all false
set_option maxRecDepth 100000
/-! own layer 1: data, what stands for them in the abstract heap, environments, what an expression evaluates to -/
namespace TR
open PySem L2
/-- data -/
inductive D where
  | non | bl (b : Bool) | int (i : Int)
  | tup (l : List D) | stp (l : List D) | lst (l : List D)
  | dT (kvs : List (List Int × D)) | dI (kvs : List (Int × D))
mutual
/-- the value stands for the data, none of the addresses on the way in Z -/
inductive At (Z : Addr → Prop) (H : Hp) : V → D → Prop
  | non : At Z H .non .non
  | bl (b : Bool) : At Z H (.bl b) (.bl b)
  | int (i : Int) : At Z H (.int i) (.int i)
  | tup {a : Addr} {xs : List V} {l : List D} : ¬ Z a → H a = some (.tup xs) → Ats Z H xs l → At Z H (.ref a) (.tup l)
  | stp {a : Addr} {o : Obj} {xs : List V} {l : List D} : ¬ Z a → H a = some (.frz o (.tup xs)) → o.dict = none → Ats Z H xs l → At Z H (.ref a) (.stp l)
  | lst {a : Addr} {xs : List V} {l : List D} : ¬ Z a → H a = some (.lst xs) → Ats Z H xs l → At Z H (.ref a) (.lst l)
  | dT {a : Addr} {kvs : List (List Key × V)} {l : List (List Int × D)} : ¬ Z a → H a = some (.dT kvs) → AtT Z H kvs l → At Z H (.ref a) (.dT l)
  | dI {a : Addr} {kvs : List (Key × V)} {l : List (Int × D)} : ¬ Z a → H a = some (.dK kvs) → AtI Z H kvs l → At Z H (.ref a) (.dI l)
inductive Ats (Z : Addr → Prop) (H : Hp) : List V → List D → Prop
  | nil : Ats Z H [] []
  | cons {v : V} {d : D} {vs : List V} {ds : List D} : At Z H v d → Ats Z H vs ds → Ats Z H (v :: vs) (d :: ds)
inductive AtT (Z : Addr → Prop) (H : Hp) : List (List Key × V) → List (List Int × D) → Prop
  | nil : AtT Z H [] []
  | cons {k : List Int} {v : V} {d : D} {vs : List (List Key × V)} {ds : List (List Int × D)} : At Z H v d → AtT Z H vs ds → AtT Z H ((k.map Sum.inl, v) :: vs) ((k, d) :: ds)
inductive AtI (Z : Addr → Prop) (H : Hp) : List (Key × V) → List (Int × D) → Prop
  | nil : AtI Z H [] []
  | cons {k : Int} {v : V} {d : D} {vs : List (Key × V)} {ds : List (Int × D)} : At Z H v d → AtI Z H vs ds → AtI Z H ((Sum.inl k, v) :: vs) ((k, d) :: ds)
end
section
variable {Z Z' : Addr → Prop} {H H' : Hp}
mutual
theorem At.move (kz : ∀ b, Z' b → Z b ∨ H b = none) (kp : ∀ b o, ¬ Z b → H b = some o → H' b = some o) : ∀ {v : V} {d : D}, At Z H v d → At Z' H' v d
  | _, _, .non => .non
  | _, _, .bl b => .bl b
  | _, _, .int i => .int i
  | _, _, .tup nz e t => .tup (fun z => (kz _ z).elim nz fun n => by rw [e] at n; cases n) (kp _ _ nz e) (Ats.move kz kp t)
  | _, _, .stp nz e f t => .stp (fun z => (kz _ z).elim nz fun n => by rw [e] at n; cases n) (kp _ _ nz e) f (Ats.move kz kp t)
  | _, _, .lst nz e t => .lst (fun z => (kz _ z).elim nz fun n => by rw [e] at n; cases n) (kp _ _ nz e) (Ats.move kz kp t)
  | _, _, .dT nz e t => .dT (fun z => (kz _ z).elim nz fun n => by rw [e] at n; cases n) (kp _ _ nz e) (AtT.move kz kp t)
  | _, _, .dI nz e t => .dI (fun z => (kz _ z).elim nz fun n => by rw [e] at n; cases n) (kp _ _ nz e) (AtI.move kz kp t)
theorem Ats.move (kz : ∀ b, Z' b → Z b ∨ H b = none) (kp : ∀ b o, ¬ Z b → H b = some o → H' b = some o) : ∀ {v : List V} {d : List D}, Ats Z H v d → Ats Z' H' v d
  | _, _, .nil => .nil
  | _, _, .cons h t => .cons (At.move kz kp h) (Ats.move kz kp t)
theorem AtT.move (kz : ∀ b, Z' b → Z b ∨ H b = none) (kp : ∀ b o, ¬ Z b → H b = some o → H' b = some o) : ∀ {v : List (List Key × V)} {d : List (List Int × D)}, AtT Z H v d → AtT Z' H' v d
  | _, _, .nil => .nil
  | _, _, .cons h t => .cons (At.move kz kp h) (AtT.move kz kp t)
theorem AtI.move (kz : ∀ b, Z' b → Z b ∨ H b = none) (kp : ∀ b o, ¬ Z b → H b = some o → H' b = some o) : ∀ {v : List (Key × V)} {d : List (Int × D)}, AtI Z H v d → AtI Z' H' v d
  | _, _, .nil => .nil
  | _, _, .cons h t => .cons (At.move kz kp h) (AtI.move kz kp t)
end
theorem At.same {v : V} {d : D} (h : At Z H v d) (s : Same H H') : At Z H' v d := h.move (fun _ z => .inl z) fun b o _ e => s b o e
theorem Ats.same {v : List V} {d : List D} (h : Ats Z H v d) (s : Same H H') : Ats Z H' v d := h.move (fun _ z => .inl z) fun b o _ e => s b o e
theorem At.weak {v : V} {d : D} (h : At Z H v d) (k : ∀ b, Z' b → Z b) : At Z' H v d := h.move (fun b z => .inl (k b z)) fun _ _ _ e => e
theorem Ats.weak {v : List V} {d : List D} (h : Ats Z H v d) (k : ∀ b, Z' b → Z b) : Ats Z' H v d := h.move (fun b z => .inl (k b z)) fun _ _ _ e => e
theorem Ats.length {vs : List V} {ds : List D} (h : Ats Z H vs ds) : vs.length = ds.length := by
  induction vs generalizing ds with
  | nil => cases h; rfl
  | cons v vs ih =>
    cases h with
    | cons _ t => rw [List.length_cons, List.length_cons, ih t]
theorem Ats.get {vs : List V} {ds : List D} (h : Ats Z H vs ds) {i : Nat} {v : V} (e : vs[i]? = some v) : ∃ d, ds[i]? = some d ∧ At Z H v d := by
  induction vs generalizing ds i with
  | nil => simp at e
  | cons u vs ih =>
    cases h with
    | cons a t =>
      cases i with
      | zero => simp at e; subst e; exact ⟨_, rfl, a⟩
      | succ i => simpa using ih t (by simpa using e)
theorem Ats.get' {vs : List V} {ds : List D} (h : Ats Z H vs ds) {i : Nat} {d : D} (e : ds[i]? = some d) : ∃ v, vs[i]? = some v ∧ At Z H v d := by
  have hl := h.length
  have hi : i < vs.length := by rw [hl]; exact (List.getElem?_eq_some_iff.mp e).1
  obtain ⟨d', e', a⟩ := h.get (i := i) (List.getElem?_eq_getElem hi)
  rw [e] at e'; cases e'
  exact ⟨_, List.getElem?_eq_getElem hi, a⟩
theorem Ats.append {vs ws : List V} {ds es : List D} (h : Ats Z H vs ds) (h' : Ats Z H ws es) : Ats Z H (vs ++ ws) (ds ++ es) := by
  induction vs generalizing ds with
  | nil => cases h; exact h'
  | cons v vs ih =>
    cases h with
    | cons a t => exact .cons a (ih t)
/-- a new object keeps what stood -/
theorem Same.new {p : Addr} {o : HO} (h : H p = none) : Same H (upd H p o) := fun b u e => by rw [upd_ne (ne_of_none e h)]; exact e
theorem At.new {v : V} {d : D} {p : Addr} {o : HO} (h : At Z H v d) (hp : H p = none) : At (fun c => Z c ∨ c = p) (upd H p o) v d :=
  h.move (fun b z => z.elim .inl fun e => .inr (by rw [e]; exact hp)) fun b u _ e => Same.new hp b u e
theorem Ats.new {v : List V} {d : List D} {p : Addr} {o : HO} (h : Ats Z H v d) (hp : H p = none) : Ats (fun c => Z c ∨ c = p) (upd H p o) v d :=
  h.move (fun b z => z.elim .inl fun e => .inr (by rw [e]; exact hp)) fun b u _ e => Same.new hp b u e
end
/-! ### environments -/
inductive Ent where
  | any | scr (l : List Int) | dat (d : D) | own (p : Bool) (b : Addr) (d : D)
abbrev En := List Ent
def Mo (ρ : En) (b : Addr) : Prop := ∃ p d, Ent.own p b d ∈ ρ
structure Fr where
  Z : Addr → Prop
  Y : Addr → Prop
  P : Addr → Prop
  H0 : Hp
def Av (F : Fr) (ρ : En) : Addr → Prop := fun b => F.Z b ∨ F.Y b ∨ Mo ρ b
/-- an object that may be changed -/
def Top (Z : Addr → Prop) (H : Hp) (b : Addr) : D → Prop
  | .lst l => ∃ xs, H b = some (.lst xs) ∧ Ats Z H xs l
  | .dI l => ∃ kvs, H b = some (.dK kvs) ∧ AtI Z H kvs l
  | .dT l => ∃ kvs, H b = some (.dT kvs) ∧ AtT Z H kvs l
  | _ => False
def EntAt (F : Fr) (Z : Addr → Prop) (H : Hp) (x : Option V) : Ent → Prop
  | .any => True
  | .scr l => ∃ a o, x = some (.ref a) ∧ ¬ Z a ∧ H a = some (.frz o (.lst (l.map V.int)))
  | .dat d => ∃ v, x = some v ∧ At Z H v d
  | .own p b d => x = some (.ref b) ∧ Top Z H b d ∧ (F.P b ∨ F.H0 b = none) ∧ (p = false → ¬ F.Z b)
/-- there, and no tuple -/
def Ob (H : Hp) (b : Addr) : Prop := ∃ o, H b = some o ∧ ∀ xs, o ≠ .tup xs
theorem Ob.ne {H : Hp} {b : Addr} (h : Ob H b) : H b ≠ none := by obtain ⟨o, e, _⟩ := h; rw [e]; exact fun z => nomatch z
theorem Ob.same {H H' : Hp} {b : Addr} (h : Ob H b) (s : Same H H') : Ob H' b := by obtain ⟨o, e, n⟩ := h; exact ⟨o, s b o e, n⟩
theorem Ob.no {H : Hp} {b : Addr} {xs : List V} (h : Ob H b) (e : H b = some (.tup xs)) : False := by obtain ⟨o, e1, n⟩ := h; rw [e] at e1; exact n xs (Option.some.inj e1).symm
theorem Ob.lst {H : Hp} {b : Addr} {xs : List V} (e : H b = some (.lst xs)) : Ob H b := ⟨_, e, fun _ z => nomatch z⟩
theorem Top.ob {Z : Addr → Prop} {H : Hp} {b : Addr} {d : D} (h : Top Z H b d) : Ob H b := by
  cases d with
  | lst l => obtain ⟨xs, e, _⟩ := h; exact ⟨_, e, fun _ z => nomatch z⟩
  | dI l => obtain ⟨xs, e, _⟩ := h; exact ⟨_, e, fun _ z => nomatch z⟩
  | dT l => obtain ⟨xs, e, _⟩ := h; exact ⟨_, e, fun _ z => nomatch z⟩
  | _ => exact h.elim
structure EnvAt (F : Fr) (H : Hp) (σ : St) (ρ : En) : Prop where
  zd : ∀ b, F.Z b → Ob H b
  yd : ∀ b, F.Y b → Ob H b
  pd : ∀ b, F.P b → H b ≠ none
  sm : ∀ b o, ¬ F.P b → F.H0 b = some o → H b = some o
  len : σ.length = ρ.length
  ent : ∀ (i : Nat) e, ρ[i]? = some e → EntAt F (Av F ρ) H ((σ[i]?).getD none) e
  dj : ∀ (i j : Nat) p q b d d', ρ[i]? = some (.own p b d) → ρ[j]? = some (.own q b d') → i = j
section
variable {F : Fr} {H H' : Hp} {σ : St} {ρ : En} {Z Z' : Addr → Prop} {b : Addr} {d : D}
theorem Top.dom (h : Top Z H b d) : H b ≠ none := by
  cases d with
  | lst l => obtain ⟨xs, e, _⟩ := h; rw [e]; exact fun z => nomatch z
  | dI l => obtain ⟨xs, e, _⟩ := h; rw [e]; exact fun z => nomatch z
  | dT l => obtain ⟨xs, e, _⟩ := h; rw [e]; exact fun z => nomatch z
  | _ => exact h.elim
theorem Top.move (kz : ∀ c, Z' c → Z c ∨ H c = none) (kp : ∀ c o, ¬ Z c → H c = some o → H' c = some o) (kb : ∀ o, H b = some o → H' b = some o) (h : Top Z H b d) : Top Z' H' b d := by
  cases d with
  | lst l => obtain ⟨xs, e, t⟩ := h; exact ⟨xs, kb _ e, t.move kz kp⟩
  | dI l => obtain ⟨xs, e, t⟩ := h; exact ⟨xs, kb _ e, t.move kz kp⟩
  | dT l => obtain ⟨xs, e, t⟩ := h; exact ⟨xs, kb _ e, t.move kz kp⟩
  | _ => exact h.elim
theorem EnvAt.avo (E : EnvAt F H σ ρ) : ∀ b, Av F ρ b → Ob H b := fun b h => by
  rcases h with h | h | ⟨p, d, h⟩
  · exact E.zd b h
  · exact E.yd b h
  · obtain ⟨i, hi, e⟩ := List.getElem_of_mem h
    obtain ⟨_, t, _⟩ := E.ent i _ (by rw [List.getElem?_eq_getElem hi, e])
    exact t.ob
theorem EnvAt.avd (E : EnvAt F H σ ρ) : ∀ b, Av F ρ b → H b ≠ none := fun b h => (E.avo b h).ne
theorem EnvAt.fresh (E : EnvAt F H σ ρ) {p : Addr} (hp : H p = none) : F.H0 p = none := by
  cases e : F.H0 p with
  | none => rfl
  | some o =>
    by_cases hP : F.P p
    · exact absurd hp (E.pd p hP)
    · have := E.sm p o hP e; rw [hp] at this; cases this
theorem EnvAt.same (E : EnvAt F H σ ρ) (s : Same H H') : EnvAt F H' σ ρ where
  zd := fun b h => (E.zd b h).same s
  yd := fun b h => (E.yd b h).same s
  pd := fun b h n => E.pd b h (s.free n)
  sm := fun b o h e => s b o (E.sm b o h e)
  len := E.len
  ent := fun i e h => by
    have q := E.ent i e h
    cases e with
    | any => trivial
    | scr l => obtain ⟨a, o, e1, n, e2⟩ := q; exact ⟨a, o, e1, n, s _ _ e2⟩
    | dat d => obtain ⟨v, e1, a⟩ := q; exact ⟨v, e1, a.same s⟩
    | own p b d => obtain ⟨e1, t, f⟩ := q; exact ⟨e1, t.move (fun _ z => .inl z) (fun c o _ e => s c o e) (fun o e => s b o e), f⟩
  dj := E.dj
theorem EnvAt.dat {i : Nat} (E : EnvAt F H σ ρ) (h : ρ[i]? = some (.dat d)) : ∃ v, σ[i]? = some (some v) ∧ At (Av F ρ) H v d := by
  obtain ⟨v, e, a⟩ := E.ent i _ h
  refine ⟨v, ?_, a⟩
  cases q : σ[i]? with
  | none => rw [q] at e; cases e
  | some x => rw [q] at e; rw [show x = some v from e]
theorem EnvAt.own {i : Nat} {p : Bool} (E : EnvAt F H σ ρ) (h : ρ[i]? = some (.own p b d)) : σ[i]? = some (some (.ref b)) ∧ Top (Av F ρ) H b d ∧ (F.P b ∨ F.H0 b = none) ∧ (p = false → ¬ F.Z b) := by
  obtain ⟨e, t, f⟩ := E.ent i _ h
  refine ⟨?_, t, f⟩
  cases q : σ[i]? with
  | none => rw [q] at e; cases e
  | some x => rw [q] at e; rw [show x = some (.ref b) from e]
end
/-! ### results -/
inductive Kd where
  | rd | st | fr
def Res (k : Kd) (Z : Addr → Prop) (H0 H : Hp) (v : V) (d : D) : Prop := match k with
  | .rd => At Z H v d ∨ ∃ b, v = .ref b ∧ Top Z H b d
  | .st => At Z H v d
  | .fr => ∃ b, v = .ref b ∧ H0 b = none ∧ Top (fun c => Z c ∨ c = b) H b d
abbrev Rd (Z : Addr → Prop) (H : Hp) (v : V) (d : D) : Prop := At Z H v d ∨ ∃ b, v = .ref b ∧ Top Z H b d
section
variable {Z : Addr → Prop} {H H0 H1 H2 : Hp} {v : V} {d : D} {k : Kd}
theorem Top.at {b : Addr} (t : Top Z H b d) (n : ¬ Z b) : At Z H (.ref b) d := by
  cases d with
  | lst l => obtain ⟨xs, e, t⟩ := t; exact .lst n e t
  | dI l => obtain ⟨xs, e, t⟩ := t; exact .dI n e t
  | dT l => obtain ⟨xs, e, t⟩ := t; exact .dT n e t
  | _ => exact t.elim
theorem Res.rdOf (h : Res k Z H0 H v d) : Rd Z H v d := by
  cases k with
  | rd => exact h
  | st => exact .inl h
  | fr => obtain ⟨b, e, _, t⟩ := h; exact .inr ⟨b, e, t.move (fun _ z => .inl (.inl z)) (fun _ _ _ e => e) fun _ e => e⟩
theorem Res.stOf (hk : k ≠ .rd) (hz : ∀ b, Z b → H0 b ≠ none) (h : Res k Z H0 H v d) : At Z H v d := by
  cases k with
  | rd => exact absurd rfl hk
  | st => exact h
  | fr =>
    obtain ⟨b, e, n, t⟩ := h
    subst e
    exact (t.move (Z' := Z) (fun _ z => .inl (.inl z)) (fun _ _ _ e => e) fun _ e => e).at fun z => hz b z n
theorem Res.back (s : Same H0 H1) (h : Res k Z H1 H2 v d) : Res k Z H0 H2 v d := by
  cases k with
  | rd => exact h
  | st => exact h
  | fr => obtain ⟨b, e, n, t⟩ := h; exact ⟨b, e, s.free n, t⟩
theorem Rd.same (h : Rd Z H v d) (s : Same H H1) : Rd Z H1 v d := by
  rcases h with h | ⟨b, e, t⟩
  · exact .inl (h.same s)
  · exact .inr ⟨b, e, t.move (fun _ z => .inl z) (fun c o _ e => s c o e) fun o e => s b o e⟩
theorem Rd.int {i : Int} (h : Rd Z H v (.int i)) : v = .int i := by
  rcases h with h | ⟨b, _, t⟩
  · cases h; rfl
  · exact t.elim
theorem Rd.bl {i : Bool} (h : Rd Z H v (.bl i)) : v = .bl i := by
  rcases h with h | ⟨b, _, t⟩
  · cases h; rfl
  · exact t.elim
theorem Rd.non (h : Rd Z H v .non) : v = .non := by
  rcases h with h | ⟨b, _, t⟩
  · cases h; rfl
  · exact t.elim
theorem Rd.tup {l : List D} (h : Rd Z H v (.tup l)) : ∃ a xs, v = .ref a ∧ ¬ Z a ∧ H a = some (.tup xs) ∧ Ats Z H xs l := by
  rcases h with h | ⟨b, _, t⟩
  · cases h with
    | tup n e t => exact ⟨_, _, rfl, n, e, t⟩
  · exact t.elim
theorem Rd.stp {l : List D} (h : Rd Z H v (.stp l)) : ∃ a o xs, v = .ref a ∧ ¬ Z a ∧ H a = some (.frz o (.tup xs)) ∧ o.dict = none ∧ Ats Z H xs l := by
  rcases h with h | ⟨b, _, t⟩
  · cases h with
    | stp n e f t => exact ⟨_, _, _, rfl, n, e, f, t⟩
  · exact t.elim
theorem Rd.lst {l : List D} (h : Rd Z H v (.lst l)) : ∃ a xs, v = .ref a ∧ H a = some (.lst xs) ∧ Ats Z H xs l := by
  rcases h with h | ⟨b, e, t⟩
  · cases h with
    | lst n e t => exact ⟨_, _, rfl, e, t⟩
  · obtain ⟨xs, e1, t⟩ := t; exact ⟨b, xs, e, e1, t⟩
theorem Rd.dT {l : List (List Int × D)} (h : Rd Z H v (.dT l)) : ∃ a kvs, v = .ref a ∧ H a = some (.dT kvs) ∧ AtT Z H kvs l := by
  rcases h with h | ⟨b, e, t⟩
  · cases h with
    | dT n e t => exact ⟨_, _, rfl, e, t⟩
  · obtain ⟨xs, e1, t⟩ := t; exact ⟨b, xs, e, e1, t⟩
theorem Rd.dI {l : List (Int × D)} (h : Rd Z H v (.dI l)) : ∃ a kvs, v = .ref a ∧ H a = some (.dK kvs) ∧ AtI Z H kvs l := by
  rcases h with h | ⟨b, e, t⟩
  · cases h with
    | dI n e t => exact ⟨_, _, rfl, e, t⟩
  · obtain ⟨xs, e1, t⟩ := t; exact ⟨b, xs, e, e1, t⟩
end
/-! ### what the machine does, as a reading -/
def wT (X : Cx) (e : Expr) : TE := fun σ H Q => ∀ (pins : List (Addr × Obj)) (s : Shared), Inv X pins σ H s → wpAny (model X.prog X.w) X.A (eval e X.env) (EP X pins σ Q) X.xe s
def wB (X : Cx) (e : Expr) : TT := fun σ H Q => ∀ (pins : List (Addr × Obj)) (s : Shared), Inv X pins σ H s → wpAny (model X.prog X.w) X.A (isTrue e X.env (eval e X.env)) (TP X pins σ Q) X.xe s
def wA (X : Cx) (es : List Expr) : TA := fun σ H Q => ∀ (pos : Pos) (pins : List (Addr × Obj)) (s : Shared), Inv X pins σ H s → wpAny (model X.prog X.w) X.A (spliced (backTo pos (starEach es X.env))) (AP X pins σ Q) X.xe s
def wSs (X : Cx) (st : List Stmt) : TS := fun D σ H => ∀ (pins : List (Addr × Obj)) (s : Shared), Inv X pins σ H s → wpAny (model X.prog X.w) X.A (execs st X.env) (SP X pins D) X.xe s
def wI (X : Cx) (tg it : Expr) : TI := fun σ H R => ∀ (pins : List (Addr × Obj)) (s : Shared), Inv X pins σ H s → wpAny (model X.prog X.w) X.A (eval it X.env) (fun v s1 => wpAny (model X.prog X.w) X.A (pyIter v) (PIE X pins σ tg R) X.xe s1) X.xe s
section
variable {X : Cx} {e : Expr} {es : List Expr} {ss : List Stmt} {σ : St} {H : Hp}
theorem pe_w : PE X e (wT X e) := ⟨fun pins s σ H Q I h => h pins s I⟩
theorem pt_w : PT X e (wB X e) := ⟨fun pins s σ H Q I h => h pins s I⟩
theorem pa_w : PA X es (wA X es) := ⟨fun pos pins s σ H Q I h => h pos pins s I⟩
theorem pss_w : PSs X ss (wSs X ss) := ⟨fun pins s σ H D I h => h pins s I⟩
theorem wT.of {t : TE} {Q : VK} (h : PE X e t) (q : t σ H Q) : wT X e σ H Q := fun pins s I => h.run pins s σ H Q I q
theorem wB.of {t : TT} {Q : Bool → Hp → Prop} (h : PT X e t) (q : t σ H Q) : wB X e σ H Q := fun pins s I => h.run pins s σ H Q I q
theorem wA.of {t : TA} {Q : List V → Hp → Prop} (h : PA X es t) (q : t σ H Q) : wA X es σ H Q := fun pos pins s I => h.run pos pins s σ H Q I q
theorem wSs.of {t : TS} {D : Ends} (h : PSs X ss t) (q : t D σ H) : wSs X ss D σ H := fun pins s I => h.run pins s σ H D I q
end
/-! ### evaluation -/
structure Ev (k : Kd) (X : Cx) (ρ : En) (e : Expr) (d : D) : Prop where
  mk ::
  go : ∀ (F : Fr) (σ : St) (H : Hp), EnvAt F H σ ρ → ∀ Q : VK, (∀ v H', Same H H' → Res k (Av F ρ) H H' v d → Q v H') → wT X e σ H Q
instance {k : Kd} {X : Cx} {ρ : En} {e : Expr} {d : D} : CoeFun (Ev k X ρ e d) fun _ => ∀ (F : Fr) (σ : St) (H : Hp), EnvAt F H σ ρ → ∀ Q : VK, (∀ v H', Same H H' → Res k (Av F ρ) H H' v d → Q v H') → wT X e σ H Q := ⟨Ev.go⟩
structure EvB (X : Cx) (ρ : En) (e : Expr) (b : Bool) : Prop where
  mk ::
  go : ∀ (F : Fr) (σ : St) (H : Hp), EnvAt F H σ ρ → ∀ Q : Bool → Hp → Prop, (∀ H', Same H H' → Q b H') → wB X e σ H Q
instance {X : Cx} {ρ : En} {e : Expr} {b : Bool} : CoeFun (EvB X ρ e b) fun _ => ∀ (F : Fr) (σ : St) (H : Hp), EnvAt F H σ ρ → ∀ Q : Bool → Hp → Prop, (∀ H', Same H H' → Q b H') → wB X e σ H Q := ⟨EvB.go⟩
inductive Rds (k : Kd) (Z : Addr → Prop) (H : Hp) : List V → List D → Prop
  | nil : Rds k Z H [] []
  | cons {v : V} {d : D} {vs : List V} {ds : List D} : Res k Z H H v d → Rds k Z H vs ds → Rds k Z H (v :: vs) (d :: ds)
/-- argument lists: all read (rd) or all strict (st) -/
structure EvA (s : Bool) (X : Cx) (ρ : En) (es : List Expr) (ds : List D) : Prop where
  mk ::
  go : ∀ (F : Fr) (σ : St) (H : Hp), EnvAt F H σ ρ → ∀ Q : List V → Hp → Prop, (∀ vs H', Same H H' → Rds (if s then .st else .rd) (Av F ρ) H' vs ds → Q vs H') → wA X es σ H Q
instance {s : Bool} {X : Cx} {ρ : En} {es : List Expr} {ds : List D} : CoeFun (EvA s X ρ es ds) fun _ => ∀ (F : Fr) (σ : St) (H : Hp), EnvAt F H σ ρ → ∀ Q : List V → Hp → Prop, (∀ vs H', Same H H' → Rds (if s then .st else .rd) (Av F ρ) H' vs ds → Q vs H') → wA X es σ H Q := ⟨EvA.go⟩
section
variable {X : Cx} {ρ : En} {e a b : Expr} {es : List Expr} {d d1 d2 : D} {k k1 k2 : Kd} {pos : Pos}
theorem Ev.cast {d' : D} (h : Ev k X ρ e d) (q : d = d') : Ev k X ρ e d' := by rw [← q]; exact h
theorem EvB.cast {b b' : Bool} (h : EvB X ρ e b) (q : b = b') : EvB X ρ e b' := by rw [← q]; exact h
theorem Ev.toSt (hk : k ≠ .rd := by exact fun z => nomatch z) (h : Ev k X ρ e d) : Ev .st X ρ e d := .mk fun F σ H E Q q => h F σ H E Q fun v H' s r => q v H' s (r.stOf hk E.avd)
theorem Ev.toRd (h : Ev k X ρ e d) : Ev .rd X ρ e d := .mk fun F σ H E Q q => h F σ H E Q fun v H' s r => q v H' s r.rdOf
theorem e_var (i : Nat) {x : Str} (hρ : ρ[i]? = some (.dat d)) (hN : X.N[i]? = some x := by rfl) (hv : Vis X.env.scope x := by first | exact Or.inl rfl | exact Or.inr (Or.inl rfl) | exact Or.inr (Or.inr rfl)) (hd : (x == ("__debug__" : Str)) = false := by decide) (hcd : (x == ("__classdict__" : Str)) = false := by decide) :
    Ev .st X ρ (.Name x pos) d := .mk fun F σ H E Q q => by
  obtain ⟨v, e1, a⟩ := E.dat hρ
  exact wT.of (pe_var hN hv hd hcd) ⟨v, e1, q v H (Same.refl H) a⟩
theorem e_own (i : Nat) {x : Str} {c : Addr} {p : Bool} (hρ : ρ[i]? = some (.own p c d)) (hN : X.N[i]? = some x := by rfl) (hv : Vis X.env.scope x := by first | exact Or.inl rfl | exact Or.inr (Or.inl rfl) | exact Or.inr (Or.inr rfl)) (hd : (x == ("__debug__" : Str)) = false := by decide) (hcd : (x == ("__classdict__" : Str)) = false := by decide) :
    Ev .rd X ρ (.Name x pos) d := .mk fun F σ H E Q q => by
  obtain ⟨e1, t, _⟩ := E.own hρ
  exact wT.of (pe_var hN hv hd hcd) ⟨_, e1, q _ H (Same.refl H) (.inr ⟨c, rfl, t⟩)⟩
theorem e_int {i : Int} {j : Nat} : Ev .st X ρ (.Constant (.int i) j pos) (.int i) := .mk fun F σ H E Q q => wT.of pe_int (q _ H (Same.refl H) (.int i))
theorem e_bl {i : Bool} {j : Nat} : Ev .st X ρ (.Constant (.bool i) j pos) (.bl i) := .mk fun F σ H E Q q => wT.of pe_bl (q _ H (Same.refl H) (.bl i))
theorem e_non {j : Nat} : Ev .st X ρ (.Constant .none j pos) .non := .mk fun F σ H E Q q => wT.of pe_non (q _ H (Same.refl H) .non)
/-- an int of the module -/
theorem e_glob {x : Str} {i : Int} {u : Value} (hm : X.mg x = some u) (r : RelV (.int i) u) (hg : Gl X x := by rfl) (hd : (x == ("__debug__" : Str)) = false := by decide) : Ev .st X ρ (.Name x pos) (.int i) :=
  .mk fun F σ H E Q q => wT.of (pe_glob hg hm r hd) (q _ H (Same.refl H) (.int i))
/-! operators by values -/
def Op2 (k : Kd) (r : R2) (d1 d2 d : D) : Prop := ∀ (Z : Addr → Prop) (H : Hp) (x y : V), (∀ b, Z b → H b ≠ none) → Rd Z H x d1 → Rd Z H y d2 → ∀ Q : VK, (∀ v H', Same H H' → Res k Z H H' v d → Q v H') → r x y H Q
theorem op2_go {r : R2} (ha : Ev k1 X ρ a d1) (hb : Ev k2 X ρ b d2) (hr : Op2 k r d1 d2 d) {F : Fr} {σ : St} {H : Hp} (E : EnvAt F H σ ρ) {Q : VK} (q : ∀ v H', Same H H' → Res k (Av F ρ) H H' v d → Q v H') : tOp r (wT X a) (wT X b) σ H Q :=
  ha F σ H E _ fun x H1 s1 r1 => hb F σ H1 (E.same s1) _ fun y H2 s2 r2 => hr (Av F ρ) H2 x y ((E.same s1).same s2).avd (Rd.same r1.rdOf s2) r2.rdOf Q fun v H3 s3 r3 =>
    q v H3 ((s1.trans s2).trans s3) (r3.back (s1.trans s2))
theorem e_op {op : Operator} {r : R2} (ho : OpR X (binaryOp op) r) (ha : Ev k1 X ρ a d1) (hb : Ev k2 X ρ b d2) (hr : Op2 k r d1 d2 d) : Ev k X ρ (.BinOp a op b pos) d := .mk fun F σ H E Q q =>
  wT.of (pe_op ho pe_w pe_w) (op2_go ha hb hr E q)
theorem e_cmp {op : CmpOp} {r : R2} (ho : OpR X (compareOp op) r) (ha : Ev k1 X ρ a d1) (hb : Ev k2 X ρ b d2) (hr : Op2 k r d1 d2 d) (hm : behindInMarks op b = false) : Ev k X ρ (.Compare a [op] [b] pos) d := .mk fun F σ H E Q q =>
  wT.of (pe_cmpR ho pe_w pe_w hm) (op2_go ha hb hr E q)
theorem op2I0 {g : Int → Int → V} {i j : Int} {d : D} (h : ∀ Z H, At Z H (g i j) d) : Op2 .st (rI0 g) (.int i) (.int j) d := fun Z H x y _ hx hy Q q =>
  ⟨i, j, hx.int, hy.int, q _ H (Same.refl H) (h Z H)⟩
theorem op2I {C : Int → Int → Prop} {g : Int → Int → V} {i j : Int} {d : D} (hc : C i j) (h : ∀ Z H, At Z H (g i j) d) : Op2 .st (rI C g) (.int i) (.int j) d := fun Z H x y _ hx hy Q q =>
  ⟨i, j, hx.int, hy.int, hc, q _ H (Same.refl H) (h Z H)⟩
theorem e_add {i j : Int} (ha : Ev k1 X ρ a (.int i)) (hb : Ev k2 X ρ b (.int j)) : Ev .st X ρ (.BinOp a .Add b pos) (.int (i + j)) := e_op op_add ha hb (op2I0 fun _ _ => .int _)
theorem e_sub {i j : Int} (ha : Ev k1 X ρ a (.int i)) (hb : Ev k2 X ρ b (.int j)) : Ev .st X ρ (.BinOp a .Sub b pos) (.int (i - j)) := e_op op_sub ha hb (op2I0 fun _ _ => .int _)
theorem e_mul {i j : Int} (ha : Ev k1 X ρ a (.int i)) (hb : Ev k2 X ρ b (.int j)) (hc : CMul i j) : Ev .st X ρ (.BinOp a .Mult b pos) (.int (i * j)) := e_op op_mul ha hb (op2I hc fun _ _ => .int _)
theorem e_mod {i j : Int} (ha : Ev k1 X ρ a (.int i)) (hb : Ev k2 X ρ b (.int j)) (hc : 0 < j) : Ev .st X ρ (.BinOp a .Mod b pos) (.int (i % j)) := e_op op_mod ha hb (op2I hc fun _ _ => .int _)
theorem e_fdiv {i j : Int} (ha : Ev k1 X ρ a (.int i)) (hb : Ev k2 X ρ b (.int j)) (hc : CDiv i j) : Ev .st X ρ (.BinOp a .FloorDiv b pos) (.int (i / j)) := e_op op_fdiv ha hb (op2I hc fun _ _ => .int _)
theorem e_pow {i j : Int} (ha : Ev k1 X ρ a (.int i)) (hb : Ev k2 X ρ b (.int j)) (hc : CPow i j) : Ev .st X ρ (.BinOp a .Pow b pos) (.int (i ^ j.toNat)) := e_op op_pow ha hb (op2I hc fun _ _ => .int _)
theorem e_lt {i j : Int} (ha : Ev k1 X ρ a (.int i)) (hb : Ev k2 X ρ b (.int j)) : Ev .st X ρ (.Compare a [.Lt] [b] pos) (.bl (decide (i < j))) := e_cmp op_lt ha hb (op2I0 fun _ _ => .bl _) (nomark b)
theorem e_le {i j : Int} (ha : Ev k1 X ρ a (.int i)) (hb : Ev k2 X ρ b (.int j)) : Ev .st X ρ (.Compare a [.LtE] [b] pos) (.bl (decide (i ≤ j))) := e_cmp op_le ha hb (op2I0 fun _ _ => .bl _) (nomark b)
theorem e_gt {i j : Int} (ha : Ev k1 X ρ a (.int i)) (hb : Ev k2 X ρ b (.int j)) : Ev .st X ρ (.Compare a [.Gt] [b] pos) (.bl (decide (j < i))) := e_cmp op_gt ha hb (op2I0 fun _ _ => .bl _) (nomark b)
theorem e_ge {i j : Int} (ha : Ev k1 X ρ a (.int i)) (hb : Ev k2 X ρ b (.int j)) : Ev .st X ρ (.Compare a [.GtE] [b] pos) (.bl (decide (j ≤ i))) := e_cmp op_ge ha hb (op2I0 fun _ _ => .bl _) (nomark b)
end
end TR
/-! ## C2 -/
set_option Elab.async false
set_option linter.all false
set_option maxRecDepth 100000
namespace TR
open PySem L2
section
variable {X : Cx} {ρ : En} {e a b c : Expr} {es rest : List Expr} {d d1 d2 : D} {k k1 k2 : Kd} {pos : Pos} {p q : Bool}
/-! ### comparisons, both as values and as tests -/
structure EvC (X : Cx) (ρ : En) (op : CmpOp) (a b : Expr) (p : Bool) : Prop where
  mk ::
  go : ∀ (F : Fr) (σ : St) (H : Hp), EnvAt F H σ ρ → ∃ t : TE, PC X op a b t ∧ ∀ Q : VK, (∀ H', Same H H' → Q (.bl p) H') → t σ H Q
instance {X : Cx} {ρ : En} {op : CmpOp} {a b : Expr} {p : Bool} : CoeFun (EvC X ρ op a b p) fun _ => ∀ (F : Fr) (σ : St) (H : Hp), EnvAt F H σ ρ → ∃ t : TE, PC X op a b t ∧ ∀ Q : VK, (∀ H', Same H H' → Q (.bl p) H') → t σ H Q := ⟨EvC.go⟩
theorem e_c {op : CmpOp} (h : EvC X ρ op a b p) (hm : behindInMarks op b = false := by first | exact nobehind _ (by decide) (by decide) | rfl) : Ev .st X ρ (.Compare a [op] [b] pos) (.bl p) := .mk fun F σ H E Q q => by
  obtain ⟨t, hp, ht⟩ := h F σ H E
  exact wT.of (pe_cmp hp hm) (ht Q fun H' s => q _ H' s (.bl p))
theorem b_c {op : CmpOp} (h : EvC X ρ op a b p) (hm : behindInMarks op b = false := by first | exact nobehind _ (by decide) (by decide) | rfl) : EvB X ρ (.Compare a [op] [b] pos) p := .mk fun F σ H E Q q => by
  obtain ⟨t, hp, ht⟩ := h F σ H E
  exact wB.of (pt_cmp hp hm) (ht _ fun H' s => ⟨p, rfl, q H' s⟩)
theorem pc_of {op : CmpOp} {r : R2} (ho : OpR X (compareOp op) r) {ta tb : TE} (ha : PE X a ta) (hb : PE X b tb) : PC X op a b (tOp r ta tb) := ⟨fun pins s σ H Q I h => binT ha hb I h fun v u s2 x y H2 I2 rx ry q => ho pins s2 σ H2 x y v u Q I2 rx ry q⟩
theorem c_op {op : CmpOp} {r : R2} (ho : OpR X (compareOp op) r) (ha : Ev k1 X ρ a d1) (hb : Ev k2 X ρ b d2) (hr : Op2 .st r d1 d2 (.bl p)) : EvC X ρ op a b p := .mk fun F σ H E =>
  ⟨_, pc_of ho pe_w pe_w, fun Q q => op2_go ha hb hr E fun v H' s r => by cases r; exact q H' s⟩
theorem c_lt {i j : Int} (ha : Ev k1 X ρ a (.int i)) (hb : Ev k2 X ρ b (.int j)) : EvC X ρ .Lt a b (decide (i < j)) := c_op op_lt ha hb (op2I0 fun _ _ => .bl _)
theorem c_le {i j : Int} (ha : Ev k1 X ρ a (.int i)) (hb : Ev k2 X ρ b (.int j)) : EvC X ρ .LtE a b (decide (i ≤ j)) := c_op op_le ha hb (op2I0 fun _ _ => .bl _)
theorem c_gt {i j : Int} (ha : Ev k1 X ρ a (.int i)) (hb : Ev k2 X ρ b (.int j)) : EvC X ρ .Gt a b (decide (j < i)) := c_op op_gt ha hb (op2I0 fun _ _ => .bl _)
theorem c_ge {i j : Int} (ha : Ev k1 X ρ a (.int i)) (hb : Ev k2 X ρ b (.int j)) : EvC X ρ .GtE a b (decide (j ≤ i)) := c_op op_ge ha hb (op2I0 fun _ _ => .bl _)
theorem dI {i j : Int} : decide (V.int i = V.int j) = decide (i = j) := by rw [dec_int, Bool.beq_eq_decide_eq]
theorem dB {i j : Bool} : decide (V.bl i = V.bl j) = (i == j) := dec_bl
theorem c_eqI {i j : Int} (ha : Ev k1 X ρ a (.int i)) (hb : Ev k2 X ρ b (.int j)) : EvC X ρ .Eq a b (decide (i = j)) := c_op op_eq ha hb fun Z H x y _ hx hy Q q => by
  rw [hx.int, hy.int]; exact ⟨rfl, by rw [dI]; exact q _ H (Same.refl H) (.bl _)⟩
theorem c_neI {i j : Int} (ha : Ev k1 X ρ a (.int i)) (hb : Ev k2 X ρ b (.int j)) : EvC X ρ .NotEq a b (!decide (i = j)) := c_op op_ne ha hb fun Z H x y _ hx hy Q q => by
  rw [hx.int, hy.int]; exact ⟨rfl, by rw [dI]; exact q _ H (Same.refl H) (.bl _)⟩
theorem c_eqB {i j : Bool} (ha : Ev k1 X ρ a (.bl i)) (hb : Ev k2 X ρ b (.bl j)) : EvC X ρ .Eq a b (i == j) := c_op op_eq ha hb fun Z H x y _ hx hy Q q => by
  rw [hx.bl, hy.bl]; exact ⟨rfl, by rw [dB]; exact q _ H (Same.refl H) (.bl _)⟩
theorem c_neB {i j : Bool} (ha : Ev k1 X ρ a (.bl i)) (hb : Ev k2 X ρ b (.bl j)) : EvC X ρ .NotEq a b (!(i == j)) := c_op op_ne ha hb fun Z H x y _ hx hy Q q => by
  rw [hx.bl, hy.bl]; exact ⟨rfl, by rw [dB]; exact q _ H (Same.refl H) (.bl _)⟩
/-! data compared -/
mutual
def toPy : D → PyData
  | .non => .none
  | .bl b => .bool b
  | .int i => .int i
  | .tup l => .tuple (toPys l)
  | .stp l => .tuple (toPys l)
  | .lst l => .list (toPys l)
  | .dT _ => .dict []
  | .dI _ => .dict []
def toPys : List D → List PyData
  | [] => []
  | d :: l => toPy d :: toPys l
end
theorem toPys_map : ∀ l : List D, toPys l = l.map toPy
  | [] => rfl
  | d :: l => by rw [toPys, List.map_cons, toPys_map l]
abbrev shp (d : D) : Bool := SeqAt.shaped (toPy d)
abbrev eqD (d e : D) : Bool := PyData.eqv (toPy d) (toPy e)
mutual
theorem At.dp {K : PySem.W.Frag} {Z : Addr → Prop} {H : Hp} : ∀ {v : V} {d : D}, At Z H v d → (toPy d).canLay0 = true → Dp K H v (toPy d)
  | _, _, .non, _ => .non
  | _, _, .bl b, _ => .bl b
  | _, _, .int i, _ => .int i
  | _, _, .tup _ e t, h => .tup (SqT.of e) (Ats.dp t (by simpa [toPy, PyData.canLay0] using h))
  | _, _, .stp _ e _ t, h => .tup (.inl (.inr ⟨_, e⟩)) (Ats.dp t (by simpa [toPy, PyData.canLay0] using h))
  | _, _, .lst _ e t, h => .lst (SqL.of e) (Ats.dp t (by simpa [toPy, PyData.canLay0] using h))
  | _, _, .dT _ e t, h => by simp [toPy, PyData.canLay0] at h
  | _, _, .dI _ e t, h => by simp [toPy, PyData.canLay0] at h
theorem Ats.dp {K : PySem.W.Frag} {Z : Addr → Prop} {H : Hp} : ∀ {v : List V} {d : List D}, Ats Z H v d → PyData.canLayAll0 (toPys d) = true → DpAll K H v (toPys d)
  | _, _, .nil, _ => .nil
  | _, _, .cons h t, q => by
    simp only [toPys, PyData.canLayAll0, Bool.and_eq_true] at q
    exact .cons (At.dp h q.1) (Ats.dp t q.2)
end
theorem Rd.dp {K : PySem.W.Frag} {Z : Addr → Prop} {H : Hp} {v : V} (h : Rd Z H v d) (q : shp d = true) : Dp K H v (toPy d) := by
  have q := SeqAt.canLay_of_shaped q
  rcases h with h | ⟨b, rfl, t⟩
  · exact h.dp q
  · cases d with
    | lst l => obtain ⟨xs, e, t⟩ := t; exact .lst (SqL.of e) (t.dp (by simpa [toPy, PyData.canLay0] using q))
    | dI l => simp [toPy, PyData.canLay0] at q
    | dT l => simp [toPy, PyData.canLay0] at q
    | _ => exact t.elim
theorem c_eqD (hu : X.A.units + 64 < cLine) (ha : Ev k1 X ρ a d1) (hb : Ev k2 X ρ b d2) (s1 : shp d1 = true) (s2 : shp d2 = true) : EvC X ρ .Eq a b (eqD d1 d2) := c_op (op_eqD hu) ha hb fun Z H x y _ hx hy Q q =>
  ⟨_, _, hx.dp s1, hy.dp s2, s1, s2, q _ H (Same.refl H) (.bl _)⟩
theorem c_neD (hu : X.A.units + 64 < cLine) (ha : Ev k1 X ρ a d1) (hb : Ev k2 X ρ b d2) (s1 : shp d1 = true) (s2 : shp d2 = true) : EvC X ρ .NotEq a b (!eqD d1 d2) := c_op (op_neD hu) ha hb fun Z H x y _ hx hy Q q =>
  ⟨_, _, hx.dp s1, hy.dp s2, s1, s2, q _ H (Same.refl H) (.bl _)⟩
def isNon : D → Bool
  | .non => true
  | _ => false
theorem Rd.isNon {Z : Addr → Prop} {H : Hp} {v : V} (h : Rd Z H v d) : decide (v = .non) = isNon d := by
  rcases h with h | ⟨b, rfl, t⟩
  · cases h <;> rfl
  · cases d <;> first | rfl | exact t.elim
theorem c_isN {j : Nat} {pos' : Pos} (ha : Ev k1 X ρ a d1) : EvC X ρ .Is a (.Constant .none j pos') (isNon d1) := .mk fun F σ H E =>
  ⟨_, pc_isN pe_w, fun Q q => ha F σ H E _ fun v H' s r => by rw [r.rdOf.isNon]; exact q H' s⟩
theorem c_notN {j : Nat} {pos' : Pos} (ha : Ev k1 X ρ a d1) : EvC X ρ .IsNot a (.Constant .none j pos') (!isNon d1) := .mk fun F σ H E =>
  ⟨_, pc_notN pe_w, fun Q q => ha F σ H E _ fun v H' s r => by rw [r.rdOf.isNon]; exact q H' s⟩
/-! sequences -/
inductive IsSeq : D → List D → Prop
  | lst (l : List D) : IsSeq (.lst l) l
  | tup (l : List D) : IsSeq (.tup l) l
  | stp (l : List D) : IsSeq (.stp l) l
theorem Rd.seq {K : PySem.W.Frag} {Z : Addr → Prop} {H : Hp} {v : V} {l : List D} (hs : IsSeq d l) (h : Rd Z H v d) : ∃ a xs, v = .ref a ∧ (SqL K H a xs ∨ SqT K H a xs) ∧ Ats Z H xs l := by
  cases hs with
  | lst => obtain ⟨a, xs, e, e1, t⟩ := h.lst; exact ⟨a, xs, e, .inl (SqL.of e1), t⟩
  | tup => obtain ⟨a, xs, e, _, e1, t⟩ := h.tup; exact ⟨a, xs, e, .inr (SqT.of e1), t⟩
  | stp => obtain ⟨a, o, xs, e, _, e1, _, t⟩ := h.stp; exact ⟨a, xs, e, .inr (.inl (.inr ⟨_, e1⟩)), t⟩
def inD (d : D) (l : List D) : Bool := l.any fun z => eqD z d
def rInT (K : PySem.W.Frag) (neg : Bool) : R2 := fun x y H Q => ∃ d ds, Dp K H x d ∧ (Dp K H y (.list ds) ∨ Dp K H y (.tuple ds)) ∧ SeqAt.shaped d = true ∧ PyData.canLayAll0 ds = true ∧ Q (.bl (if neg then !(ds.any fun z => PyData.eqv z d) else ds.any fun z => PyData.eqv z d)) H
theorem op_inT (hu : X.A.units + 65 < cLine) : OpR X (compareOp .In) (rInT X.K false) := by
  intro pins s σ H x y v u Q I rx ry h
  obtain ⟨d, ds, hd, he, sd, se, q⟩ := h
  obtain ⟨as, r1⟩ := Dp.reads I d x v hd rx
  rcases he with he | he
  · obtain ⟨bs, r2⟩ := Dp.reads I (.list ds) y u he ry
    exact SeqAt.in_list_reads r2 r1 se (SeqAt.canLay_of_shaped sd) (PyProof.Rows.room_in_shaped sd hu) ⟨.bl _, H, I, rfl, q⟩
  · obtain ⟨bs, r2⟩ := Dp.reads I (.tuple ds) y u he ry
    exact SeqAt.in_tuple_reads r2 r1 se (SeqAt.canLay_of_shaped sd) (PyProof.Rows.room_in_shaped sd hu) ⟨.bl _, H, I, rfl, q⟩
theorem op_notInT (hu : X.A.units + 65 < cLine) : OpR X (compareOp .NotIn) (rInT X.K true) := by
  intro pins s σ H x y v u Q I rx ry h
  obtain ⟨d, ds, hd, he, sd, se, q⟩ := h
  obtain ⟨as, r1⟩ := Dp.reads I d x v hd rx
  rcases he with he | he
  · obtain ⟨bs, r2⟩ := Dp.reads I (.list ds) y u he ry
    exact SeqAt.notIn_list_reads r2 r1 se (SeqAt.canLay_of_shaped sd) (PyProof.Rows.room_in_shaped sd hu) ⟨.bl _, H, I, rfl, q⟩
  · obtain ⟨bs, r2⟩ := Dp.reads I (.tuple ds) y u he ry
    exact SeqAt.notIn_tuple_reads r2 r1 se (SeqAt.canLay_of_shaped sd) (PyProof.Rows.room_in_shaped sd hu) ⟨.bl _, H, I, rfl, q⟩
theorem Rd.dps {K : PySem.W.Frag} {Z : Addr → Prop} {H : Hp} {v : V} {l : List D} (hs : IsSeq d l) (h : Rd Z H v d) (q : PyData.canLayAll0 (toPys l) = true) : Dp K H v (.list (toPys l)) ∨ Dp K H v (.tuple (toPys l)) := by
  cases hs with
  | lst => obtain ⟨a, xs, rfl, e1, t⟩ := h.lst; exact .inl (.lst (SqL.of e1) (t.dp q))
  | tup => obtain ⟨a, xs, rfl, _, e1, t⟩ := h.tup; exact .inr (.tup (SqT.of e1) (t.dp q))
  | stp => obtain ⟨a, o, xs, rfl, _, e1, _, t⟩ := h.stp; exact .inr (.tup (.inl (.inr ⟨_, e1⟩)) (t.dp q))
theorem inD_py {d : D} : ∀ l : List D, ((toPys l).any fun z => PyData.eqv z (toPy d)) = inD d l
  | [] => rfl
  | x :: l => by
    show (PyData.eqv (toPy x) (toPy d) || (toPys l).any _) = (eqD x d || inD d l)
    rw [inD_py l]
theorem c_in {l : List D} (hu : X.A.units + 65 < cLine) (ha : Ev k1 X ρ a d1) (hb : Ev k2 X ρ b d2) (hs : IsSeq d2 l) (s1 : shp d1 = true) (s2 : PyData.canLayAll0 (toPys l) = true) : EvC X ρ .In a b (inD d1 l) := c_op (op_inT hu) ha hb fun Z H x y _ hx hy Q q =>
  ⟨_, _, hx.dp s1, hy.dps hs s2, s1, s2, by rw [inD_py]; exact q _ H (Same.refl H) (.bl _)⟩
theorem c_notIn {l : List D} (hu : X.A.units + 65 < cLine) (ha : Ev k1 X ρ a d1) (hb : Ev k2 X ρ b d2) (hs : IsSeq d2 l) (s1 : shp d1 = true) (s2 : PyData.canLayAll0 (toPys l) = true) : EvC X ρ .NotIn a b (!inD d1 l) := c_op (op_notInT hu) ha hb fun Z H x y _ hx hy Q q =>
  ⟨_, _, hx.dp s1, hy.dps hs s2, s1, s2, by rw [inD_py]; exact q _ H (Same.refl H) (.bl _)⟩
/-! dicts with tuple keys -/
def tD (k : List Int) : D := .tup (k.map .int)
def getT (kvs : List (List Int × D)) (k : List Int) : Option D := (kvs.find? fun p => decide (p.1 = k)).map (·.2)
theorem Ats.ints {Z : Addr → Prop} {H : Hp} : ∀ {xs : List V} {ns : List Int}, Ats Z H xs (ns.map .int) → xs = ns.map V.int
  | _, [], .nil => rfl
  | _, n :: ns, .cons h t => by cases h; rw [Ats.ints t, List.map_cons]
theorem inl_inj : ∀ {a b : List Int}, a.map (Sum.inl : Int → Key) = b.map Sum.inl → a = b
  | [], [], _ => rfl
  | [], _ :: _, h => by cases h
  | _ :: _, [], h => by cases h
  | x :: a, y :: b, h => by
    rw [List.map_cons, List.map_cons] at h
    injection h with h1 h2
    injection h1 with h1
    rw [h1, inl_inj h2]
def OptAt (Z : Addr → Prop) (H : Hp) (o : Option V) : Option D → Prop
  | some d => ∃ v, o = some v ∧ At Z H v d
  | none => o = none
theorem OptAt.isSome {Z : Addr → Prop} {H : Hp} {o : Option V} {d : Option D} (h : OptAt Z H o d) : o.isSome = d.isSome := by
  cases d with
  | none => rw [show o = none from h]; rfl
  | some d => obtain ⟨v, e, _⟩ := h; rw [e]; rfl
theorem AtT.val {Z : Addr → Prop} {H : Hp} {k : List Int} : ∀ {vs : List (List Key × V)} {kvs : List (List Int × D)}, AtT Z H vs kvs → OptAt Z H (valV vs (k.map Sum.inl)) (getT kvs k)
  | _, _, .nil => rfl
  | _, _, .cons (k := k') (v := v) (d := d) (vs := vs) (ds := ds) h t => by
    have ih := AtT.val (k := k) t
    by_cases e : k' = k
    · subst e
      have e1 : getT ((k', d) :: ds) k' = some d := by simp [getT, List.find?_cons]
      rw [e1]
      exact ⟨v, by rw [valV_pos rfl], h⟩
    · have e1 : getT ((k', d) :: ds) k = getT ds k := by simp [getT, List.find?_cons, e]
      rw [e1, valV_neg (fun q => e (inl_inj q))]
      exact ih
theorem kv_ints (k : List Int) : (k.map (Sum.inl : Int → Key)).map kV = k.map V.int := by rw [List.map_map]; rfl
theorem Rd.key {Z : Addr → Prop} {H : Hp} {v : V} {k : List Int} (h : Rd Z H v (tD k)) : ∃ a, v = .ref a ∧ H a = some (.tup ((k.map (Sum.inl : Int → Key)).map kV)) := by
  obtain ⟨a, xs, e, _, e1, t⟩ := h.tup
  rw [t.ints, ← kv_ints] at e1
  exact ⟨a, e, e1⟩
theorem dget_of {Z : Addr → Prop} {H : Hp} {x y : V} {k : List Int} {kvs : List (List Int × D)} (hx : Rd Z H x (.dT kvs)) (hy : Rd Z H y (tD k)) : ∃ a o, x = .ref a ∧ DGet H a y o ∧ OptAt Z H o (getT kvs k) := by
  obtain ⟨a, vs, rfl, ea, t⟩ := hx.dT
  obtain ⟨c, rfl, ec⟩ := hy.key
  exact ⟨a, _, rfl, DGet.t ea ec, t.val⟩
theorem c_inD {kvs : List (List Int × D)} {kk : List Int} (hu : X.A.units + 1 < cLine) (ha : Ev k1 X ρ a (tD kk)) (hb : Ev k2 X ρ b (.dT kvs)) : EvC X ρ .In a b (getT kvs kk).isSome := .mk fun F σ H E =>
  ⟨_, pc_din hu pe_w pe_w, fun Q q => ha F σ H E _ fun y H1 s1 r1 => hb F σ H1 (E.same s1) _ fun x H2 s2 r2 => by
    obtain ⟨a, o, rfl, g, m⟩ := dget_of r2.rdOf (r1.rdOf.same s2)
    refine ⟨a, o, rfl, g, ?_⟩
    rw [m.isSome]
    exact q H2 (s1.trans s2)⟩
theorem c_notInD {kvs : List (List Int × D)} {kk : List Int} (hu : X.A.units + 1 < cLine) (ha : Ev k1 X ρ a (tD kk)) (hb : Ev k2 X ρ b (.dT kvs)) : EvC X ρ .NotIn a b (!(getT kvs kk).isSome) := .mk fun F σ H E =>
  ⟨_, pc_dnotin hu pe_w pe_w, fun Q q => ha F σ H E _ fun y H1 s1 r1 => hb F σ H1 (E.same s1) _ fun x H2 s2 r2 => by
    obtain ⟨a, o, rfl, g, m⟩ := dget_of r2.rdOf (r1.rdOf.same s2)
    refine ⟨a, o, rfl, g, ?_⟩
    rw [m.isSome]
    exact q H2 (s1.trans s2)⟩
theorem e_dget {kvs : List (List Int × D)} {kk : List Int} (hu : X.A.units + 1 < cLine) (hb : Ev k2 X ρ b (.dT kvs)) (ha : Ev k1 X ρ a (tD kk)) (hg : getT kvs kk = some d) (hs : NoSl a := by exact fun _ _ => rfl) : Ev .st X ρ (.Subscript b a pos) d := .mk fun F σ H E Q q =>
  wT.of (pe_dget hu pe_w pe_w hs) (hb F σ H E _ fun x H1 s1 r1 => ha F σ H1 (E.same s1) _ fun y H2 s2 r2 => by
    obtain ⟨a, o, rfl, g, m⟩ := dget_of (r1.rdOf.same s2) r2.rdOf
    rw [hg] at m
    obtain ⟨v, rfl, t⟩ := m
    exact ⟨a, v, rfl, g, q v H2 (s1.trans s2) t⟩)
/-! and, or, not, if -/
theorem e_one {op : BoolOp} (h : Ev k X ρ a d) : Ev k X ρ (.BoolOp op [a] pos) d := .mk fun F σ H E Q q => wT.of (pe_one pe_w) (h F σ H E Q q)
theorem e_and (ha : Ev k1 X ρ a (.bl p)) (hb : p = true → Ev k2 X ρ (.BoolOp .And (b :: rest) pos) (.bl q)) : Ev .st X ρ (.BoolOp .And (a :: b :: rest) pos) (.bl (p && q)) := .mk fun F σ H E Q h =>
  wT.of (pe_and pe_w pe_w) (ha F σ H E _ fun v H1 s1 r1 => ⟨p, r1.rdOf.bl, by
    cases p with
    | true => exact hb rfl F σ H1 (E.same s1) _ fun v H2 s2 r2 => by rw [r2.rdOf.bl]; exact h _ H2 (s1.trans s2) (.bl _)
    | false => exact h _ H1 s1 (.bl _)⟩)
theorem e_or (ha : Ev k1 X ρ a (.bl p)) (hb : p = false → Ev k2 X ρ (.BoolOp .Or (b :: rest) pos) (.bl q)) : Ev .st X ρ (.BoolOp .Or (a :: b :: rest) pos) (.bl (p || q)) := .mk fun F σ H E Q h =>
  wT.of (pe_or pe_w pe_w) (ha F σ H E _ fun v H1 s1 r1 => ⟨p, r1.rdOf.bl, by
    cases p with
    | false => exact hb rfl F σ H1 (E.same s1) _ fun v H2 s2 r2 => by rw [r2.rdOf.bl]; exact h _ H2 (s1.trans s2) (.bl _)
    | true => exact h _ H1 s1 (.bl _)⟩)
theorem e_not (ha : Ev k1 X ρ a (.bl p)) : Ev .st X ρ (.UnaryOp .Not a pos) (.bl (!p)) := .mk fun F σ H E Q h =>
  wT.of (pe_not pe_w) (ha F σ H E _ fun v H1 s1 r1 => ⟨p, r1.rdOf.bl, h _ H1 s1 (.bl _)⟩)
theorem e_neg {i : Int} (ha : Ev k1 X ρ a (.int i)) : Ev .st X ρ (.UnaryOp .USub a pos) (.int (-i)) := .mk fun F σ H E Q h =>
  wT.of (pe_un un_neg pe_w) (ha F σ H E _ fun v H1 s1 r1 => ⟨i, r1.rdOf.int, h _ H1 s1 (.int _)⟩)
theorem e_if (hc : EvB X ρ c p) (ha : p = true → Ev k X ρ a d) (hb : p = false → Ev k X ρ b d) : Ev k X ρ (.IfExp c a b pos) d := .mk fun F σ H E Q h =>
  wT.of (pe_ifExp pt_w pe_w pe_w) (hc F σ H E _ fun H1 s1 => by
    cases p with
    | true => exact ha rfl F σ H1 (E.same s1) _ fun v H2 s2 r2 => h v H2 (s1.trans s2) (r2.back s1)
    | false => exact hb rfl F σ H1 (E.same s1) _ fun v H2 s2 r2 => h v H2 (s1.trans s2) (r2.back s1))
theorem b_v (h : Ev k X ρ e (.bl p)) (he : ∀ whole, isTrue e X.env whole = (do let v ← whole; standAt e.pos; holding [v] (truthy v)) := by intro _; rfl) : EvB X ρ e p := .mk fun F σ H E Q q =>
  wB.of (pt_val pe_w he) (h F σ H E _ fun v H1 s1 r1 => ⟨p, r1.rdOf.bl, q H1 s1⟩)
theorem b_not (ha : EvB X ρ a p) : EvB X ρ (.UnaryOp .Not a pos) (!p) := .mk fun F σ H E Q h => wB.of (pt_not pt_w) (ha F σ H E _ fun H1 s1 => h H1 s1)
/-- and, or as tests -/
structure EvW (X : Cx) (ρ : En) (e : Expr) (p : Bool) : Prop where
  mk ::
  go : ∀ (F : Fr) (σ : St) (H : Hp), EnvAt F H σ ρ → ∃ t : TT, PW X e t ∧ ∀ Q : Bool → Hp → Prop, (∀ H', Same H H' → Q p H') → t σ H Q
instance {X : Cx} {ρ : En} {e : Expr} {p : Bool} : CoeFun (EvW X ρ e p) fun _ => ∀ (F : Fr) (σ : St) (H : Hp), EnvAt F H σ ρ → ∃ t : TT, PW X e t ∧ ∀ Q : Bool → Hp → Prop, (∀ H', Same H H' → Q p H') → t σ H Q := ⟨EvW.go⟩
theorem EvW.toB (h : EvW X ρ e p) : EvB X ρ e p := .mk fun F σ H E Q q => by
  obtain ⟨t, hp, ht⟩ := h F σ H E
  exact wB.of hp.pt (ht Q q)
def wW (X : Cx) (e : Expr) : TT := fun σ H Q => ∀ (whole : Sem Value) (pins : List (Addr × Obj)) (s : Shared), Inv X pins σ H s → wpAny (model X.prog X.w) X.A (isTrue e X.env whole) (TP X pins σ Q) X.xe s
theorem pw_w : PW X e (wW X e) := ⟨fun wh pins s σ H Q I h => h wh pins s I⟩
theorem wW.of {σ : St} {H : Hp} {t : TT} {Q : Bool → Hp → Prop} (h : PW X e t) (q : t σ H Q) : wW X e σ H Q := fun wh pins s I => h.run wh pins s σ H Q I q
theorem EvW.w (h : EvW X ρ e p) {F : Fr} {σ : St} {H : Hp} (E : EnvAt F H σ ρ) {Q : Bool → Hp → Prop} (q : ∀ H', Same H H' → Q p H') : wW X e σ H Q := by
  obtain ⟨t, hp, ht⟩ := h F σ H E
  exact wW.of hp (ht Q q)
theorem w_and1 (ha : EvB X ρ a p) : EvW X ρ (.BoolOp .And [a] pos) p := .mk fun F σ H E => ⟨_, pw_and1 pt_w, fun Q q => ha F σ H E Q q⟩
theorem w_or1 (ha : EvB X ρ a p) : EvW X ρ (.BoolOp .Or [a] pos) p := .mk fun F σ H E => ⟨_, pw_or1 pt_w, fun Q q => ha F σ H E Q q⟩
theorem w_and (ha : EvB X ρ a p) (hb : p = true → EvW X ρ (.BoolOp .And (b :: rest) pos) q) : EvW X ρ (.BoolOp .And (a :: b :: rest) pos) (p && q) := .mk fun F σ H E => ⟨_, pw_and pt_w pw_w, fun Q h => ha F σ H E _ fun H1 s1 => by
  cases p with
  | true => exact (hb rfl).w (E.same s1) fun H2 s2 => h H2 (s1.trans s2)
  | false => exact h H1 s1⟩
theorem w_or (ha : EvB X ρ a p) (hb : p = false → EvW X ρ (.BoolOp .Or (b :: rest) pos) q) : EvW X ρ (.BoolOp .Or (a :: b :: rest) pos) (p || q) := .mk fun F σ H E => ⟨_, pw_or pt_w pw_w, fun Q h => ha F σ H E _ fun H1 s1 => by
  cases p with
  | false => exact (hb rfl).w (E.same s1) fun H2 s2 => h H2 (s1.trans s2)
  | true => exact h H1 s1⟩
/-! displays -/
theorem a_nil {s : Bool} : EvA s X ρ [] [] := .mk fun F σ H E Q q => wA.of pa_nil (q [] H (Same.refl H) .nil)
theorem Rds.same {Z : Addr → Prop} {H H' : Hp} {s : Bool} {vs : List V} {ds : List D} (h : Rds (if s then .st else .rd) Z H vs ds) (e : Same H H') : Rds (if s then .st else .rd) Z H' vs ds := by
  induction h with
  | nil => exact .nil
  | cons a _ ih =>
    refine .cons ?_ ih
    cases s
    · exact Rd.same a e
    · exact At.same a e
theorem a_cons {s : Bool} {ds : List D} (ha : Ev k X ρ e d) (hr : EvA s X ρ es ds) (hk : s = true → k ≠ .rd := by first | exact fun _ z => nomatch z | exact fun z => nomatch z) (hs : starEach (e :: es) X.env = (false, eval e X.env) :: starEach es X.env := by rfl) : EvA s X ρ (e :: es) (d :: ds) := .mk fun F σ H E Q q =>
  wA.of (pa_cons pe_w pa_w hs) (ha F σ H E _ fun x H1 s1 r1 => hr F σ H1 (E.same s1) _ fun xs H2 s2 r2 => q _ H2 (s1.trans s2) (by
    refine .cons ?_ r2
    cases s
    · exact Rd.same r1.rdOf s2
    · exact At.same (r1.stOf (hk rfl) E.avd) s2))
theorem Rds.ats {Z : Addr → Prop} {H : Hp} {vs : List V} {ds : List D} (h : Rds .st Z H vs ds) : Ats Z H vs ds := by
  induction h with
  | nil => exact .nil
  | cons a _ ih => exact .cons a ih
theorem Ats.newTup {Z : Addr → Prop} {H : Hp} {xs : List V} {l : List D} {pp : Addr} (zd : ∀ b, Z b → H b ≠ none) (h : Ats Z H xs l) (hp : H pp = none) : At Z (upd H pp (.tup xs)) (.ref pp) (.tup l) :=
  .tup (fun z => zd _ z hp) upd_same (h.same (Same.new hp))
theorem Ats.newLst {Z : Addr → Prop} {H : Hp} {xs : List V} {l : List D} {pp : Addr} (h : Ats Z H xs l) (hp : H pp = none) : Res .fr Z H (upd H pp (.lst xs)) (.ref pp) (.lst l) :=
  ⟨pp, rfl, hp, xs, upd_same, h.new hp⟩
theorem e_tup {ds : List D} {x1 : Nat} (h : EvA true X ρ es ds) (hl : ds.length ≤ sizeLine := by exact Nat.le_trans (Nat.le_of_ble_eq_true rfl : _ ≤ 100) (by decide)) : Ev .st X ρ (.Tuple es x1 pos) (.tup ds) := .mk fun F σ H E Q q =>
  wT.of (pe_tup pa_w) (h F σ H E _ fun vs H1 s1 r => ⟨by rw [r.ats.length]; exact hl, fun p hp => q _ _ (s1.trans (Same.new hp)) (r.ats.newTup (E.same s1).avd hp)⟩)
theorem e_lst {ds : List D} (h : EvA true X ρ es ds) (hl : ds.length ≤ sizeLine := by exact Nat.le_trans (Nat.le_of_ble_eq_true rfl : _ ≤ 100) (by decide)) : Ev .fr X ρ (.List es pos) (.lst ds) := .mk fun F σ H E Q q =>
  wT.of (pe_lst pa_w) (h F σ H E _ fun vs H1 s1 r => ⟨by rw [r.ats.length]; exact hl, fun p hp => q _ _ (s1.trans (Same.new hp)) ((r.ats.newLst hp).back s1)⟩)
theorem e_dnewI : Ev .fr X ρ (.Dict [] [] pos) (.dI []) := .mk fun F σ H E Q q => wT.of pe_dnewK fun p hp => q _ _ (Same.new hp) ⟨p, rfl, hp, [], upd_same, .nil⟩
theorem e_dnewT : Ev .fr X ρ (.Dict [] [] pos) (.dT []) := .mk fun F σ H E Q q => wT.of pe_dnewT fun p hp => q _ _ (Same.new hp) ⟨p, rfl, hp, [], upd_same, .nil⟩
/-! subscripts -/
theorem atI_ats {Z : Addr → Prop} {H : Hp} {xs : List V} {l : List D} {i : Int} (h : Ats Z H xs l) (e : atI l i = some d) : ∃ v, atI xs i = some v ∧ At Z H v d := by
  unfold atI at e ⊢
  rw [h.length]
  cases q : ixN l.length i with
  | none => rw [q] at e; cases e
  | some j =>
    rw [q] at e
    exact h.get' e
theorem e_ix {l : List D} {i : Int} (ha : Ev k1 X ρ a d1) (hb : Ev k2 X ρ b (.int i)) (hi : atI l i = some d) (hs : IsSeq d1 l := by constructor) (hp : PlainIx b := by exact fun _ _ => rfl) : Ev .st X ρ (.Subscript a b pos) d := .mk fun F σ H E Q q =>
  wT.of (pe_ix (ix_list.or ix_tup) pe_w pe_w hp) (ha F σ H E _ fun x H1 s1 r1 => hb F σ H1 (E.same s1) _ fun y H2 s2 r2 => by
    obtain ⟨a, xs, rfl, e1, t⟩ := (r1.rdOf.same s2).seq (K := X.K) hs
    obtain ⟨v, ev, av⟩ := atI_ats t hi
    rcases e1 with e1 | e1
    · exact .inl ⟨a, xs, i, v, rfl, r2.rdOf.int, e1, ev, q v H2 (s1.trans s2) av⟩
    · exact .inr ⟨a, xs, i, v, rfl, r2.rdOf.int, e1, ev, q v H2 (s1.trans s2) av⟩)
/-! built-ins by name -/
def OpN (k : Kd) (r : List V → Hp → VK → Prop) (ds : List D) (d : D) : Prop := ∀ (Z : Addr → Prop) (H : Hp) (vs : List V), (∀ b, Z b → H b ≠ none) → Rds .rd Z H vs ds → ∀ Q : VK, (∀ v H', Same H H' → Res k Z H H' v d → Q v H') → r vs H Q
theorem e_callB {x : Str} {id : String} {p' : Pos} {ds : List D} {r : List V → Hp → VK → Prop} (hc : CallR X (.builtin id) r) (hm : X.mg x = none) (hv : bootBuiltins x = some (.builtin id)) (ha : EvA false X ρ (e :: es) ds) (hr : OpN k r ds d)
    (hg : Gl X x := by rfl) (hn : x ≠ "__name__" := by decide) (hdb : (x == ("__debug__" : Str)) = false := by decide) (he : starEach (e :: es) X.env = (false, eval e X.env) :: starEach es X.env := by rfl) (hpl : (backTo pos (starEach es X.env)).any (·.1) = false := by rfl) :
    Ev k X ρ (.Call (.Name x p') (e :: es) [] pos) d := .mk fun F σ H E Q q =>
  wT.of (pe_callB hc hg hm hv pa_w hn hdb he hpl) (ha F σ H E _ fun vs H1 s1 r1 => hr (Av F ρ) H1 vs (E.same s1).avd r1 Q fun v H2 s2 r2 => q v H2 (s1.trans s2) (r2.back s1))
theorem e_callTy {x : Str} {T : String} {p' : Pos} {ds : List D} {r : List V → Hp → VK → Prop} (hc : CallR X (.type T) r) (hm : X.mg x = none) (hv : bootBuiltins x = some (.type T)) (ha : EvA false X ρ (e :: es) ds) (hr : OpN k r ds d)
    (hg : Gl X x := by rfl) (hn : x ≠ "__name__" := by decide) (hdb : (x == ("__debug__" : Str)) = false := by decide) (he : starEach (e :: es) X.env = (false, eval e X.env) :: starEach es X.env := by rfl) (hpl : (backTo pos (starEach es X.env)).any (·.1) = false := by rfl) :
    Ev k X ρ (.Call (.Name x p') (e :: es) [] pos) d := .mk fun F σ H E Q q =>
  wT.of (pe_callTy hc hg hm hv pa_w hn hdb he hpl) (ha F σ H E _ fun vs H1 s1 r1 => hr (Av F ρ) H1 vs (E.same s1).avd r1 Q fun v H2 s2 r2 => q v H2 (s1.trans s2) (r2.back s1))
end
end TR
/-! ## C3 -/
set_option Elab.async false
set_option linter.all false
set_option maxRecDepth 100000
namespace TR
open PySem L2
/-! ### sizes that the heap knows -/
def Szs (H : Hp) : Prop := (∀ a xs, H a = some (.lst xs) → xs.length ≤ sizeLine) ∧ (∀ a xs, H a = some (.tup xs) → xs.length ≤ sizeLine) ∧ (∀ a xs, H a = some (.dT xs) → xs.length ≤ sizeLine) ∧ (∀ a xs, H a = some (.dK xs) → xs.length ≤ sizeLine)
theorem szs_of {X : Cx} {pins : List (Addr × Obj)} {σ : St} {H : Hp} {s : Shared} (I : Inv X pins σ H s) : Szs H :=
  ⟨fun a xs e => (show ObjOk X.prog X.w H s.heap a (.lst xs) from I.hok a _ e).1, fun a xs e => (show ObjOk X.prog X.w H s.heap a (.tup xs) from I.hok a _ e).1,
    fun a xs e => (show ObjOk X.prog X.w H s.heap a (.dT xs) from I.hok a _ e).1, fun a xs e => (show ObjOk X.prog X.w H s.heap a (.dK xs) from I.hok a _ e).1⟩
theorem wT.info {X : Cx} {e : Expr} {σ : St} {H : Hp} {Q : VK} (h : wT X e σ H fun v H' => Szs H' → Q v H') : wT X e σ H Q := fun pins s I =>
  thn (h pins s I) fun u s' ⟨v, H', I', r, q⟩ => ⟨v, H', I', r, q (szs_of I')⟩
theorem wT.here {X : Cx} {e : Expr} {σ : St} {H : Hp} {Q : VK} (h : Szs H → wT X e σ H Q) : wT X e σ H Q := fun pins s I => h (szs_of I) pins s I
theorem wI.of {X : Cx} {tg it : Expr} {σ : St} {H : Hp} {t : TI} {R : It → Hp → Prop} (h : PI X tg it t) (q : t σ H R) : wI X tg it σ H R := fun pins s I => h.run pins s σ H R I q
theorem pi_w {X : Cx} {tg it : Expr} : PI X tg it (wI X tg it) := ⟨fun pins s σ H R I h => h pins s I⟩
theorem wI.info {X : Cx} {tg it : Expr} {σ : St} {H : Hp} {R : It → Hp → Prop} (h : wI X tg it σ H fun J H' => Szs H' → R J H') : wI X tg it σ H R := fun pins s I =>
  thn (h pins s I) fun u s1 h1 => thn h1 fun itv s2 ⟨it, fp, tn, J, H', a, I', b, c, d, q⟩ => ⟨it, fp, tn, J, H', a, I', b, c, d, q (szs_of I')⟩
/-! ### sources -/
structure Wk (Zm : Addr → Prop) (J : It) (ds : List D) (H1 : Hp) : Prop where
  sz : ds.length ≤ sizeLine
  ex : ∃ G : Hp → Prop, G H1 ∧ (∀ H H', G H → (∀ b o, ¬ Zm b → H b = some o → H' b = some o) → G H') ∧
    Walk J ds.length G fun i H x H' => Same H H' ∧ ∀ Z : Addr → Prop, (∀ b, Z b → Zm b) → (∀ b, Z b → Ob H b) → ∃ d, ds[i]? = some d ∧ At Z H' x d
/-- the same, for who changes nothing -/
structure Wk0 (Zm : Addr → Prop) (J : It) (ds : List D) (H1 : Hp) : Prop where
  sz : ds.length ≤ sizeLine
  ex : ∃ G : Hp → Prop, G H1 ∧ (∀ H H', G H → Same H H' → G H') ∧
    Walk J ds.length G fun i H x H' => Same H H' ∧ ∀ Z : Addr → Prop, (∀ b, Z b → Zm b) → (∀ b, Z b → Ob H b) → ∃ d, ds[i]? = some d ∧ At Z H' x d
theorem Wk.zero {Zm : Addr → Prop} {J : It} {ds : List D} {H1 : Hp} (w : Wk Zm J ds H1) : Wk0 Zm J ds H1 := ⟨w.sz, w.ex.elim fun G q => ⟨G, q.1, fun H H' g s => q.2.1 H H' g fun b o _ e => s b o e, q.2.2⟩⟩
structure EvI (X : Cx) (ρ : En) (tg it : Expr) (ds : List D) : Prop where
  mk ::
  go : ∀ (F : Fr) (σ : St) (H : Hp), EnvAt F H σ ρ → ∀ R : It → Hp → Prop, (∀ J H1, Same H H1 → Wk (fun b => Av F ρ b ∨ H1 b = none) J ds H1 → R J H1) → wI X tg it σ H R
instance {X : Cx} {ρ : En} {tg it : Expr} {ds : List D} : CoeFun (EvI X ρ tg it ds) fun _ => ∀ (F : Fr) (σ : St) (H : Hp), EnvAt F H σ ρ → ∀ R : It → Hp → Prop, (∀ J H1, Same H H1 → Wk (fun b => Av F ρ b ∨ H1 b = none) J ds H1 → R J H1) → wI X tg it σ H R := ⟨EvI.go⟩
section
variable {X : Cx} {ρ : En} {e e2 tg it a b : Expr} {d : D} {k k1 k2 : Kd} {pos p : Pos} {l l2 : List D}
theorem wk_list {Z : Addr → Prop} {H : Hp} {c : Addr} {xs : List V} {K : PySem.W.Frag} (hz : ¬ Z c) (e : H c = some (.lst xs)) (t : Ats Z H xs l) (hs : xs.length ≤ sizeLine) : Wk (fun b => Z b ∨ H b = none) (Itl K c) l H := by
  refine ⟨by rw [← t.length]; exact hs, fun H' => H' c = some (.lst xs) ∧ Ats (fun b => Z b ∨ H b = none) H' xs l, ⟨e, t.move (fun b z => z) fun _ _ _ e => e⟩, fun H1 H2 ⟨g1, g2⟩ kp => ⟨kp c _ (fun z => z.elim hz fun n => by rw [e] at n; cases n) g1, g2.move (fun _ z => .inl z) kp⟩, ?_⟩
  rw [← t.length]
  exact (walk_list (K := K) (a := c) (xs := xs)).mono (fun H' g => SqL.of g.1) fun i H' x H2 _ g y => by
    obtain ⟨rfl, y⟩ := y
    refine ⟨Same.refl _, fun Z' hz' _ => ?_⟩
    obtain ⟨d, e1, a1⟩ := g.2.get y
    exact ⟨d, e1, a1.weak hz'⟩
theorem wk_tup {Z : Addr → Prop} {H : Hp} {c : Addr} {xs : List V} {K : PySem.W.Frag} (hz : ¬ Z c) (e : H c = some (.tup xs)) (t : Ats Z H xs l) (hs : xs.length ≤ sizeLine) : Wk (fun b => Z b ∨ H b = none) (Itt K c) l H := by
  refine ⟨by rw [← t.length]; exact hs, fun H' => H' c = some (.tup xs) ∧ Ats (fun b => Z b ∨ H b = none) H' xs l, ⟨e, t.move (fun b z => z) fun _ _ _ e => e⟩, fun H1 H2 ⟨g1, g2⟩ kp => ⟨kp c _ (fun z => z.elim hz fun n => by rw [e] at n; cases n) g1, g2.move (fun _ z => .inl z) kp⟩, ?_⟩
  rw [← t.length]
  exact (walk_tup (K := K) (a := c) (xs := xs)).mono (fun H' g => SqT.of g.1) fun i H' x H2 _ g y => by
    obtain ⟨rfl, y⟩ := y
    refine ⟨Same.refl _, fun Z' hz' _ => ?_⟩
    obtain ⟨d, e1, a1⟩ := g.2.get y
    exact ⟨d, e1, a1.weak hz'⟩
theorem i_list (ha : Ev k X ρ it (.lst l)) (hk : k ≠ .rd := by exact fun z => nomatch z) : EvI X ρ tg it l := .mk fun F σ H E R q =>
  wI.info (wI.of (pi_list pe_w) (ha F σ H E _ fun v H1 s1 r1 => by
    have r2 := r1.stOf hk E.avd
    cases r2 with
    | lst n e t => exact ⟨_, rfl, ⟨_, SqL.of e⟩, fun sz => q _ H1 s1 (wk_list n e t (sz.1 _ _ e))⟩))
theorem i_tup (ha : Ev k X ρ it (.tup l)) : EvI X ρ tg it l := .mk fun F σ H E R q =>
  wI.info (wI.of (pi_tup pe_w) (ha F σ H E _ fun v H1 s1 r1 => by
    obtain ⟨c, xs, rfl, n, e, t⟩ := r1.rdOf.tup
    exact ⟨_, rfl, ⟨_, SqT.of e⟩, fun sz => q _ H1 s1 (wk_tup n e t (sz.2.1 _ _ e))⟩))
def rangeD (lo : Int) (n : Nat) : List D := (List.range n).map fun i => .int (lo + (i : Nat))
theorem wk_range {Zm : Addr → Prop} {H : Hp} {lo : Int} {n : Nat} (hs : n ≤ sizeLine) : Wk Zm (Itr lo n) (rangeD lo n) H := by
  have hl : (rangeD lo n).length = n := by unfold rangeD; rw [List.length_map, List.length_range]
  refine ⟨by rw [hl]; exact hs, fun _ => True, trivial, fun _ _ _ _ => trivial, ?_⟩
  rw [hl]
  exact (walk_range (lo := lo) (n := n)).mono (fun _ _ => trivial) fun i H' x H2 hi _ y => by
    obtain ⟨rfl, rfl⟩ := y
    refine ⟨Same.refl _, fun Z' _ _ => ⟨.int (lo + (i : Nat)), ?_, .int _⟩⟩
    unfold rangeD
    rw [List.getElem?_map, List.getElem?_range hi]; rfl
theorem i_range1 {n : Int} (hm : X.mg "range" = none) (ha : Ev k X ρ a (.int n)) (h1 : n ≤ 1000000) (h2 : -1000000 ≤ n) (hg : Gl X "range" := by rfl) (hs : starEach [a] X.env = [(false, eval a X.env)] := by rfl) (hs' : starEach [a] X.env = (false, eval a X.env) :: starEach [] X.env := by rfl) :
    EvI X ρ tg (.Call (.Name "range" p) [a] [] pos) (rangeD 0 n.toNat) := .mk fun F σ H E R q =>
  wI.of (pi_range1 hg hm pa_w hs) (a_cons (s := false) ha a_nil (fun z => nomatch z) hs' F σ H E _ fun vs H1 s1 r1 => by
    cases r1 with
    | cons r rr =>
      cases rr
      rw [Rd.int r]
      exact ⟨n, rfl, by omega, by omega, q _ H1 s1 (wk_range (by rw [sizeLine_eq]; omega))⟩)
theorem i_range2 {lo n : Int} (hm : X.mg "range" = none) (ha : Ev k1 X ρ a (.int lo)) (hb : Ev k2 X ρ b (.int n)) (h1 : lo ≤ 1000000 ∧ -1000000 ≤ lo) (h2 : n ≤ 1000000 ∧ -1000000 ≤ n) (hg : Gl X "range" := by rfl)
    (hs : starEach [a, b] X.env = [(false, eval a X.env), (false, eval b X.env)] := by rfl) (hs2 : starEach [b] X.env = [(false, eval b X.env)] := by rfl) (hs' : starEach [a, b] X.env = (false, eval a X.env) :: starEach [b] X.env := by rfl) (hs3 : starEach [b] X.env = (false, eval b X.env) :: starEach [] X.env := by rfl) :
    EvI X ρ tg (.Call (.Name "range" p) [a, b] [] pos) (rangeD lo (n - lo).toNat) := .mk fun F σ H E R q =>
  wI.of (pi_range2 hg hm pa_w hs hs2) (a_cons (s := false) ha (a_cons (s := false) hb a_nil (fun z => nomatch z) hs3) (fun z => nomatch z) hs' F σ H E _ fun vs H1 s1 r1 => by
    cases r1 with
    | cons r rr =>
      cases rr with
      | cons r' rr =>
        cases rr
        rw [Rd.int r, Rd.int r']
        exact ⟨lo, n, rfl, by omega, q _ H1 s1 (wk_range (by rw [sizeLine_eq]; omega))⟩)
/-- pairs, each a new tuple -/
theorem wk_pairs {Zm : Addr → Prop} {J : It} {H1 : Hp} {G0 G : Hp → Prop} {xs ys : Nat → Option V} {l l2 : List D} {n : Nat} (w : Walk J n G0 (YPair xs ys)) (hn : n = min l.length l2.length) (hs : n ≤ sizeLine) (g1 : G H1)
    (kp : ∀ H H', G H → (∀ b o, ¬ Zm b → H b = some o → H' b = some o) → G H') (gg : ∀ H, G H → G0 H)
    (ax : ∀ H i x, i < n → G H → xs i = some x → ∃ d, l[i]? = some d ∧ At Zm H x d) (ay : ∀ H i x, i < n → G H → ys i = some x → ∃ d, l2[i]? = some d ∧ At Zm H x d) :
    Wk Zm J ((l.zip l2).map fun p => .tup [p.1, p.2]) H1 := by
  have hl : ((l.zip l2).map fun p => D.tup [p.1, p.2]).length = n := by rw [List.length_map, List.length_zip, hn]
  refine ⟨by rw [hl]; exact hs, G, g1, kp, ?_⟩
  rw [hl]
  exact w.mono gg fun i H x H' hi g y => by
    obtain ⟨T, v, u, rfl, hT, rfl, e1, e2⟩ := y
    refine ⟨Same.new hT, fun Z hz hd => ?_⟩
    obtain ⟨d1, f1, a1⟩ := ax H i v hi g e1
    obtain ⟨d2, f2, a2⟩ := ay H i u hi g e2
    refine ⟨.tup [d1, d2], ?_, Ats.newTup (fun b z => (hd b z).ne) (.cons (a1.weak hz) (.cons (a2.weak hz) .nil)) hT⟩
    rw [List.getElem?_map, (List.getElem?_zip_eq_some (z := (d1, d2))).mpr ⟨f1, f2⟩]
    rfl
theorem walk_zipT {K : PySem.W.Frag} {a b : Addr} {xs ys : List V} {n : Nat} (hn : n = min xs.length ys.length) : Walk (RZ.ItzT K a b) n (fun H => SqT K H a xs ∧ SqT K H b ys) (YPair (fun i => xs[i]?) (fun i => ys[i]?)) := by
  subst hn
  refine ⟨fun i _ hi q => ?_, fun _ q => ⟨xs, ys, q.1, q.2, by omega⟩, fun i H v H' _ q y => ?_⟩
  · have h1 : i < xs.length := by omega
    have h2 : i < ys.length := by omega
    exact ⟨xs, ys, xs[i], ys[i], q.1, q.2, by simp [h1], by simp [h2]⟩
  · obtain ⟨T, x, z, h1, h2, h3, h4, h5⟩ := y
    exact ⟨T, x, z, h1, h2, h3, h4 xs q.1, h5 ys q.2⟩
theorem stand_t {Z : Addr → Prop} {H1 : Hp} {c : Addr} {xs : List V} (hz : ¬ Z c) (e : H1 c = some (.tup xs)) {H H' : Hp} (g : H c = some (.tup xs)) (kp : ∀ b o, ¬ (Z b ∨ H1 b = none) → H b = some o → H' b = some o) : H' c = some (.tup xs) :=
  kp c _ (fun z => z.elim hz fun n => by rw [e] at n; cases n) g
theorem stand_l {Z : Addr → Prop} {H1 : Hp} {c : Addr} {xs : List V} (hz : ¬ Z c) (e : H1 c = some (.lst xs)) {H H' : Hp} (g : H c = some (.lst xs)) (kp : ∀ b o, ¬ (Z b ∨ H1 b = none) → H b = some o → H' b = some o) : H' c = some (.lst xs) :=
  kp c _ (fun z => z.elim hz fun n => by rw [e] at n; cases n) g
abbrev zipD (l l2 : List D) : List D := (l.zip l2).map fun p => .tup [p.1, p.2]
theorem ats_up {Z : Addr → Prop} {H1 : Hp} {xs : List V} {l : List D} (t : Ats Z H1 xs l) : Ats (fun b => Z b ∨ H1 b = none) H1 xs l := t.move (fun _ z => z) fun _ _ _ e => e
theorem i_zipT {elts : List Expr} {kk : Nat} {tpos : Pos} (hm : X.mg "zip" = none) (ha : Ev k1 X ρ a (.tup l)) (hb : Ev k2 X ρ b (.tup l2)) (hg : Gl X "zip" := by rfl)
    (hs : starEach [a, b] X.env = (false, eval a X.env) :: starEach [b] X.env := by rfl) (hpl : (backTo pos (starEach [b] X.env)).any (·.1) = false := by rfl) (hs3 : starEach [b] X.env = (false, eval b X.env) :: starEach [] X.env := by rfl) :
    EvI X ρ (.Tuple elts kk tpos) (.Call (.Name "zip" p) [a, b] [] pos) (zipD l l2) := .mk fun F σ H E R q =>
  wI.info (wI.of (RZ.pi_zipA hg hm pa_w hs hpl) (a_cons (s := false) ha (a_cons (s := false) hb a_nil (fun z => nomatch z) hs3) (fun z => nomatch z) hs F σ H E _ fun vs H1 s1 r1 => by
    cases r1 with
    | cons r rr =>
      cases rr with
      | cons r' rr =>
        cases rr
        obtain ⟨c, xs, rfl, n1, e1, t1⟩ := Rd.tup r
        obtain ⟨c2, ys, rfl, n2, e2, t2⟩ := Rd.tup r'
        refine ⟨c, c2, xs, ys, rfl, .inr ⟨SqT.of e1, SqT.of e2, fun sz => q _ H1 s1 ?_⟩⟩
        refine wk_pairs (n := min xs.length ys.length) (G := fun H => (H c = some (.tup xs) ∧ H c2 = some (.tup ys)) ∧ Ats (fun b => Av F ρ b ∨ H1 b = none) H xs l ∧ Ats (fun b => Av F ρ b ∨ H1 b = none) H ys l2) (walk_zipT (K := X.K) rfl) (by rw [t1.length, t2.length]) (Nat.le_trans (Nat.min_le_left _ _) (sz.2.1 _ _ e1)) ⟨⟨e1, e2⟩, ats_up t1, ats_up t2⟩
          (fun Ha Hb g kp => ⟨⟨stand_t n1 e1 g.1.1 kp, stand_t n2 e2 g.1.2 kp⟩, g.2.1.move (fun _ z => .inl z) kp, g.2.2.move (fun _ z => .inl z) kp⟩) (fun H g => ⟨SqT.of g.1.1, SqT.of g.1.2⟩) (fun H i x _ g e => g.2.1.get e) (fun H i x _ g e => g.2.2.get e)))
theorem i_zipL {elts : List Expr} {kk : Nat} {tpos : Pos} (hm : X.mg "zip" = none) (ha : Ev k1 X ρ a (.lst l)) (hb : Ev k2 X ρ b (.lst l2)) (hk1 : k1 ≠ .rd := by exact fun z => nomatch z) (hk2 : k2 ≠ .rd := by exact fun z => nomatch z) (hg : Gl X "zip" := by rfl)
    (hs : starEach [a, b] X.env = (false, eval a X.env) :: starEach [b] X.env := by rfl) (hpl : (backTo pos (starEach [b] X.env)).any (·.1) = false := by rfl) (hs3 : starEach [b] X.env = (false, eval b X.env) :: starEach [] X.env := by rfl) :
    EvI X ρ (.Tuple elts kk tpos) (.Call (.Name "zip" p) [a, b] [] pos) (zipD l l2) := .mk fun F σ H E R q =>
  wI.info (wI.of (RZ.pi_zipA hg hm pa_w hs hpl) (a_cons (s := true) ha (a_cons (s := true) hb a_nil (fun _ => hk2) hs3) (fun _ => hk1) hs F σ H E _ fun vs H1 s1 r1 => by
    cases r1 with
    | cons r rr =>
      cases rr with
      | cons r' rr =>
        cases rr
        have r : At (Av F ρ) H1 _ (.lst l) := r
        have r' : At (Av F ρ) H1 _ (.lst l2) := r'
        cases r with
        | lst n1 e1 t1 =>
          cases r' with
          | lst n2 e2 t2 =>
            rename_i c xs c2 ys
            refine ⟨c, c2, xs, ys, rfl, .inl ⟨SqL.of e1, SqL.of e2, fun sz => q _ H1 s1 ?_⟩⟩
            refine wk_pairs (n := min xs.length ys.length) (G := fun H => (H c = some (.lst xs) ∧ H c2 = some (.lst ys)) ∧ Ats (fun b => Av F ρ b ∨ H1 b = none) H xs l ∧ Ats (fun b => Av F ρ b ∨ H1 b = none) H ys l2) (walk_zip (K := X.K) rfl) (by rw [t1.length, t2.length]) (Nat.le_trans (Nat.min_le_left _ _) (sz.1 _ _ e1)) ⟨⟨e1, e2⟩, ats_up t1, ats_up t2⟩
              (fun Ha Hb g kp => ⟨⟨stand_l n1 e1 g.1.1 kp, stand_l n2 e2 g.1.2 kp⟩, g.2.1.move (fun _ z => .inl z) kp, g.2.2.move (fun _ z => .inl z) kp⟩) (fun H g => ⟨SqL.of g.1.1, SqL.of g.1.2⟩) (fun H i x _ g e => g.2.1.get e) (fun H i x _ g e => g.2.2.get e)))
abbrev enumD (l : List D) : List D := zipD ((List.range l.length).map fun i => .int (i : Nat)) l
theorem enum_ix {Zm : Addr → Prop} {H : Hp} {n i : Nat} {x : V} (hi : i < n) (e : some (V.int (i : Nat)) = some x) : ∃ d, ((List.range n).map fun i => D.int (i : Nat))[i]? = some d ∧ At Zm H x d := by
  cases e
  exact ⟨.int (i : Nat), by rw [List.getElem?_map, List.getElem?_range hi]; rfl, .int _⟩
theorem i_enumL {elts : List Expr} {kk : Nat} {tpos : Pos} (hm : X.mg "enumerate" = none) (ha : Ev k1 X ρ a (.lst l)) (hk1 : k1 ≠ .rd := by exact fun z => nomatch z) (hg : Gl X "enumerate" := by rfl)
    (hs : starEach [a] X.env = [(false, eval a X.env)] := by rfl) (hs' : starEach [a] X.env = (false, eval a X.env) :: starEach [] X.env := by rfl) :
    EvI X ρ (.Tuple elts kk tpos) (.Call (.Name "enumerate" p) [a] [] pos) (enumD l) := .mk fun F σ H E R q =>
  wI.info (wI.of (pi_enum hg hm pa_w hs) (a_cons (s := true) ha a_nil (fun _ => hk1) hs' F σ H E _ fun vs H1 s1 r1 => by
    cases r1 with
    | cons r rr =>
      cases rr
      have r : At (Av F ρ) H1 _ (.lst l) := r
      cases r with
      | lst n1 e1 t1 =>
        rename_i c xs
        refine ⟨c, xs, rfl, SqL.of e1, fun sz => q _ H1 s1 ?_⟩
        refine wk_pairs (n := xs.length) (G := fun H => H c = some (.lst xs) ∧ Ats (fun b => Av F ρ b ∨ H1 b = none) H xs l) (walk_enum (K := X.K)) (by rw [List.length_map, List.length_range, t1.length, Nat.min_self]) (sz.1 _ _ e1) ⟨e1, ats_up t1⟩
          (fun Ha Hb g kp => ⟨stand_l n1 e1 g.1 kp, g.2.move (fun _ z => .inl z) kp⟩) (fun H g => SqL.of g.1) (fun H i x hi _ e => enum_ix (by rw [← t1.length]; exact hi) e) (fun H i x _ g e => g.2.get e)))
/-! enumerate of a tuple -/
def Itte (K : PySem.W.Frag) (a : Addr) : It :=
  ⟨fun i H => ∃ xs : List V, SqT K H a xs ∧ i < xs.length, fun i H v H' => ∃ T x, v = .ref T ∧ H T = none ∧ H' = upd H T (.tup [.int (i : Nat), x]) ∧ ∀ ys, SqT K H a ys → ys[i]? = some x, fun i H => ∃ xs : List V, SqT K H a xs ∧ xs.length = i⟩
theorem walk_enumT {K : PySem.W.Frag} {c : Addr} {xs : List V} : Walk (Itte K c) xs.length (fun H => SqT K H c xs) (YPair (fun i => some (.int (i : Nat))) (fun i => xs[i]?)) :=
  ⟨fun i _ hi q => ⟨xs, q, hi⟩, fun _ q => ⟨xs, q, rfl⟩, fun i H v H' _ q y => by
    obtain ⟨T, x, h1, h2, h3, h4⟩ := y
    exact ⟨T, .int (i : Nat), x, h1, h2, h3, rfl, h4 xs q⟩⟩
end
/-- enumerate's object over the tuple at a, ahead of turn i -/
structure EnT (a e j : Addr) (i : Nat) (h : Heap) : Prop where
  en : ∃ old, IsEnum h e j (i : Int) old
  it : h.IsTupleIter j a i
  ne : e ≠ j
theorem turn_enumT {P : Program} {w : World} {K : PySem.W.Frag} {elts : List Expr} {kk : Nat} {tpos : Pos} (a e j : Addr) (na : e ≠ a) (nj : a ≠ j) : Turn P w K (.Tuple elts kk tpos) (Itte K a) [e, j] e (EnT a e j) := by
  constructor
  case mem => exact List.mem_cons_self
  case obj =>
    intro i h st b hb
    obtain ⟨old, he⟩ := st.en
    obtain ⟨o, ho, hc, hd⟩ := st.it
    rcases List.mem_cons.mp hb with rfl | hb
    · exact ⟨_, he, fun v q => by cases q⟩
    · rw [List.mem_singleton.mp hb]
      exact ⟨o, ho, fun v q => by rw [hd] at q; cases q⟩
  case keep =>
    intro i h h' st k
    obtain ⟨old, he⟩ := st.en
    exact ⟨⟨old, k e List.mem_cons_self _ he⟩, st.it.at fun o q => k j (List.mem_cons_of_mem _ List.mem_cons_self) o q, st.ne⟩
  case self =>
    intro A i s Q E st h
    obtain ⟨old, he⟩ := st.en
    exact wpAny_pyIter_enum he h
  case done =>
    intro X hP hw hK hc i pins s σ H E I hf st hg
    subst hP; subst hw; subst hK
    obtain ⟨old, he⟩ := st.en
    obtain ⟨xs, hq, hl⟩ := hg
    obtain ⟨its, rv, tp, _⟩ := I.tuple hq
    obtain ⟨f0, f1, f2, f3, f4, f5⟩ := hf j (List.mem_cons_of_mem _ List.mem_cons_self)
    have hn : its.toArray.size = i := by rw [← hl, rv.length]; rfl
    have D := PySem.Draws.tuple (prog := X.prog) (w := X.w) (A := X.A.in1) (show X.A.in1.handled = none from I.ok.hd hc) j a nj its.toArray
    rw [hn] at D
    exact wpAny_pyNext_enum_endD D he ⟨st.it, tp⟩ fun h' eb => ⟨rfl, I.turned (t' := s.toks) (fun b o hb q => eb b o hb q) f0 f1 f3 f4 f5⟩
  case item =>
    intro X hP hw hK hc i pins s σ H E I hf st hg
    subst hP; subst hw; subst hK
    obtain ⟨old, he⟩ := st.en
    obtain ⟨xs, hq, hl⟩ := hg
    obtain ⟨its, rv, tp, _⟩ := I.tuple hq
    have hs : its.toArray.size = xs.length := by rw [rv.length]; rfl
    have D := PySem.Draws.tuple (prog := X.prog) (w := X.w) (A := X.A.in1) (show X.A.in1.handled = none from I.ok.hd hc) j a nj its.toArray
    have hel : e < s.heap.objs.size := Heap.lt_size he
    have hjl : j < s.heap.objs.size := by obtain ⟨_, q, _⟩ := st.it; exact Heap.lt_size q
    refine wpAny_pyNext_enum_itemD D he ⟨st.it, tp⟩ (by rw [hs]; exact hl) st.ne (by
      intro hm
      rcases List.mem_cons.mp hm with z | z
      · exact st.ne z
      · exact na (List.mem_singleton.mp z)) fun u h' tk hu ho hst hT _ hk => ?_
    have hx : xs[i]? = some xs[i] := List.getElem?_eq_getElem hl
    obtain ⟨u', e1, ru⟩ := rv.get hx
    have eu : u' = u := by
      have q : its[i]? = some u := by simpa using hu
      rw [e1] at q
      exact Option.some.inj q
    subst eu
    generalize xs[i] = x at hx ru
    have hT0 : H s.heap.objs.size = none := I.hok.fresh (Nat.le_refl _)
    refine ⟨_, rfl, wpAny_letOwnedTupleGo_enum (s := { s with heap := h', toks := tk + 1 }) ho fun h2 he2 sb => ?_⟩
    have hT2 := (sb.2 s.heap.objs.size (Nat.ne_of_gt hel)).trans hT
    have okT : ObjOk X.prog X.w (upd H s.heap.objs.size (.tup [.int (i : Nat), x])) h2 s.heap.objs.size (.tup [.int (i : Nat), x]) :=
      ⟨show 2 ≤ sizeLine by decide, [.int i tk, u'], .cons ⟨_, rfl⟩ (.cons ru .nil), _, hT2, rfl, _, rfl⟩
    have away : ∀ b, b ∈ [e, j] → b ≠ s.heap.objs.size := fun b hb => by
      rcases List.mem_cons.mp hb with z | z
      · rw [z]; exact Nat.ne_of_lt hel
      · rw [List.mem_singleton.mp z]; exact Nat.ne_of_lt hjl
    have I2 := I.turnedNew (t' := tk + 1) (ch := [e, j]) (fun b o hb q => (sb.2 b fun z => hb (by rw [z]; exact List.mem_cons_self)).trans (hk b o (fun z => hb (by rw [z]; exact List.mem_cons_self)) (fun z => hb (by rw [z]; exact List.mem_cons_of_mem _ List.mem_cons_self)) q)) hf (Nat.le_refl _) okT
    refine ⟨.ref s.heap.objs.size, _, I2, rfl, ⟨s.heap.objs.size, x, rfl, hT0, rfl, fun ys hy => by rw [I.tuple_inj hy hq]; exact hx⟩, ⟨⟨u', ?_⟩, hst.1.at fun o q => (sb.2 j (Ne.symm st.ne)).trans q, st.ne⟩, fun b hb => ?_⟩
    · rw [show ((i + 1 : Nat) : Int) = (i : Int) + 1 by omega]; exact he2
    · rw [upd_ne (away b hb)]; exact (hf b hb).1
theorem meets_enumT (l : Addr) (items : Array Value) (n : Nat) (dct : Option Addr) (sl : Array (Option Value)) :
    Meets (Builtin.«enumerate.__new__» ⟨[.type "enumerate", .ref l], []⟩) (fun _ R s => s.heap.get? l = some { cls := .type "tuple", dict := dct, data := .seq items n, slots := sl } ∧
      R (.ok (.ret (.ref (s.heap.push { cls := .type "tuple_iterator", data := .fields #[.ref l, .int 0 0] }).objs.size)))
        { s with heap := (s.heap.push { cls := .type "tuple_iterator", data := .fields #[.ref l, .int 0 0] }).push { cls := .type "enumerate", data := .fields #[.none, .bool false, .ref s.heap.objs.size, rawInt 0, .none, .none] } }) :=
  .of_wp fun prog w A R s h => by
    obtain ⟨hp, g, d, tk, os⟩ := s; obtain ⟨e1, h⟩ := h
    have sube := sub_enumerate
    have tpl : Heap.IsTuple (Shared.heap ⟨hp, g, d, tk, os⟩) l items := ⟨_, e1, rfl, n, rfl⟩
    wp_walk using AutoSeq1.wpAny_loadPart' e1
    refine wpAny_stack_any fun st => wpAny_pure ?_
    split
    · rename_i c _ _ _ _ _
      cases (c == Value.type "enumerate") <;> (wp_walk using AutoSeq1.wpAny_loadPart' e1, wpAny_pyIter_tuple tpl; exact ⟨_, rfl, h⟩)
    · wp_walk using AutoSeq1.wpAny_loadPart' e1, wpAny_pyIter_tuple tpl
      exact ⟨_, rfl, h⟩
theorem call_enumT {prog : Program} {w : World} {A : Around} {E : Value → Shared → Prop} {s : Shared} {l : Addr} {items : Array Value} {Q : Value → Shared → Prop} (tp : PyProof.Rows.IsTup s.heap l items)
    (h : ∀ h', EnT l (s.heap.objs.size + 1) s.heap.objs.size 0 h' → (∀ b o, s.heap.get? b = some o → h'.get? b = some o) → Q (.ref (s.heap.objs.size + 1)) { s with heap := h' }) :
    wpAny (model prog w) A (call (.type "enumerate") [.ref l]) Q E s := by
  obtain ⟨⟨c, dct, dt, sl⟩, e1, hc, n, hd⟩ := tp
  obtain rfl : c = .type "tuple" := hc
  obtain rfl : dt = .seq items n := hd
  refine callType_new F.called_enumerate (by decide) (F.typeCall_enumerate_1 _) (F.newCall_enumerate_1 _) (fun obj => F.args_object_init_2 obj _) F.entry_enumerate_new (meets_enumT l items n dct sl) ⟨e1, ?_⟩
  have z1 : (s.heap.push { cls := .type "tuple_iterator", data := .fields #[.ref l, .int 0 0] }).objs.size = s.heap.objs.size + 1 := Heap.size_push ..
  have en : IsEnum ((s.heap.push { cls := .type "tuple_iterator", data := .fields #[.ref l, .int 0 0] }).push { cls := .type "enumerate", data := .fields #[.none, .bool false, .ref s.heap.objs.size, rawInt 0, .none, .none] }) (s.heap.objs.size + 1) s.heap.objs.size 0 .none := by
    rw [← z1]; exact Heap.get?_push_size _ rfl
  show _ ∧ _
  rw [z1]
  exact ⟨⟨_, en, rfl⟩, h _ ⟨⟨_, en⟩, ⟨_, Heap.get?_push_of_some _ (Heap.get?_push_size _ rfl), rfl, rfl⟩, Nat.succ_ne_self _⟩ fun b o x => Heap.get?_push_of_some _ (Heap.get?_push_of_some _ x)⟩
def iEnumT (K : PySem.W.Frag) (ta : TA) : TI := fun σ H R => ta σ H fun vs H1 => ∃ a xs, vs = [.ref a] ∧ SqT K H1 a xs ∧ R (Itte K a) H1
theorem pi_enumT {X : Cx} {e : Expr} {ta : TA} {p pos tpos : Pos} {elts : List Expr} {kk : Nat} (hg : Gl X "enumerate") (hm : X.mg "enumerate" = none) (ha : PA X [e] ta) (hs : starEach [e] X.env = [(false, eval e X.env)] := by rfl) :
    PI X (.Tuple elts kk tpos) (.Call (.Name "enumerate" p) [e] [] pos) (iEnumT X.K ta) := by
  constructor
  intro pins s σ H R I h
  refine PyProof.Rows.Call_ (ld_blt I hg hm PyProof.Rows.boot_enumerate (PyProof.Rows.callWith_type1 (thn (ha.run pos pins s σ H _ I h) fun us s1 ⟨vs, H1, I1, r1, c, xs, ev, hq, q⟩ => ?_) hs rfl))
  subst ev
  rw [Vals.ref1 r1]
  obtain ⟨its, rv, tp, _⟩ := I1.tuple hq
  have hc : c < s1.heap.objs.size := by obtain ⟨o, ho, _⟩ := id tp; exact Heap.lt_size ho
  refine call_enumT tp fun h' st hk => ?_
  obtain ⟨old, en⟩ := st.en
  have I2 : Inv X pins σ H1 { s1 with heap := h' } := I1.kept (t' := s1.toks) hk
  refine wpAny_pyIter_enum en ⟨_, [s1.heap.objs.size + 1, s1.heap.objs.size], _, _, H1, rfl, I2, turn_enumT c _ _ (Nat.ne_of_gt (Nat.lt_succ_of_lt hc)) (Nat.ne_of_lt hc), st, fun b hb => ?_, q⟩
  have hle : s1.heap.objs.size ≤ b := by
    rcases List.mem_cons.mp hb with z | z
    · rw [z]; exact Nat.le_succ _
    · rw [List.mem_singleton.mp z]; exact Nat.le_refl _
  exact I1.fpOk hle (I1.hok.fresh hle)
section
variable {X : Cx} {ρ : En} {e e2 tg it a b : Expr} {d : D} {k k1 k2 : Kd} {pos p : Pos} {l l2 : List D}
theorem i_enumT {elts : List Expr} {kk : Nat} {tpos : Pos} (hm : X.mg "enumerate" = none) (ha : Ev k1 X ρ a (.tup l)) (hg : Gl X "enumerate" := by rfl)
    (hs : starEach [a] X.env = [(false, eval a X.env)] := by rfl) (hs' : starEach [a] X.env = (false, eval a X.env) :: starEach [] X.env := by rfl) :
    EvI X ρ (.Tuple elts kk tpos) (.Call (.Name "enumerate" p) [a] [] pos) (enumD l) := .mk fun F σ H E R q =>
  wI.info (wI.of (pi_enumT hg hm pa_w hs) (a_cons (s := false) ha a_nil (fun z => nomatch z) hs' F σ H E _ fun vs H1 s1 r1 => by
    cases r1 with
    | cons r rr =>
      cases rr
      obtain ⟨c, xs, rfl, n1, e1, t1⟩ := Rd.tup r
      refine ⟨c, xs, rfl, SqT.of e1, fun sz => q _ H1 s1 ?_⟩
      refine wk_pairs (n := xs.length) (G := fun H => H c = some (.tup xs) ∧ Ats (fun b => Av F ρ b ∨ H1 b = none) H xs l) (walk_enumT (K := X.K)) (by rw [List.length_map, List.length_range, t1.length, Nat.min_self]) (sz.2.1 _ _ e1) ⟨e1, ats_up t1⟩
        (fun Ha Hb g kp => ⟨stand_t n1 e1 g.1 kp, g.2.move (fun _ z => .inl z) kp⟩) (fun H g => SqT.of g.1) (fun H i x hi _ e => enum_ix (by rw [← t1.length]; exact hi) e) (fun H i x _ g e => g.2.get e)))
end
end TR
/-! ## C4 -/
set_option Elab.async false
set_option linter.all false
set_option maxRecDepth 100000
namespace TR
open PySem L2
section
variable {F : Fr} {H H' H1 : Hp} {σ σ' : St} {ρ ρ' : En} {d : D} {v : V}
theorem mo_set {j : Nat} {e : Ent} {b : Addr} (he : ∀ p d, e ≠ .own p b d) (h : Mo (ρ.set j e) b) : Mo ρ b := by
  obtain ⟨p, d, h⟩ := h
  rcases List.mem_or_eq_of_mem_set h with h | h
  · exact ⟨p, d, h⟩
  · exact absurd h.symm (he p d)
theorem EnvAt.put (E : EnvAt F H σ ρ) {j : Nat} {x : Option V} {e : Ent} (he : EntAt F (Av F (ρ.set j e)) H x e) (hm : ∀ b, Mo (ρ.set j e) b → Mo ρ b) (hd : ∀ p q b d i d', e = .own p b d → ρ[i]? = some (.own q b d') → i = j) : EnvAt F H (σ.set j x) (ρ.set j e) where
  zd := E.zd
  yd := E.yd
  pd := E.pd
  sm := E.sm
  len := by rw [List.length_set, List.length_set, E.len]
  ent := fun i u h => by
    by_cases hij : j = i
    · subst hij
      have hl : j < ρ.length := by
        have := (List.getElem?_eq_some_iff.mp h).1
        rwa [List.length_set] at this
      rw [List.getElem?_set_self hl] at h
      cases h
      rw [List.getElem?_set_self (by rw [E.len]; exact hl)]
      exact he
    · rw [List.getElem?_set_ne hij] at h ⊢
      have q := E.ent i u h
      have w : ∀ b, Av F (ρ.set j e) b → Av F ρ b := fun b z => z.imp id fun z => z.imp id (hm b)
      cases u with
      | any => trivial
      | scr l => obtain ⟨a, o, e1, n, e2⟩ := q; exact ⟨a, o, e1, fun z => n (w a z), e2⟩
      | dat d => obtain ⟨v, e1, a⟩ := q; exact ⟨v, e1, a.weak w⟩
      | own p b d => obtain ⟨e1, t, f⟩ := q; exact ⟨e1, t.move (fun c z => .inl (w c z)) (fun _ _ _ e => e) (fun _ e => e), f⟩
  dj := fun i k p q b d d' h1 h2 => by
    have hl : ∀ {i : Nat} {u : Ent}, (ρ.set j e)[i]? = some u → (i = j ∧ u = e) ∨ (i ≠ j ∧ ρ[i]? = some u) := fun {i u} h => by
      by_cases hij : j = i
      · subst hij
        have hl : j < ρ.length := by
          have := (List.getElem?_eq_some_iff.mp h).1
          rwa [List.length_set] at this
        rw [List.getElem?_set_self hl] at h
        cases h
        exact .inl ⟨rfl, rfl⟩
      · rw [List.getElem?_set_ne hij] at h
        exact .inr ⟨Ne.symm hij, h⟩
    rcases hl h1 with ⟨rfl, e1⟩ | ⟨n1, g1⟩
    · rcases hl h2 with ⟨rfl, _⟩ | ⟨n2, g2⟩
      · rfl
      · exact (hd p q b d k d' e1.symm g2).symm
    · rcases hl h2 with ⟨rfl, e2⟩ | ⟨n2, g2⟩
      · exact hd q p b d' i d e2.symm g1
      · exact E.dj i k p q b d d' g1 g2
theorem EnvAt.putAny (E : EnvAt F H σ ρ) (j : Nat) (x : Option V) : EnvAt F H (σ.set j x) (ρ.set j .any) := E.put trivial (fun b => mo_set fun p d => by intro z; cases z) fun _ _ _ _ _ _ z => by cases z
theorem EnvAt.putDat (E : EnvAt F H σ ρ) (j : Nat) (a : At (Av F ρ) H v d) : EnvAt F H (σ.set j (some v)) (ρ.set j (.dat d)) :=
  E.put ⟨v, rfl, a.weak fun b z => z.imp id fun z => z.imp id (mo_set fun p d => by intro z; cases z)⟩ (fun b => mo_set fun p d => by intro z; cases z) fun _ _ _ _ _ _ z => by cases z
def wipeE (ρ : En) : List Nat → En
  | [] => ρ
  | v :: vs => (wipeE ρ vs).set v .any
theorem EnvAt.wipe (E : EnvAt F H σ ρ) : ∀ vs : List Nat, EnvAt F H (L2.wipe σ vs) (wipeE ρ vs)
  | [] => E
  | v :: vs => (E.wipe vs).putAny v none
theorem mo_wipe {b : Addr} : ∀ {vs : List Nat}, Mo (wipeE ρ vs) b → Mo ρ b
  | [], h => h
  | v :: vs, h => mo_wipe (mo_set (fun p d => by intro z; cases z) h)
/-- the same env seen with more forbidden -/
theorem EnvAt.forbid (E : EnvAt F H σ ρ) {Z : Addr → Prop} (hz : ∀ b, Z b → Av F ρ b ∨ H b = none) (s : Same H H') (hd : ∀ b, Z b → Ob H' b) : EnvAt { F with Y := Z } H' σ ρ where
  zd := fun b h => (E.zd b h).same s
  yd := hd
  pd := fun b h n => E.pd b h (s.free n)
  sm := fun b o h e => s b o (E.sm b o h e)
  len := E.len
  ent := fun i u h => by
    have q := E.ent i u h
    have w : ∀ b, Av { F with Y := Z } ρ b → Av F ρ b ∨ H b = none := fun b z => z.elim (fun z => .inl (.inl z)) fun z => z.elim (hz b) fun z => .inl (.inr (.inr z))
    cases u with
    | any => trivial
    | scr l => obtain ⟨a, o, e1, n, e2⟩ := q; exact ⟨a, o, e1, fun z => (w a z).elim n (fun z => absurd (e2.symm.trans z) (fun z => nomatch z)), s _ _ e2⟩
    | dat d => obtain ⟨v, e1, a⟩ := q; exact ⟨v, e1, a.move w fun b o _ e => s b o e⟩
    | own p b d => obtain ⟨e1, t, f⟩ := q; exact ⟨e1, t.move w (fun c o _ e => s c o e) (fun o e => s b o e), f⟩
  dj := E.dj
def base (F : Fr) (ρ : En) (H : Hp) : Fr := { Z := F.Z, Y := F.Y, P := Mo ρ, H0 := H }
theorem EnvAt.rebase (E : EnvAt F H σ ρ) : EnvAt (base F ρ H) H σ ρ where
  zd := E.zd
  yd := E.yd
  pd := fun b h => E.avd b (.inr (.inr h))
  sm := fun b o _ e => e
  len := E.len
  ent := fun i u h => by
    have q := E.ent i u h
    cases u with
    | any => trivial
    | scr l => exact q
    | dat d => exact q
    | own p b d => obtain ⟨e1, t, f⟩ := q; exact ⟨e1, t, .inl ⟨p, d, List.mem_of_getElem? h⟩, f.2⟩
  dj := E.dj
theorem EnvAt.moP (E : EnvAt F H σ ρ) {b : Addr} (h : Mo ρ b) : F.P b ∨ F.H0 b = none := by
  obtain ⟨p, d, h⟩ := h
  obtain ⟨i, hi, e⟩ := List.getElem_of_mem h
  exact (E.own (by rw [List.getElem?_eq_getElem hi, e])).2.2.1
theorem EnvAt.unbase (E : EnvAt F H σ ρ) (E' : EnvAt (base F ρ H) H' σ' ρ') : EnvAt F H' σ' ρ' where
  zd := E'.zd
  yd := E'.yd
  pd := fun b h n => by
    by_cases hm : Mo ρ b
    · exact E'.pd b hm n
    · cases q : H b with
      | none => exact E.pd b h q
      | some o => have := E'.sm b o hm q; rw [n] at this; cases this
  sm := fun b o h e => E'.sm b o (fun hm => (E.moP hm).elim h fun n => by rw [e] at n; cases n) (E.sm b o h e)
  len := E'.len
  ent := fun i u h => by
    have q := E'.ent i u h
    cases u with
    | any => trivial
    | scr l => exact q
    | dat d => exact q
    | own p b d => obtain ⟨e1, t, f⟩ := q; exact ⟨e1, t, f.1.elim E.moP fun n => .inr (E.fresh n), f.2⟩
  dj := E'.dj
end
/-! ### targets -/
inductive Tg where
  | one (j : Nat) | tup (js : List Nat)
def Tg.js : Tg → List Nat
  | .one j => [j]
  | .tup js => js
def gNs : List Nat → TGs
  | [] => gNil
  | j :: js => gCons (gName j) (gNs js)
def gOf (K : PySem.W.Frag) : Tg → TG
  | .one j => gName j
  | .tup js => gTup K js.length (gNs js)
def setEs : List Nat → List D → En → En
  | j :: js, d :: ds, ρ => setEs js ds (ρ.set j (.dat d))
  | _, _, ρ => ρ
def setE : Tg → D → En → En
  | .one j, d, ρ => ρ.set j (.dat d)
  | .tup js, .tup ds, ρ => setEs js ds ρ
  | .tup _, _, ρ => ρ
def fitsT : Tg → D → Prop
  | .one _, _ => True
  | .tup js, .tup ds => ds.length = js.length
  | .tup _, _ => False
theorem wipe_ix (σ : St) (vs : List Nat) (i : Nat) : (L2.wipe σ vs)[i]? = if i ∈ vs then (σ[i]?).map (fun _ => none) else σ[i]? := by
  induction vs with
  | nil => simp [L2.wipe]
  | cons v vs ih =>
    unfold L2.wipe
    by_cases h : v = i
    · subst h
      rw [if_pos List.mem_cons_self]
      by_cases hl : v < σ.length
      · rw [List.getElem?_set_self (by rw [wipe_length]; exact hl), List.getElem?_eq_getElem hl]; rfl
      · rw [List.getElem?_eq_none (by rw [List.length_set, wipe_length]; omega), List.getElem?_eq_none (by omega)]; rfl
    · rw [List.getElem?_set_ne h, ih]
      have e : (i ∈ v :: vs) ↔ i ∈ vs := ⟨fun z => (List.mem_cons.mp z).elim (fun z => absurd z.symm h) id, List.mem_cons_of_mem _⟩
      by_cases hi : i ∈ vs
      · rw [if_pos hi, if_pos (e.mpr hi)]
      · rw [if_neg hi, if_neg fun z => hi (e.mp z)]
theorem wipe_set {σ : St} {vs : List Nat} {j : Nat} {x : Option V} (hj : j ∈ vs) : L2.wipe (σ.set j x) vs = L2.wipe σ vs := by
  apply List.ext_getElem?
  intro i
  rw [wipe_ix, wipe_ix]
  by_cases h : j = i
  · subst h
    rw [if_pos hj, if_pos hj]
    by_cases hl : j < σ.length
    · rw [List.getElem?_set_self hl, List.getElem?_eq_getElem hl]; rfl
    · rw [List.getElem?_eq_none (by rw [List.length_set]; omega), List.getElem?_eq_none (by omega)]
  · rw [List.getElem?_set_ne h]
theorem wipe_wipe {σ : St} {vs : List Nat} : L2.wipe (L2.wipe σ vs) vs = L2.wipe σ vs := by
  apply List.ext_getElem?
  intro i
  rw [wipe_ix, wipe_ix]
  by_cases h : i ∈ vs
  · rw [if_pos h, if_pos h]; cases σ[i]? <;> rfl
  · rw [if_neg h, if_neg h]
section
variable {F : Fr} {H H' H1 : Hp} {σ σ' : St} {ρ ρ' : En} {d : D} {v : V} {K : PySem.W.Frag}
theorem gNs_ok {Q : St → Hp → Prop} : ∀ {js : List Nat} {ds : List D} {xs : List V} {σ : St} {ρ : En} {Z : Addr → Prop}, EnvAt F H σ ρ → (∀ b, Av F ρ b → Z b) → Ats Z H xs ds → ds.length = js.length →
    (∀ σ', EnvAt F H σ' (setEs js ds ρ) → (∀ vs, (∀ j ∈ js, j ∈ vs) → L2.wipe σ' vs = L2.wipe σ vs) → Q σ' H) → gNs js xs σ H Q
  | [], [], xs, σ, ρ, Z, E, hz, a, hl, q => by
    cases a
    exact ⟨rfl, q σ E fun _ _ => rfl⟩
  | j :: js, d :: ds, xs, σ, ρ, Z, E, hz, a, hl, q => by
    cases a with
    | cons a t =>
      refine ⟨_, _, rfl, ?_⟩
      refine gNs_ok (E.putDat j (a.weak hz)) (fun b z => hz b (z.imp id fun z => z.imp id (mo_set fun p d => by intro z; cases z))) t (by simpa using hl) fun σ' E' hw => q σ' E' fun vs hv => ?_
      rw [hw vs fun i hi => hv i (List.mem_cons_of_mem _ hi), wipe_set (hv j List.mem_cons_self)]
  | [], _ :: _, _, _, _, _, _, _, _, hl, _ => by simp at hl
  | _ :: _, [], _, _, _, _, _, _, _, hl, _ => by simp at hl
theorem gOf_ok {T : Tg} {Q : St → Hp → Prop} (E : EnvAt F H σ ρ) (a : At (Av F ρ) H v d) (hf : fitsT T d) (q : ∀ σ', EnvAt F H σ' (setE T d ρ) → (∀ vs, (∀ j ∈ T.js, j ∈ vs) → L2.wipe σ' vs = L2.wipe σ vs) → Q σ' H) : gOf K T v σ H Q := by
  cases T with
  | one j => exact q _ (E.putDat j a) fun vs hv => wipe_set (hv j List.mem_cons_self)
  | tup js =>
    cases d with
    | tup ds =>
      cases a with
      | tup n e t => exact ⟨_, _, rfl, SqT.of e, by rw [t.length]; exact hf, gNs_ok E (fun _ z => z) t hf q⟩
    | _ => exact hf.elim
end
abbrev TgOk (X : Cx) (tg : Expr) (T : Tg) : Prop := PG X tg (gOf X.K T)
section
variable {X : Cx} {pos : Pos}
theorem t_one {x : Str} (j : Nat) (hN : X.N.Nodup) (hi : X.N[j]? = some x := by rfl) (hx : Loc X.env.scope x := by first | exact Or.inl rfl | exact Or.inr rfl) (hf : X.fn x = true ∨ X.env.scope.names.lookup x = some .local := by first | exact .inl rfl | exact .inr rfl | assumption) : TgOk X (.Name x pos) (.one j) := pg_name hN hi hx hf
theorem t_two {x y : Str} {k : Nat} {p1 p2 : Pos} (i j : Nat) (hc : X.calm = true) (hN : X.N.Nodup) (hi : X.N[i]? = some x := by rfl) (hx : Loc X.env.scope x := by first | exact Or.inl rfl | exact Or.inr rfl) (hf : X.fn x = true ∨ X.env.scope.names.lookup x = some .local := by first | exact .inl rfl | exact .inr rfl | assumption)
    (hj : X.N[j]? = some y := by rfl) (hy : Loc X.env.scope y := by first | exact Or.inl rfl | exact Or.inr rfl) (hf2 : X.fn y = true ∨ X.env.scope.names.lookup y = some .local := by first | exact .inl rfl | exact .inr rfl | assumption) : TgOk X (.Tuple [.Name x p1, .Name y p2] k pos) (.tup [i, j]) :=
  pg_tup hc (pgs_cons (pg_name hN hi hx hf) (pgs_cons (pg_name hN hj hy hf2) pgs_nil))
end
/-! ### comprehensions -/
def wTs (X : Cx) (ifs : List Expr) : TT := fun σ H Q => ∀ (pins : List (Addr × Obj)) (s : Shared), Inv X pins σ H s →
  wpAny (model X.prog X.w) X.A (forIn ifs true fun c r => if r = true then do let ok ← isTrue c X.env (eval c X.env); pure (ForInStep.yield ok) else pure (ForInStep.yield r)) (TP X pins σ Q) X.xe s
theorem pts_w {X : Cx} {ifs : List Expr} : PTs X ifs (wTs X ifs) := ⟨fun pins s σ H Q I h => h pins s I⟩
structure EvTs (X : Cx) (ρ : En) (ifs : List Expr) (b : Bool) : Prop where
  mk ::
  go : ∀ (F : Fr) (σ : St) (H : Hp), EnvAt F H σ ρ → ∀ Q : Bool → Hp → Prop, (∀ H', Same H H' → Q b H') → wTs X ifs σ H Q
instance {X : Cx} {ρ : En} {ifs : List Expr} {b : Bool} : CoeFun (EvTs X ρ ifs b) fun _ => ∀ (F : Fr) (σ : St) (H : Hp), EnvAt F H σ ρ → ∀ Q : Bool → Hp → Prop, (∀ H', Same H H' → Q b H') → wTs X ifs σ H Q := ⟨EvTs.go⟩
theorem ts_nil {X : Cx} {ρ : En} : EvTs X ρ [] true := .mk fun F σ H E Q q pins s I => pts_nil.run pins s σ H Q I (q H (Same.refl H))
theorem ts_one {X : Cx} {ρ : En} {c : Expr} {b : Bool} (h : EvB X ρ c b) : EvTs X ρ [c] b := .mk fun F σ H E Q q pins s I => (pts_one pt_w).run pins s σ H Q I (h F σ H E Q q)
/-- in every block of a comprehension -/
abbrev blk (X : Cx) (scope : Scope) (s : Shared) (H : Hp) (C : Addr) (cl : List (Str × Addr)) (fp : List Addr) : Cx := X.blk s H scope (compEnvC scope cl C X.env) fp
def bT (X : Cx) (scope : Scope) (e : Expr) : TE := fun σ H Q => ∀ s H0 C cl fp, wT (blk X scope s H0 C cl fp) e σ H Q
def bTs (X : Cx) (scope : Scope) (e : List Expr) : TT := fun σ H Q => ∀ s H0 C cl fp, wTs (blk X scope s H0 C cl fp) e σ H Q
def Bv (k : Kd) (X : Cx) (scope : Scope) (ρ : En) (e : Expr) (d : D) : Prop := ∀ s H0 C cl fp, Ev k (blk X scope s H0 C cl fp) ρ e d
def BvTs (X : Cx) (scope : Scope) (ρ : En) (e : List Expr) (b : Bool) : Prop := ∀ s H0 C cl fp, EvTs (blk X scope s H0 C cl fp) ρ e b
section
variable {X : Cx} {ρ : En} {elt tg it : Expr} {ifs : List Expr} {scope : Scope} {own : List (Str × Nat)} {k : Kd} {α : Type} {l : List α} {f : α → D} {T : Tg} {p : α → Bool} {g : α → D} {pos : Pos}
theorem Bv.go {d : D} (h : Bv k X scope ρ elt d) {F : Fr} {σ : St} {H : Hp} (E : EnvAt F H σ ρ) {Q : VK} (q : ∀ v H', Same H H' → Res k (Av F ρ) H H' v d → Q v H') : bT X scope elt σ H Q := fun s H0 C cl fp => h s H0 C cl fp F σ H E Q q
theorem BvTs.go {b : Bool} (h : BvTs X scope ρ ifs b) {F : Fr} {σ : St} {H : Hp} (E : EnvAt F H σ ρ) {Q : Bool → Hp → Prop} (q : ∀ H', Same H H' → Q b H') : bTs X scope ifs σ H Q := fun s H0 C cl fp => h s H0 C cl fp F σ H E Q q
theorem lc_go {F : Fr} {σ : St} {H : Hp} {Q : VK} (E : EnvAt F H σ ρ) (hi : ∀ R : It → Hp → Prop, (∀ J H1, Same H H1 → Wk0 (fun b => Av F ρ b ∨ H1 b = none) J (l.map f) H1 → R J H1) → wI X tg it σ H R) (hf : ∀ a ∈ l, fitsT T (f a)) (hown : ∀ j ∈ T.js, j ∈ own.map (·.2))
    (ht : ∀ a ∈ l, BvTs X scope (setE T (f a) (wipeE ρ (own.map (·.2)))) ifs (p a)) (he : ∀ a ∈ l, p a = true → Bv k X scope (setE T (f a) (wipeE ρ (own.map (·.2)))) elt (g a)) (hk : k ≠ .rd)
    (q : ∀ v H', Same H H' → Res .fr (Av F ρ) H H' v (.lst ((l.filter p).map g)) → Q v H') : tLc (wI X tg it) (gOf X.K T) (bTs X scope ifs) (bT X scope elt) (own.map (·.2)) σ H Q := by
  refine hi _ fun J H1 s1 wk => ?_
  intro Dd hD
  obtain ⟨sz, G, g1, gk, wkk⟩ := wk
  have E1 := E.same s1
  have bs : ∀ {H' : Hp}, Same H1 H' → Ob H' Dd → EnvAt { F with Y := fun b => Av F ρ b ∨ b = Dd } H' (L2.wipe σ (own.map (·.2))) (wipeE ρ (own.map (·.2))) := fun {H'} s hd =>
    (E1.forbid (Z := fun b => Av F ρ b ∨ b = Dd) (fun b z => z.elim .inl fun z => .inr (by rw [z]; exact hD)) s fun b z => z.elim (fun z => (E1.avo b z).same s) fun z => by rw [z]; exact hd).wipe _
  have len_le : ∀ i, (((l.take i).filter p).map g).length ≤ i := fun i => by
    rw [List.length_map]
    exact Nat.le_trans (List.length_filter_le _ _) (by rw [List.length_take]; exact Nat.min_le_left _ _)
  refine lc_it wkk (fun i H' => Same H1 H' ∧ ∃ acc, H' Dd = some (.lst acc) ∧ Ats (fun b => Av F ρ b ∨ b = Dd) H' acc (((l.take i).filter p).map g)) ⟨Same.new hD, [], upd_same, .nil⟩ (fun i H' _ pv => gk H1 H' g1 pv.1) ?_ ?_
  · rintro i x Ha Hb hi ⟨sa, acc, ea, ta⟩ ⟨sb, y⟩
    have hil : i < l.length := by rw [List.length_map] at hi; exact hi
    have hdA : ∀ b, (Av F ρ b ∨ b = Dd) → Ob Ha b := fun b z => z.elim (fun z => (E1.avo b z).same sa) fun z => by rw [z]; exact .lst ea
    obtain ⟨d, e1, a1⟩ := y (fun b => Av F ρ b ∨ b = Dd) (fun b z => z.elim .inl fun z => .inr (by rw [z]; exact hD)) hdA
    rw [List.getElem?_map, List.getElem?_eq_getElem hil] at e1
    have ed : f l[i] = d := Option.some.inj e1
    have hmem : l[i] ∈ l := List.getElem_mem hil
    have htk : l.take (i + 1) = l.take i ++ [l[i]] := by rw [List.take_succ, List.getElem?_eq_getElem hil]; rfl
    rw [← ed] at a1
    have eb := sb Dd _ ea
    have Eb := bs (sa.trans sb) (.lst eb)
    refine gOf_ok Eb (a1.weak fun b z => z.elim (fun z => .inl (.inl z)) fun z => z.elim id fun z => .inl (.inr (.inr (mo_wipe z)))) (hf _ hmem) fun σ2 E2 hw => ⟨(hw _ hown).trans wipe_wipe, ?_⟩
    refine BvTs.go (ht _ hmem) E2 fun H3 s3 => ?_
    have e3 := s3 Dd _ eb
    cases hp : p l[i] with
    | true =>
      rw [if_pos rfl]
      refine Bv.go (he _ hmem hp) (E2.same s3) fun v H4 s4 r4 => ?_
      have e4 := s4 Dd _ e3
      have av := (r4.stOf hk (E2.same s3).avd).weak (Z' := fun b => Av F ρ b ∨ b = Dd) fun b z => .inr (.inl z)
      have s14 := ((sa.trans sb).trans s3).trans s4
      refine ⟨acc, e4, ?_, ?_, acc ++ [v], upd_same, ?_⟩
      · have := len_le i
        rw [← ta.length] at this
        rw [List.length_map] at sz
        omega
      · intro b o e
        rw [upd_ne (ne_of_none e hD)]
        exact s14 b o e
      · rw [htk, List.filter_append, List.map_append, List.filter_cons, if_pos hp, List.filter_nil, List.map_cons, List.map_nil]
        have kp : ∀ b o, ¬ (Av F ρ b ∨ b = Dd) → H4 b = some o → upd H4 Dd (.lst (acc ++ [v])) b = some o := fun b o n e => by rw [upd_ne fun z => n (.inr z)]; exact e
        exact ((ta.same ((sb.trans s3).trans s4)).move (fun _ z => .inl z) kp).append (.cons (av.move (fun _ z => .inl z) kp) .nil)
    | false =>
      rw [if_neg Bool.false_ne_true]
      refine ⟨(sa.trans sb).trans s3, acc, e3, ?_⟩
      rw [htk, List.filter_append, List.map_append, List.filter_cons, if_neg (by rw [hp]; exact Bool.false_ne_true), List.filter_nil, List.map_nil, List.append_nil]
      exact ta.same (sb.trans s3)
  · rintro H' ⟨s, acc, e, t⟩
    rw [List.length_map, List.take_length] at t
    exact q _ H' (s1.trans s) ⟨Dd, rfl, s1.free hD, acc, e, t⟩
theorem e_lc (T : Tg) (hc : X.calm = true) (hN : X.N.Nodup) (hi : EvI X ρ tg it (l.map f)) (ok : BlkOk X.N X.env.scope scope own) (hT : ∀ s H C cl fp, TgOk (blk X scope s H C cl fp) tg T) (hf : ∀ a ∈ l, fitsT T (f a)) (hown : ∀ j ∈ T.js, j ∈ own.map (·.2))
    (ht : ∀ a ∈ l, BvTs X scope (setE T (f a) (wipeE ρ (own.map (·.2)))) ifs (p a)) (he : ∀ a ∈ l, p a = true → Bv k X scope (setE T (f a) (wipeE ρ (own.map (·.2)))) elt (g a)) (hk : k ≠ .rd := by exact fun z => nomatch z)
    (hs : ∀ x, foldedSetIterable it X.env x = pure x := by intro _; rfl) : Ev .fr X ρ (.ListComp elt [⟨tg, it, ifs, 0⟩] scope pos) (.lst ((l.filter p).map g)) := .mk fun F σ H E Q q =>
  wT.of (pe_lc hc hN pi_w ok (fun s H C cl fp => hT s H C cl fp) (fun s H C cl fp => ⟨fun pins s' σ' H' Q' I h => h s H C cl fp pins s' I⟩) (fun s H C cl fp => ⟨fun pins s' σ' H' Q' I h => h s H C cl fp pins s' I⟩) hs)
    (lc_go E (fun R r => hi F σ H E R fun J H1 s wk => r J H1 s wk.zero) hf hown ht he hk q)
end
end TR
/-! ## C5 -/
set_option Elab.async false
set_option linter.all false
set_option maxRecDepth 100000
namespace TR
open PySem L2
def wS (X : Cx) (st : Stmt) : TS := fun D σ H => ∀ (pins : List (Addr × Obj)) (s : Shared), Inv X pins σ H s → wpAny (model X.prog X.w) X.A (exec st X.env) (SP X pins D) X.xe s
/-- what follows: next (N), return (R) -/
abbrev NK := En → Prop
abbrev RK := D → En → Prop
def Ends (F : Fr) (N : NK) (R : RK) (Dd : L2.Ends) : Prop := (∀ σ' H' ρ', EnvAt F H' σ' ρ' → N ρ' → Dd.nx σ' H') ∧ (∀ v H' σ' ρ' d, EnvAt F H' σ' ρ' → At (Av F ρ') H' v d → R d ρ' → Dd.rt v H')
structure ExS (X : Cx) (ρ : En) (st : Stmt) (N : NK) (R : RK) : Prop where
  mk ::
  go : ∀ (F : Fr) (σ : St) (H : Hp), (∀ b, ¬ F.Y b) → EnvAt F H σ ρ → ∀ Dd : L2.Ends, Ends F N R Dd → wS X st Dd σ H
instance {X : Cx} {ρ : En} {st : Stmt} {N : NK} {R : RK} : CoeFun (ExS X ρ st N R) fun _ => ∀ (F : Fr) (σ : St) (H : Hp), (∀ b, ¬ F.Y b) → EnvAt F H σ ρ → ∀ Dd : L2.Ends, Ends F N R Dd → wS X st Dd σ H := ⟨ExS.go⟩
structure Ex (X : Cx) (ρ : En) (ss : List Stmt) (N : NK) (R : RK) : Prop where
  mk ::
  go : ∀ (F : Fr) (σ : St) (H : Hp), (∀ b, ¬ F.Y b) → EnvAt F H σ ρ → ∀ Dd : L2.Ends, Ends F N R Dd → wSs X ss Dd σ H
instance {X : Cx} {ρ : En} {ss : List Stmt} {N : NK} {R : RK} : CoeFun (Ex X ρ ss N R) fun _ => ∀ (F : Fr) (σ : St) (H : Hp), (∀ b, ¬ F.Y b) → EnvAt F H σ ρ → ∀ Dd : L2.Ends, Ends F N R Dd → wSs X ss Dd σ H := ⟨Ex.go⟩
section
variable {X : Cx} {ρ : En} {e a b c tg it : Expr} {st : Stmt} {es : List Expr} {rest body aa bb : List Stmt} {N : NK} {R : RK} {k k1 k2 : Kd} {pos pos' : Pos} {d d1 d2 : D} {p : Bool}
theorem ps_w : PS X st (wS X st) := ⟨fun pins s σ H D I h => h pins s I⟩
theorem wS.of {σ : St} {H : Hp} {t : TS} {D : L2.Ends} (h : PS X st t) (q : t D σ H) : wS X st D σ H := fun pins s I => h.run pins s σ H D I q
theorem x_nil (h : N ρ) : Ex X ρ [] N R := .mk fun F σ H hy E D q => wSs.of pss_nil (q.1 σ H ρ E h)
theorem x_cons (h : ExS X ρ st (fun ρ' => Ex X ρ' rest N R) R) : Ex X ρ (st :: rest) N R := .mk fun F σ H hy E D q =>
  wSs.of (pss_cons ps_w pss_w) (h F σ H hy E { D with nx := wSs X rest D } ⟨fun σ' H' ρ' E' h' => h' F σ' H' hy E' D q, q.2⟩)
theorem x_one (h : ExS X ρ st N R) : Ex X ρ [st] N R := .mk fun F σ H hy E D q => wSs.of (pss_one ps_w) (h F σ H hy E D q)
/-- what is known is changed ahead of a block -/
theorem Ex.weak {ρ2 : En} (w : ∀ (F : Fr) (σ : St) (H : Hp), (∀ b, ¬ F.Y b) → EnvAt F H σ ρ → EnvAt F H σ ρ2) (h : Ex X ρ2 rest N R) : Ex X ρ rest N R := .mk fun F σ H hy E D q => h F σ H hy (w F σ H hy E) D q
/-- an own object is changed no more -/
theorem frozen {i : Nat} {c : Addr} {F : Fr} {σ : St} {H : Hp} (hy : ∀ b, ¬ F.Y b) (E : EnvAt F H σ ρ) (h : ρ[i]? = some (.own false c d)) : EnvAt F H σ (ρ.set i (.dat d)) := by
  obtain ⟨e1, t, _, nz⟩ := E.own h
  have hm : ∀ b, Mo (ρ.set i (.dat d)) b → Mo ρ b := fun b => mo_set fun p d => by intro z; cases z
  have hn : ¬ Av F (ρ.set i (.dat d)) c := fun z => z.elim (nz rfl) fun z => z.elim (hy c) fun ⟨p, d', z⟩ => by
    obtain ⟨j, hj, ej⟩ := List.getElem_of_mem z
    have ej' : (ρ.set i (.dat d))[j]? = some (.own p c d') := by rw [List.getElem?_eq_getElem hj, ej]
    by_cases hij : i = j
    · subst hij
      rw [List.getElem?_set_self (List.getElem?_eq_some_iff.mp h).1] at ej'
      cases ej'
    · rw [List.getElem?_set_ne hij] at ej'
      exact hij (E.dj i j false p c d d' h ej')
  have hw : ∀ b, Av F (ρ.set i (.dat d)) b → Av F ρ b := fun b z => z.imp id fun z => z.imp id (hm b)
  have q := E.put (j := i) (x := some (.ref c)) (e := .dat d) ⟨_, rfl, (t.move (fun b z => .inl (hw b z)) (fun _ _ _ e => e) fun _ e => e).at hn⟩ hm fun _ _ _ _ _ _ z => by cases z
  have es : σ.set i (some (.ref c)) = σ := by
    apply List.ext_getElem?
    intro j
    by_cases hij : i = j
    · subst hij
      rw [List.getElem?_set_self (List.getElem?_eq_some_iff.mp e1).1, e1]
    · rw [List.getElem?_set_ne hij]
  rwa [es] at q
theorem x_freeze (i : Nat) {c : Addr} (h : ρ[i]? = some (.own false c d)) (q : Ex X (ρ.set i (.dat d)) rest N R) : Ex X ρ rest N R := q.weak fun F σ H hy E => frozen hy E h
/-- what a slot holds is forgotten -/
theorem x_forget (i : Nat) (q : Ex X (ρ.set i .any) rest N R) : Ex X ρ rest N R := q.weak fun F σ H hy E => by
  have h := E.putAny i ((σ[i]?).getD none)
  have es : σ.set i ((σ[i]?).getD none) = σ := by
    apply List.ext_getElem?
    intro j
    by_cases hij : i = j
    · subst hij
      by_cases hl : i < σ.length
      · rw [List.getElem?_set_self hl, List.getElem?_eq_getElem hl]; rfl
      · rw [List.getElem?_eq_none (by rw [List.length_set]; omega), List.getElem?_eq_none (by omega)]
    · rw [List.getElem?_set_ne hij]
  rwa [es] at h
theorem s_asg {x : Str} (i : Nat) (hN : X.N.Nodup) (h : Ev k X ρ e d) (q : N (ρ.set i (.dat d))) (hk : k ≠ .rd := by exact fun z => nomatch z) (hi : X.N[i]? = some x := by rfl) (hx : Loc X.env.scope x := by first | exact Or.inl rfl | exact Or.inr rfl)
    (hs : swapsWith e (some (.Name x pos')) pos.line X.env = pure false := by rfl) (hf : X.fn x = true ∨ X.env.scope.names.lookup x = some .local := by first | exact .inl rfl | exact .inr rfl | assumption) : ExS X ρ (.Assign [.Name x pos'] e pos) N R := .mk fun F σ H hy E D w =>
  wS.of (ps_set hN hi hx pe_w hs hf) (h F σ H E _ fun v H1 s1 r1 => w.1 _ _ _ ((E.same s1).putDat i (r1.stOf hk E.avd)) q)
/-- a new object, to be changed -/
theorem EnvAt.putNewC {F : Fr} {σ : St} {H H1 : Hp} (E : EnvAt F H σ ρ) (s1 : Same H H1) {c : Addr} (n : H c = none) (t : Top (fun b => Av F ρ b ∨ b = c) H1 c d) (i : Nat) : EnvAt F H1 (σ.set i (some (.ref c))) (ρ.set i (.own false c d)) := by
  have nm : ¬ Av F ρ c := fun z => E.avd c z n
  have E1 : EnvAt { F with Y := fun b => F.Y b ∨ b = c } H1 σ ρ := E.forbid (fun b z => z.elim (fun z => .inl (.inr (.inl z))) fun z => .inr (by rw [z]; exact n)) s1 fun b z => z.elim (fun z => (E.yd b z).same s1) fun z => by rw [z]; exact t.ob
  have hav : ∀ b, Av F (ρ.set i (.own false c d)) b → Av F ρ b ∨ b = c := fun b z => z.elim (fun z => .inl (.inl z)) fun z => z.elim (fun z => .inl (.inr (.inl z))) fun ⟨p, d', z⟩ => by
    rcases List.mem_or_eq_of_mem_set z with z | z
    · exact .inl (.inr (.inr ⟨p, d', z⟩))
    · cases z; exact .inr rfl
  have hav2 : ∀ b, Av F (ρ.set i (.own false c d)) b → Av { F with Y := fun b => F.Y b ∨ b = c } ρ b := fun b z => (hav b z).elim (fun z => z.imp id fun z => z.imp .inl id) fun z => .inr (.inl (.inr z))
  have old : ∀ {j : Nat} {u : Ent}, j ≠ i → (ρ.set i (.own false c d))[j]? = some u → ρ[j]? = some u := fun {j u} hj h => by rwa [List.getElem?_set_ne (Ne.symm hj)] at h
  have nown : ∀ {j : Nat} {p : Bool} {d' : D}, ρ[j]? = some (.own p c d') → False := fun {j p d'} h => nm (.inr (.inr ⟨p, d', List.mem_of_getElem? h⟩))
  refine ⟨(E.same s1).zd, (E.same s1).yd, (E.same s1).pd, (E.same s1).sm, by rw [List.length_set, List.length_set, E.len], fun j u h => ?_, fun j l p q b d1 d2 h1 h2 => ?_⟩
  · by_cases hj : j = i
    · subst hj
      have hl : j < ρ.length := by
        have := (List.getElem?_eq_some_iff.mp h).1
        rwa [List.length_set] at this
      rw [List.getElem?_set_self hl] at h
      cases h
      rw [List.getElem?_set_self (by rw [E.len]; exact hl)]
      exact ⟨rfl, t.move (fun b z => .inl (hav b z)) (fun _ _ _ e => e) fun _ e => e, .inr (E.fresh n), fun _ z => (E.zd c z).ne n⟩
    · have h := old hj h
      rw [List.getElem?_set_ne (Ne.symm hj)]
      have q := E1.ent j u h
      cases u with
      | any => trivial
      | scr l => obtain ⟨a, o, e1, n, e2⟩ := q; exact ⟨a, o, e1, fun z => n (hav2 a z), e2⟩
      | dat d' => obtain ⟨v, e1, a⟩ := q; exact ⟨v, e1, a.weak hav2⟩
      | own p b d' => obtain ⟨e1, t', f⟩ := q; exact ⟨e1, t'.move (fun c z => .inl (hav2 c z)) (fun _ _ _ e => e) (fun _ e => e), f⟩
  · by_cases hj : j = i
    · by_cases hl : l = i
      · rw [hj, hl]
      · subst hj
        have hlt : j < ρ.length := by
          have := (List.getElem?_eq_some_iff.mp h1).1
          rwa [List.length_set] at this
        rw [List.getElem?_set_self hlt] at h1
        cases h1
        exact (nown (old hl h2)).elim
    · by_cases hl : l = i
      · subst hl
        have hlt : l < ρ.length := by
          have := (List.getElem?_eq_some_iff.mp h2).1
          rwa [List.length_set] at this
        rw [List.getElem?_set_self hlt] at h2
        cases h2
        exact (nown (old hj h1)).elim
      · exact E.dj j l p q b d1 d2 (old hj h1) (old hl h2)
theorem EnvAt.putNew {F : Fr} {σ : St} {H H1 : Hp} (E : EnvAt F H σ ρ) (s1 : Same H H1) {v : V} (r : Res .fr (Av F ρ) H H1 v d) (i : Nat) : ∃ c, EnvAt F H1 (σ.set i (some v)) (ρ.set i (.own false c d)) := by
  obtain ⟨c, rfl, n, t⟩ := r
  exact ⟨c, E.putNewC s1 n t i⟩
theorem s_own {x : Str} (i : Nat) (hN : X.N.Nodup) (h : Ev .fr X ρ e d) (q : ∀ c, N (ρ.set i (.own false c d))) (hi : X.N[i]? = some x := by rfl) (hx : Loc X.env.scope x := by first | exact Or.inl rfl | exact Or.inr rfl)
    (hs : swapsWith e (some (.Name x pos')) pos.line X.env = pure false := by rfl) (hf : X.fn x = true ∨ X.env.scope.names.lookup x = some .local := by first | exact .inl rfl | exact .inr rfl | assumption) : ExS X ρ (.Assign [.Name x pos'] e pos) N R := .mk fun F σ H hy E D w =>
  wS.of (ps_set hN hi hx pe_w hs hf) (h F σ H E _ fun v H1 s1 r1 => by
    obtain ⟨c, E1⟩ := E.putNew s1 r1 i
    exact w.1 _ _ _ E1 (q c))
theorem s_ret (h : Ev k X ρ e d) (q : R d ρ) (hk : k ≠ .rd := by exact fun z => nomatch z) : ExS X ρ (.Return (some e) pos) N R := .mk fun F σ H hy E D w =>
  wS.of (ps_ret pe_w) (h F σ H E _ fun v H1 s1 r1 => w.2 v H1 σ ρ d (E.same s1) (r1.stOf hk E.avd) q)
theorem s_if (hc : EvB X ρ c p) (ha : p = true → Ex X ρ aa N R) (hb : p = false → Ex X ρ bb N R) : ExS X ρ (.If c aa bb pos) N R := .mk fun F σ H hy E D w =>
  wS.of (ps_if pt_w pss_w pss_w) (hc F σ H E _ fun H1 s1 => by
    cases p with
    | true => exact ha rfl F σ H1 hy (E.same s1) D w
    | false => exact hb rfl F σ H1 hy (E.same s1) D w)
theorem s_never (h : False) : ExS X ρ st N R := h.elim
theorem x_imp {N' : NK} {R' : RK} (h : Ex X ρ rest N R) (hn : ∀ ρ', N ρ' → N' ρ') (hr : ∀ d ρ', R d ρ' → R' d ρ') : Ex X ρ rest N' R' := .mk fun F σ H hy E D w =>
  h F σ H hy E D ⟨fun σ' H' ρ' E' n => w.1 σ' H' ρ' E' (hn ρ' n), fun v H' σ' ρ' d E' a r => w.2 v H' σ' ρ' d E' a (hr d ρ' r)⟩
/-- a statement whose value is dropped -/
theorem s_expr (h : Ev k X ρ e d) (q : N ρ) (hs : swapsWith e none pos.line X.env = pure false := by rfl) : ExS X ρ (.Expr e pos) N R := .mk fun F σ H hy E D w =>
  wS.of (ps_expr pe_w hs) (h F σ H E _ fun v H1 s1 r1 => w.1 _ _ _ (E.same s1) q)
/-! lists that grow -/
theorem EnvAt.change {F : Fr} {σ : St} {H H2 : Hp} {i : Nat} {c : Addr} {pp : Bool} (E : EnvAt F H σ ρ) (h : ρ[i]? = some (.own pp c d)) (hk : ∀ b o, b ≠ c → H b = some o → H2 b = some o) (t : Top (Av F ρ) H2 c d2) : EnvAt F H2 σ (ρ.set i (.own pp c d2)) := by
  have hmem : Mo ρ c := ⟨pp, d, List.mem_of_getElem? h⟩
  have hlt := (List.getElem?_eq_some_iff.mp h).1
  have hmo : ∀ b, Mo (ρ.set i (.own pp c d2)) b ↔ Mo ρ b := fun b => by
    constructor
    · rintro ⟨p, d', z⟩
      rcases List.mem_or_eq_of_mem_set z with z | z
      · exact ⟨p, d', z⟩
      · cases z; exact hmem
    · rintro ⟨p, d', z⟩
      obtain ⟨j, hj, ej⟩ := List.getElem_of_mem z
      by_cases hij : i = j
      · subst hij
        rw [List.getElem?_eq_getElem hj, ej] at h
        cases h
        exact ⟨pp, d2, List.mem_of_getElem? (i := i) (by rw [List.getElem?_set_self hlt])⟩
      · exact ⟨p, d', List.mem_of_getElem? (i := j) (by rw [List.getElem?_set_ne hij, List.getElem?_eq_getElem hj, ej])⟩
  have hav : ∀ b, Av F (ρ.set i (.own pp c d2)) b → Av F ρ b := fun b z => z.imp id fun z => z.imp id (hmo b).1
  have nd : ∀ b, H b ≠ none → H2 b ≠ none := fun b hb n => by
    by_cases e : b = c
    · exact t.dom (by rw [← e]; exact n)
    · cases q : H b with
      | none => exact hb q
      | some o => rw [hk b o e q] at n; cases n
  have no : ∀ b, Ob H b → Ob H2 b := fun b ⟨o, e1, n⟩ => by
    by_cases e : b = c
    · rw [e]; exact t.ob
    · exact ⟨o, hk b o e e1, n⟩
  have kp : ∀ b o, ¬ Av F ρ b → H b = some o → H2 b = some o := fun b o n e => hk b o (fun z => n (by rw [z]; exact .inr (.inr hmem))) e
  refine ⟨fun b h => no b (E.zd b h), fun b h => no b (E.yd b h), fun b h => nd b (E.pd b h), fun b o hp h0 => ?_, by rw [List.length_set, E.len], fun j u hj => ?_, fun j l p q b d1 d3 h1 h2 => ?_⟩
  · refine hk b o (fun z => ?_) (E.sm b o hp h0)
    rcases (E.own h).2.2.1 with f | f
    · exact hp (by rw [z]; exact f)
    · rw [← z, h0] at f; cases f
  · by_cases hij : i = j
    · subst hij
      rw [List.getElem?_set_self hlt] at hj
      cases hj
      obtain ⟨e1, _, f⟩ := E.own h
      refine ⟨by rw [e1]; rfl, t.move (fun b z => .inl (hav b z)) (fun _ _ _ e => e) fun _ e => e, f⟩
    · rw [List.getElem?_set_ne hij] at hj
      have q := E.ent j u hj
      cases u with
      | any => trivial
      | scr l => obtain ⟨a, o, e1, n, e2⟩ := q; exact ⟨a, o, e1, fun z => n (hav a z), kp _ _ n e2⟩
      | dat d' => obtain ⟨v, e1, a⟩ := q; exact ⟨v, e1, a.move (fun b z => .inl (hav b z)) kp⟩
      | own p b d' =>
        obtain ⟨e1, t', f⟩ := q
        have hbc : b ≠ c := fun z => hij (E.dj i j pp p c d d' h (by rw [← z]; exact hj))
        exact ⟨e1, t'.move (fun c z => .inl (hav c z)) kp (fun o e => hk b o hbc e), f⟩
  · have old : ∀ {j : Nat} {p : Bool} {b : Addr} {d1 : D}, (ρ.set i (.own pp c d2))[j]? = some (.own p b d1) → ∃ d', ρ[j]? = some (.own p b d') := fun {j p b d1} hj => by
      by_cases hij : i = j
      · subst hij
        rw [List.getElem?_set_self hlt] at hj
        cases hj
        exact ⟨d, h⟩
      · rw [List.getElem?_set_ne hij] at hj
        exact ⟨_, hj⟩
    obtain ⟨f1, g1⟩ := old h1
    obtain ⟨f2, g2⟩ := old h2
    exact E.dj j l p q b f1 f2 g1 g2
theorem Top.lstIn {F : Fr} {H : Hp} {c : Addr} {l : List D} {xs : List V} {vs : List V} {ds : List D} (hm : Av F ρ c) (e : H c = some (.lst xs)) (t : Ats (Av F ρ) H xs l) (t2 : Ats (Av F ρ) H vs ds) : Top (Av F ρ) (upd H c (.lst (xs ++ vs))) c (.lst (l ++ ds)) :=
  ⟨_, upd_same, (t.append t2).move (fun _ z => .inl z) fun b o n e => by rw [upd_ne fun z => n (by rw [z]; exact hm)]; exact e⟩
theorem s_append {x : Str} {apos p' : Pos} {c : Addr} {pp : Bool} {l : List D} (i : Nat) (hρ : ρ[i]? = some (.own pp c (.lst l))) (h : Ev k X ρ e d) (q : N (ρ.set i (.own pp c (.lst (l ++ [d]))))) (hsz : l.length < sizeLine) (hk : k ≠ .rd := by exact fun z => nomatch z)
    (hN : X.N[i]? = some x := by rfl) (hv : Vis X.env.scope x := by first | exact Or.inl rfl | exact Or.inr (Or.inl rfl) | exact Or.inr (Or.inr rfl)) (hd : (x == ("__debug__" : Str)) = false := by decide) (hcd : (x == ("__classdict__" : Str)) = false := by decide)
    (hb : attributeBase (.Name x p') "append" X.env (eval (.Name x p') X.env) = eval (.Name x p') X.env := by rfl) (hl : (apos.endLine == pos'.line) = true := by rfl)
    (hfew : ((backTo pos' (starEach [e] X.env)).all (fun x => !x.1) && (backToKw pos' (keywordEach [] X.env)).all (fun x => x.1.isSome) && decide ([e].length + ([] : List Keyword).length + (if ([] : List Keyword).isEmpty then 0 else 1) < 30)) = true := by rfl)
    (hs1 : starEach [e] X.env = (false, eval e X.env) :: starEach [] X.env := by rfl) (hs : swapsWith (.Call (.Attribute (.Name x p') "append" apos) [e] [] pos') none pos.line X.env = pure false := by rfl) :
    ExS X ρ (.Expr (.Call (.Attribute (.Name x p') "append" apos) [e] [] pos') pos) N R := .mk fun F σ H hy E D w => by
  refine wS.of (ps_expr (pe_bm PySem.F.plainAttrs_list PySem.F.slot_list_append PySem.F.type_list_append mt_append (pe_var hN hv hd hcd) pa_w hb hfew hl hs1) hs) ?_
  obtain ⟨e1, ⟨xs, ex, t⟩, _⟩ := E.own hρ
  refine ⟨_, e1, .inl ⟨rfl, xs, SqL.of ex⟩, a_cons (s := true) h a_nil (fun _ => hk) hs1 F σ H E _ fun vs H1 s1 r1 => ?_⟩
  cases r1 with
  | cons r rr =>
    cases rr
    rename_i v
    have r : At (Av F ρ) H1 v d := r
    have t1 := t.same s1
    have ex1 := s1 _ _ ex
    refine ⟨c, xs, v, rfl, rfl, ex1, by rw [t.length]; exact hsz, w.1 σ _ _ ((E.same s1).change hρ (fun b o n e => by rw [upd_ne n]; exact e) ?_) q⟩
    exact Top.lstIn (.inr (.inr ⟨pp, _, List.mem_of_getElem? hρ⟩)) ex1 t1 (.cons r .nil)
theorem s_extend {x : Str} {apos p' : Pos} {c : Addr} {pp : Bool} {l l2 : List D} (i : Nat) (hρ : ρ[i]? = some (.own pp c (.lst l))) (h : Ev k X ρ e (.lst l2)) (q : N (ρ.set i (.own pp c (.lst (l ++ l2))))) (hsz : l.length + l2.length ≤ sizeLine) (hk : k ≠ .rd := by exact fun z => nomatch z)
    (hN : X.N[i]? = some x := by rfl) (hv : Vis X.env.scope x := by first | exact Or.inl rfl | exact Or.inr (Or.inl rfl) | exact Or.inr (Or.inr rfl)) (hd : (x == ("__debug__" : Str)) = false := by decide) (hcd : (x == ("__classdict__" : Str)) = false := by decide)
    (hb : attributeBase (.Name x p') "extend" X.env (eval (.Name x p') X.env) = eval (.Name x p') X.env := by rfl) (hl : (apos.endLine == pos'.line) = true := by rfl)
    (hfew : ((backTo pos' (starEach [e] X.env)).all (fun x => !x.1) && (backToKw pos' (keywordEach [] X.env)).all (fun x => x.1.isSome) && decide ([e].length + ([] : List Keyword).length + (if ([] : List Keyword).isEmpty then 0 else 1) < 30)) = true := by rfl)
    (hs1 : starEach [e] X.env = (false, eval e X.env) :: starEach [] X.env := by rfl) (hs : swapsWith (.Call (.Attribute (.Name x p') "extend" apos) [e] [] pos') none pos.line X.env = pure false := by rfl) :
    ExS X ρ (.Expr (.Call (.Attribute (.Name x p') "extend" apos) [e] [] pos') pos) N R := .mk fun F σ H hy E D w => by
  refine wS.of (ps_expr (pe_bm PySem.F.plainAttrs_list PySem.F.slot_list_extend PySem.F.type_list_extend mt_extend (pe_var hN hv hd hcd) pa_w hb hfew hl hs1) hs) ?_
  obtain ⟨e1, ⟨xs, ex, t⟩, _⟩ := E.own hρ
  refine ⟨_, e1, .inl ⟨rfl, xs, SqL.of ex⟩, a_cons (s := true) h a_nil (fun _ => hk) hs1 F σ H E _ fun vs H1 s1 r1 => ?_⟩
  cases r1 with
  | cons r rr =>
    cases rr
    rename_i v
    have r : At (Av F ρ) H1 v (.lst l2) := r
    have t1 := t.same s1
    have ex1 := s1 _ _ ex
    cases r with
    | lst n2 ey ty =>
      rename_i c2 ys
      refine ⟨c, c2, xs, ys, rfl, rfl, ex1, ey, by rw [t.length, ty.length]; exact hsz, w.1 σ _ _ ((E.same s1).change hρ (fun b o n e => by rw [upd_ne n]; exact e) ?_) q⟩
      exact Top.lstIn (.inr (.inr ⟨pp, _, List.mem_of_getElem? hρ⟩)) ex1 t1 ty
/-! loops -/
theorem s_for {α : Type} {l : List α} {f : α → D} (T : Tg) (W : List α → En → Prop) (hc : X.calm = true) (hi : EvI X ρ tg it (l.map f)) (hT : TgOk X tg T) (hf : ∀ a ∈ l, fitsT T (f a)) (h0 : W [] ρ)
    (hs : ∀ done a post, l = done ++ a :: post → ∀ ρ', W done ρ' → Ex X (setE T (f a) ρ') body (W (done ++ [a])) R) (hd : ∀ ρ', W l ρ' → N ρ')
    (hp : PassesOwn (model X.prog X.w) X.A X.env X.xe := by exact PassesOwn.never) (hfs : ∀ x, foldedSetIterable it X.env x = pure x := by intro _; rfl) : ExS X ρ (.For tg it body [] pos) N R := .mk fun F σ H hy E D w => by
  refine wS.of (ps_for hp hc pi_w hT pss_w hfs) (hi F σ H E _ fun J H1 s1 wk => ?_)
  obtain ⟨sz, G, g1, gk, wkk⟩ := wk
  have E1 := E.same s1
  refine for_it wkk (fun i σ' H' => ∃ ρ', EnvAt (base F ρ H1) H' σ' ρ' ∧ W (l.take i) ρ') ⟨ρ, E1.rebase, h0⟩ (fun i σ' H' _ ⟨ρ', E', _⟩ => gk H1 H' g1 fun b o n e => E'.sm b o (fun m => n (.inl (.inr (.inr m)))) e) ?_ ?_
  · rintro i x σ' Ha Hb hi' ⟨ρ', E', hw⟩ ⟨sb, y⟩
    have hil : i < l.length := by rw [List.length_map] at hi'; exact hi'
    obtain ⟨d, e1, a1⟩ := y (Av (base F ρ H1) ρ') (fun b z => z.elim (fun z => .inl (.inl z)) fun z => z.elim (fun z => .inl (.inr (.inl z))) fun z => (E'.moP z).elim (fun z => .inl (.inr (.inr z))) .inr) E'.avo
    rw [List.getElem?_map, List.getElem?_eq_getElem hil] at e1
    have ed : f l[i] = d := Option.some.inj e1
    rw [← ed] at a1
    have htk : l.take (i + 1) = l.take i ++ [l[i]] := by rw [List.take_succ, List.getElem?_eq_getElem hil]; rfl
    have hsp : l = l.take i ++ l[i] :: l.drop (i + 1) := by rw [List.getElem_cons_drop, List.take_append_drop]
    refine gOf_ok (E'.same sb) a1 (hf _ (List.getElem_mem hil)) fun σ2 E2 _ => ?_
    exact (hs _ _ _ hsp ρ' hw (base F ρ H1) σ2 Hb hy E2 _ ⟨fun σ3 H3 ρ3 E3 w3 => ⟨ρ3, E3, by rw [htk]; exact w3⟩, fun v H3 σ3 ρ3 d3 E3 a3 r3 => w.2 v H3 σ3 ρ3 d3 (E1.unbase E3) a3 r3⟩)
  · rintro σ' H' ⟨ρ', E', hw⟩
    rw [List.length_map, List.take_length] at hw
    exact w.1 σ' H' ρ' (E1.unbase E') (hd ρ' hw)
end
end TR
/-! ## C6 -/
set_option Elab.async false
set_option linter.all false
set_option maxRecDepth 100000
namespace TR
open PySem L2
/-- a promise on data: from ds the def may give d, and changes nothing -/
def spD (n : Nat) (S : List D → D → Prop) : Sp := fun vs H Q _ => ∃ (Z : Addr → Prop) (ds : List D) (d : D), vs.length = n ∧ (∀ b, Z b → Ob H b) ∧ Ats Z H vs ds ∧ S ds d ∧ ∀ v H', Same H H' → At Z H' v d → Q v H'
/-- a def that stands behind the top and keeps a promise -/
structure FnI (P : Program) (w : World) (K : PySem.W.Frag) (mg : Str → Option Value) (base : Heap) (k : Nat) (x : Str) (ps : List Str) (sp : Sp) : Prop where
  ex : ∃ f fd, FnOk P w K mg base CX0 k f fd ps sp ∧ mg x = some (.ref f) ∧ PySem.W.keepIn K (.ref f) = true ∧ Binds K fd ps [] ∧
    ∃ (params : Arguments) (body : List Stmt) (scope : Scope), FunD K x x params body scope [] [] f fd
/-- the def as it stands -/
structure FnT (K : PySem.W.Frag) (mg : Str → Option Value) (x : Str) (st : Stmt) : Prop where
  ex : ∃ f fd, FunD K x x (defArgs st) (defBody st) (defScope st) [] [] f fd ∧ mg x = some (.ref f)
section
variable {P : Program} {w : World} {K : PySem.W.Frag} {mg : Str → Option Value} {bs : Heap} {x : Str} {st : Stmt} {N ps : List Str} {k : Nat}
/-- the context of a def's body -/
abbrev CxD (P : Program) (w : World) (K : PySem.W.Frag) (mg : Str → Option Value) (bs : Heap) (N : List Str) (x : Str) (st : Stmt) (f : Addr) (cdv : Value) (A : Around) (outer : List Env) (s : Shared) (H : Hp) (E : XK) : Cx :=
  (cxOf CX0 P w K mg bs N x (defScope st) f cdv A outer s H E).nox
def env0 (N : List Str) (ds : List D) : En := ds.map .dat ++ List.replicate (N.length - ds.length) .any
theorem env0_at {Z : Addr → Prop} {H : Hp} {vs : List V} {ds : List D} (zd : ∀ b, Z b → Ob H b) (a : Ats Z H vs ds) : EnvAt { Z := Z, Y := fun _ => False, P := fun _ => False, H0 := H } H (L2.start N vs) (env0 N ds) := by
  have nomo : ∀ b, ¬ Mo (env0 N ds) b := fun b ⟨p, d, h⟩ => by
    rcases List.mem_append.mp h with h | h
    · obtain ⟨_, _, e⟩ := List.mem_map.mp h; cases e
    · have := List.eq_of_mem_replicate h; cases this
  refine ⟨zd, fun _ h => h.elim, fun _ h => h.elim, fun b o _ e => e, ?_, fun i e h => ?_, fun i j p q b d d' h1 h2 => ?_⟩
  · unfold L2.start env0
    rw [List.length_append, List.length_append, List.length_map, List.length_map, List.length_replicate, List.length_replicate, a.length]
  · by_cases hi : i < ds.length
    · unfold env0 at h
      rw [List.getElem?_append_left (by rw [List.length_map]; exact hi), List.getElem?_map] at h
      cases e1 : ds[i]? with
      | none => rw [e1] at h; cases h
      | some d =>
        rw [e1] at h
        cases h
        obtain ⟨v, ev, av⟩ := a.get' e1
        refine ⟨v, ?_, av.weak fun b z => z.elim id fun z => z.elim False.elim fun z => (nomo b z).elim⟩
        unfold L2.start
        rw [List.getElem?_append_left (by rw [List.length_map, a.length]; exact hi), List.getElem?_map, ev]
        rfl
    · unfold env0 at h
      rw [List.getElem?_append_right (by rw [List.length_map]; omega), List.getElem?_replicate] at h
      split at h
      · cases h; trivial
      · cases h
  · exact (nomo b ⟨p, d, List.mem_of_getElem? h1⟩).elim
/-- THE RULE for a def that changes nothing -/
theorem fn_pure {S : List D → D → Prop} (T : FnT K mg x st) (sc : FnScope N ps (defScope st))
    (hb : ∀ (kV doc pm : Value) (an : Option Addr) (cdv ct : Value) (us : List Value), us.length = ps.length → bindArgs (PySem.W.fnOf x x (defArgs st) (defBody st) (defScope st) .none kV doc pm an cdv ct) ⟨us, []⟩ = pure (ps.zip us))
    (body : ∀ f cdv A outer s H E, Room k (CxD P w K mg bs N x st f cdv A outer s H E).A → ∀ ds d, ds.length = ps.length → S ds d → Ex (CxD P w K mg bs N x st f cdv A outer s H E) (env0 N ds) (defBody st) (fun _ => d = .non) (fun d' _ => d' = d)) :
    FnI P w K mg bs (k + 1) x ps (spD ps.length S) := by
  obtain ⟨f, fd, F, hm⟩ := T.ex
  refine ⟨f, fd, ?_, hm, F.kp, F.bindsN hb, _, _, _, F⟩
  refine F.ok sc (fun vs H Q E h => ?_) (fun cdv A outer s H vs Q E hr h => ?_)
  · obtain ⟨Z, ds, d, hl, _⟩ := h
    exact hl
  · obtain ⟨Z, ds, d, hl, zd, a, hS, q⟩ := h
    refine ⟨_, PSs.nox pss_w, ?_⟩
    have b := body f cdv A outer s H E hr ds d (by rw [← a.length]; exact hl) hS
    refine b { Z := Z, Y := fun _ => False, P := fun _ => False, H0 := H } (L2.start N vs) H (fun _ h => h) (env0_at zd a) _ ⟨fun σ' H' ρ' E' e => ?_, fun v H' σ' ρ' d' E' a' e => ?_⟩
    · show Q .non H'
      exact q _ H' (fun b o e => E'.sm b o (fun h => h) e) (by rw [show d = .non from e]; exact .non)
    · rw [show d' = d from e] at a'
      exact q v H' (fun b o e => E'.sm b o (fun h => h) e) (a'.weak fun b z => .inl z)
end
section
variable {X : Cx} {ρ : En} {e : Expr} {es : List Expr} {d : D} {pos p : Pos} {ds : List D} {S : List D → D → Prop} {x : Str} {ps : List Str} {k n : Nat}
theorem e_call {kk : Nat} (G : FnI X.prog X.w X.K X.mg X.base k x ps (spD n S)) (hr : Room kk X.A) (ha : EvA true X ρ (e :: es) ds) (hS : S ds d) (hj : k ≤ kk := by decide) (hn : ds.length = n := by rfl) (hg : Gl X x := by rfl)
    (hdb : (x == ("__debug__" : Str)) = false := by decide) (he : starEach (e :: es) X.env = (false, eval e X.env) :: starEach es X.env := by rfl) (hpl : (backTo pos (starEach es X.env)).any (·.1) = false := by rfl) :
    Ev .st X ρ (.Call (.Name x p) (e :: es) [] pos) d := .mk fun F σ H E Q q => by
  obtain ⟨f, fd, ok, hm, kp, b, _⟩ := G.ex
  refine wT.of (pe_call (ok.mono hj) hr hg hm kp b .nil (pass0) pa_w hdb he hpl) (ha F σ H E _ fun vs H1 s1 r1 => ?_)
  rw [List.append_nil]
  exact ⟨Av F ρ, ds, d, by rw [r1.ats.length]; exact hn, (E.same s1).avo, r1.ats, hS, fun v H2 s2 a => q v H2 (s1.trans s2) a⟩
end
end TR
/-! ## C7 -/
set_option Elab.async false
set_option linter.all false
set_option maxRecDepth 100000
namespace TR
open PySem L2
def tyD : D → String
  | .non => "NoneType" | .bl _ => "bool" | .int _ => "int" | .tup _ => "tuple" | .stp _ => "tuple" | .lst _ => "list" | .dT _ => "dict" | .dI _ => "dict"
def isInt : D → Bool
  | .int _ => true | .bl _ => true | _ => false
def isBool : D → Bool
  | .bl _ => true | _ => false
def isTup : D → Bool
  | .tup _ => true | .stp _ => true | _ => false
def isLst : D → Bool
  | .lst _ => true | _ => false
theorem kit_int : ∀ d : D, kitB (tyD d) "int" = some (isInt d)
  | .non => (by decide +kernel : kitB "NoneType" "int" = some false)
  | .bl _ => (by decide +kernel : kitB "bool" "int" = some true)
  | .int _ => (by decide +kernel : kitB "int" "int" = some true)
  | .tup _ => (by decide +kernel : kitB "tuple" "int" = some false)
  | .stp _ => (by decide +kernel : kitB "tuple" "int" = some false)
  | .lst _ => (by decide +kernel : kitB "list" "int" = some false)
  | .dT _ => (by decide +kernel : kitB "dict" "int" = some false)
  | .dI _ => (by decide +kernel : kitB "dict" "int" = some false)
theorem kit_bool : ∀ d : D, kitB (tyD d) "bool" = some (isBool d)
  | .non => (by decide +kernel : kitB "NoneType" "bool" = some false)
  | .bl _ => (by decide +kernel : kitB "bool" "bool" = some true)
  | .int _ => (by decide +kernel : kitB "int" "bool" = some false)
  | .tup _ => (by decide +kernel : kitB "tuple" "bool" = some false)
  | .stp _ => (by decide +kernel : kitB "tuple" "bool" = some false)
  | .lst _ => (by decide +kernel : kitB "list" "bool" = some false)
  | .dT _ => (by decide +kernel : kitB "dict" "bool" = some false)
  | .dI _ => (by decide +kernel : kitB "dict" "bool" = some false)
theorem kit_str : ∀ d : D, kitB (tyD d) "str" = some false
  | .non => (by decide +kernel : kitB "NoneType" "str" = some false)
  | .bl _ => (by decide +kernel : kitB "bool" "str" = some false)
  | .int _ => (by decide +kernel : kitB "int" "str" = some false)
  | .tup _ => (by decide +kernel : kitB "tuple" "str" = some false)
  | .stp _ => (by decide +kernel : kitB "tuple" "str" = some false)
  | .lst _ => (by decide +kernel : kitB "list" "str" = some false)
  | .dT _ => (by decide +kernel : kitB "dict" "str" = some false)
  | .dI _ => (by decide +kernel : kitB "dict" "str" = some false)
theorem kit_tuple : ∀ d : D, kitB (tyD d) "tuple" = some (isTup d)
  | .non => (by decide +kernel : kitB "NoneType" "tuple" = some false)
  | .bl _ => (by decide +kernel : kitB "bool" "tuple" = some false)
  | .int _ => (by decide +kernel : kitB "int" "tuple" = some false)
  | .tup _ => (by decide +kernel : kitB "tuple" "tuple" = some true)
  | .stp _ => (by decide +kernel : kitB "tuple" "tuple" = some true)
  | .lst _ => (by decide +kernel : kitB "list" "tuple" = some false)
  | .dT _ => (by decide +kernel : kitB "dict" "tuple" = some false)
  | .dI _ => (by decide +kernel : kitB "dict" "tuple" = some false)
theorem kit_list : ∀ d : D, kitB (tyD d) "list" = some (isLst d)
  | .non => (by decide +kernel : kitB "NoneType" "list" = some false)
  | .bl _ => (by decide +kernel : kitB "bool" "list" = some false)
  | .int _ => (by decide +kernel : kitB "int" "list" = some false)
  | .tup _ => (by decide +kernel : kitB "tuple" "list" = some false)
  | .stp _ => (by decide +kernel : kitB "tuple" "list" = some false)
  | .lst _ => (by decide +kernel : kitB "list" "list" = some true)
  | .dT _ => (by decide +kernel : kitB "dict" "list" = some false)
  | .dI _ => (by decide +kernel : kitB "dict" "list" = some false)
theorem Rd.ty {K : PySem.W.Frag} {Z : Addr → Prop} {H : Hp} {v : V} {d : D} (h : Rd Z H v d) : TyX K H v (.type (tyD d)) := by
  rcases h with h | ⟨b, rfl, t⟩
  · cases h with
    | non => exact .base .non
    | bl b => exact .base (.bl b)
    | int i => exact .base (.int i)
    | tup n e t => exact .base (.tup e)
    | stp n e f t => exact .fTuple e
    | lst n e t => exact .base (.lst e)
    | dT n e t => exact .base (.dT e)
    | dI n e t => exact .base (.dK e)
  · cases d with
    | lst l => obtain ⟨xs, e, t⟩ := t; exact .base (.lst e)
    | dT l => obtain ⟨xs, e, t⟩ := t; exact .base (.dT e)
    | dI l => obtain ⟨xs, e, t⟩ := t; exact .base (.dK e)
    | _ => exact t.elim
section
variable {X : Cx} {ρ : En} {e a b c : Expr} {es rest : List Expr} {d d1 d2 : D} {k k1 k2 : Kd} {pos p p1 p2 pp : Pos} {l l1 l2 : List D}
/-- isinstance(x, T) -/
theorem e_isi {T : String} {t : Str} {r : Bool} (ha : Ev k X ρ a d) (hm : X.mg "isinstance" = none) (hmT : X.mg t = none) (hT : bootBuiltins t = some (.type T)) (hk : kitB (tyD d) T = some r) (hg : Gl X "isinstance" := by rfl) (hgT : Gl X t := by rfl) (hn : t ≠ "__name__" := by decide) (hd : (t == ("__debug__" : Str)) = false := by decide)
    (h1 : starEach [a, .Name t p1] X.env = (false, eval a X.env) :: starEach [.Name t p1] X.env := by rfl) (h2 : starEach [.Name t p1] X.env = (false, eval (.Name t p1) X.env) :: starEach [] X.env := by rfl) (hpl : (backTo pos (starEach [.Name t p1] X.env)).any (·.1) = false := by rfl) :
    Ev .st X ρ (.Call (.Name "isinstance" p) [a, .Name t p1] [] pos) (.bl r) := .mk fun F σ H E Q q =>
  wT.of (pe_callB call_isi hg hm PyProof.Rows.boot_isinstance (pa_cons pe_w (pa_cons (pe_bltn (v := .ty T) hgT hmT hT rfl hn hd) pa_nil h2) h1) (by decide) (by decide) h1 hpl)
    (ha F σ H E _ fun v H1 s1 r1 => ⟨v, .ty T, _, _, r, rfl, .ty T, r1.rdOf.ty, kit_ty hk, q _ H1 s1 (.bl r)⟩)
theorem kitAny2 {K : PySem.W.Frag} {t T1 T2 : String} {r1 r2 : Bool} (h1 : kitB t T1 = some r1) (h2 : kitB t T2 = some r2) : PySem.W.kitAny K (.type t) [.type T1, .type T2] = some (r1 || r2) := by
  cases r1 with
  | true => exact kitAny_cons (kit_ty h1) (fun z => by cases z) fun _ => rfl
  | false => exact kitAny_cons (kit_ty h1) (fun _ => by
      cases r2 with
      | true => exact kitAny_cons (kit_ty h2) (fun z => by cases z) fun _ => rfl
      | false => exact kitAny_cons (kit_ty h2) (fun _ => kitAny_nil) fun z => by cases z) fun z => by cases z
/-- isinstance(x, (T1, T2)) -/
theorem e_isi2 {T1 T2 : String} {t1 t2 : Str} {r1 r2 : Bool} {x1 : Nat} (ha : Ev k X ρ a d) (hm : X.mg "isinstance" = none) (hm1 : X.mg t1 = none) (hm2 : X.mg t2 = none) (hT1 : bootBuiltins t1 = some (.type T1)) (hT2 : bootBuiltins t2 = some (.type T2)) (hk1 : kitB (tyD d) T1 = some r1) (hk2 : kitB (tyD d) T2 = some r2)
    (hg : Gl X "isinstance" := by rfl) (hg1 : Gl X t1 := by rfl) (hg2 : Gl X t2 := by rfl) (hn1 : t1 ≠ "__name__" := by decide) (hd1 : (t1 == ("__debug__" : Str)) = false := by decide) (hn2 : t2 ≠ "__name__" := by decide) (hd2 : (t2 == ("__debug__" : Str)) = false := by decide)
    (h1 : starEach [a, .Tuple [.Name t1 p1, .Name t2 p2] x1 pp] X.env = (false, eval a X.env) :: starEach [.Tuple [.Name t1 p1, .Name t2 p2] x1 pp] X.env := by rfl) (h2 : starEach [.Tuple [.Name t1 p1, .Name t2 p2] x1 pp] X.env = (false, eval (.Tuple [.Name t1 p1, .Name t2 p2] x1 pp) X.env) :: starEach [] X.env := by rfl)
    (h3 : starEach [.Name t1 p1, .Name t2 p2] X.env = (false, eval (.Name t1 p1) X.env) :: starEach [.Name t2 p2] X.env := by rfl) (h4 : starEach [.Name t2 p2] X.env = (false, eval (.Name t2 p2) X.env) :: starEach [] X.env := by rfl) (hpl : (backTo pos (starEach [.Tuple [.Name t1 p1, .Name t2 p2] x1 pp] X.env)).any (·.1) = false := by rfl) :
    Ev .st X ρ (.Call (.Name "isinstance" p) [a, .Tuple [.Name t1 p1, .Name t2 p2] x1 pp] [] pos) (.bl (r1 || r2)) := .mk fun F σ H E Q q =>
  wT.of (pe_callB call_isiT hg hm PyProof.Rows.boot_isinstance (pa_cons pe_w (pa_cons (pe_tup (pa_cons (pe_bltn (v := .ty T1) hg1 hm1 hT1 rfl hn1 hd1) (pa_cons (pe_bltn (v := .ty T2) hg2 hm2 hT2 rfl hn2 hd2) pa_nil h4) h3)) pa_nil h2) h1) (by decide) (by decide) h1 hpl)
    (ha F σ H E _ fun v H1 s1 r => ⟨show 2 ≤ sizeLine by decide, fun pt hp => ⟨v, pt, [.ty T1, .ty T2], _, [.type T1, .type T2], r1 || r2, rfl, upd_same, .cons (.ty T1) (.cons (.ty T2) .nil), (r.rdOf.same (Same.new hp)).ty, kitAny2 hk1 hk2, q _ _ (s1.trans (Same.new hp)) (.bl _)⟩⟩)
theorem Rds.one {Z : Addr → Prop} {H : Hp} {vs : List V} (h : Rds .rd Z H vs [d]) : ∃ v, vs = [v] ∧ Rd Z H v d := by
  cases h with
  | cons a t => cases t; exact ⟨_, rfl, a⟩
theorem e_len (hm : X.mg "len" = none) (ha : Ev k X ρ a d) (hs : IsSeq d l := by constructor) (hg : Gl X "len" := by rfl) (h1 : starEach [a] X.env = (false, eval a X.env) :: starEach [] X.env := by rfl) : Ev .st X ρ (.Call (.Name "len" p) [a] [] pos) (.int (l.length : Nat)) :=
  e_callB (call_len_seq (X := X)) hm PySem.boot_len (a_cons ha a_nil (fun z => nomatch z) h1) (fun Z H vs hz r Q q => by
    obtain ⟨v, rfl, r1⟩ := r.one
    obtain ⟨a, xs, rfl, e1, t⟩ := r1.seq (K := X.K) hs
    exact ⟨a, xs, rfl, e1, q _ H (Same.refl H) (by rw [t.length]; exact .int _)⟩) hg (by decide) (by decide) h1 rfl
theorem e_tupleOf (hm : X.mg "tuple" = none) (ha : Ev k X ρ a (.lst l)) (hg : Gl X "tuple" := by rfl) (h1 : starEach [a] X.env = (false, eval a X.env) :: starEach [] X.env := by rfl) : Ev .st X ρ (.Call (.Name "tuple" p) [a] [] pos) (.tup l) :=
  e_callTy (call_tuple_of (X := X)) hm PyProof.Rows.boot_tuple (a_cons ha a_nil (fun z => nomatch z) h1) (fun Z H vs hz r Q q => by
    obtain ⟨v, rfl, r1⟩ := r.one
    obtain ⟨a, xs, rfl, e1, t⟩ := r1.lst
    exact ⟨a, xs, rfl, .inl ⟨SqL.of e1, fun l hl => q _ _ (Same.new hl) (t.newTup hz hl)⟩⟩) hg (by decide) (by decide) h1 rfl
theorem e_listOf (hm : X.mg "list" = none) (ha : Ev k X ρ a d) (hs : IsSeq d l := by constructor) (hg : Gl X "list" := by rfl) (h1 : starEach [a] X.env = (false, eval a X.env) :: starEach [] X.env := by rfl) : Ev .fr X ρ (.Call (.Name "list" p) [a] [] pos) (.lst l) :=
  e_callTy (call_list_of (X := X)) hm PyProof.Rows.boot_list (a_cons ha a_nil (fun z => nomatch z) h1) (fun Z H vs hz r Q q => by
    obtain ⟨v, rfl, r1⟩ := r.one
    obtain ⟨a, xs, rfl, e1, t⟩ := r1.seq (K := X.K) hs
    exact ⟨a, xs, rfl, e1, fun l hl => q _ _ (Same.new hl) (t.newLst hl)⟩) hg (by decide) (by decide) h1 rfl
theorem Ats.bls {Z : Addr → Prop} {H : Hp} : ∀ {xs : List V} {bs : List Bool}, Ats Z H xs (bs.map .bl) → xs = bs.map V.bl
  | _, [], .nil => rfl
  | _, n :: ns, .cons h t => by cases h; rw [Ats.bls t, List.map_cons]
theorem e_all {bs : List Bool} (hc : X.calm = true) (hm : X.mg "all" = none) (ha : Ev k X ρ a (.lst (bs.map .bl))) (hg : Gl X "all" := by rfl) (h1 : starEach [a] X.env = (false, eval a X.env) :: starEach [] X.env := by rfl) : Ev .st X ρ (.Call (.Name "all" p) [a] [] pos) (.bl (bs.all id)) :=
  e_callB (cr_all (X := X) hc) hm PyProof.Rows.boot_all (a_cons ha a_nil (fun z => nomatch z) h1) (fun Z H vs hz r Q q => by
    obtain ⟨v, rfl, r1⟩ := r.one
    obtain ⟨a, xs, rfl, e1, t⟩ := r1.lst
    exact ⟨a, bs, rfl, by rw [← t.bls]; exact SqL.of e1, q _ H (Same.refl H) (.bl _)⟩) hg (by decide) (by decide) h1 rfl
theorem e_any {bs : List Bool} (hc : X.calm = true) (hm : X.mg "any" = none) (ha : Ev k X ρ a (.lst (bs.map .bl))) (hg : Gl X "any" := by rfl) (h1 : starEach [a] X.env = (false, eval a X.env) :: starEach [] X.env := by rfl) : Ev .st X ρ (.Call (.Name "any" p) [a] [] pos) (.bl (bs.any id)) :=
  e_callB (cr_any (X := X) hc) hm PyProof.Rows.boot_any (a_cons ha a_nil (fun z => nomatch z) h1) (fun Z H vs hz r Q q => by
    obtain ⟨v, rfl, r1⟩ := r.one
    obtain ⟨a, xs, rfl, e1, t⟩ := r1.lst
    exact ⟨a, bs, rfl, by rw [← t.bls]; exact SqL.of e1, q _ H (Same.refl H) (.bl _)⟩) hg (by decide) (by decide) h1 rfl
theorem e_min {ns : List Int} {m : Int} (hc : X.calm = true) (hm : X.mg "min" = none) (ha : Ev k X ρ a (.lst (ns.map .int))) (h0 : m ∈ ns) (hle : ∀ y ∈ ns, m ≤ y) (hg : Gl X "min" := by rfl) (h1 : starEach [a] X.env = (false, eval a X.env) :: starEach [] X.env := by rfl) : Ev .st X ρ (.Call (.Name "min" p) [a] [] pos) (.int m) :=
  e_callB (cr_min (X := X) hc) hm PyProof.Rows.boot_min (a_cons ha a_nil (fun z => nomatch z) h1) (fun Z H vs hz r Q q => by
    obtain ⟨v, rfl, r1⟩ := r.one
    obtain ⟨a, xs, rfl, e1, t⟩ := r1.lst
    refine ⟨a, ns, rfl, by rw [← t.ints]; exact SqL.of e1, List.length_pos_of_mem h0, fun m' h1 h2 => ?_⟩
    rw [show m' = m from Int.le_antisymm (h2 m h0) (hle m' h1)]
    exact q _ H (Same.refl H) (.int _)) hg (by decide) (by decide) h1 rfl
theorem e_max {ns : List Int} {m : Int} (hc : X.calm = true) (hm : X.mg "max" = none) (ha : Ev k X ρ a (.lst (ns.map .int))) (h0 : m ∈ ns) (hle : ∀ y ∈ ns, y ≤ m) (hg : Gl X "max" := by rfl) (h1 : starEach [a] X.env = (false, eval a X.env) :: starEach [] X.env := by rfl) : Ev .st X ρ (.Call (.Name "max" p) [a] [] pos) (.int m) :=
  e_callB (cr_max (X := X) hc) hm PyProof.Rows.boot_max (a_cons ha a_nil (fun z => nomatch z) h1) (fun Z H vs hz r Q q => by
    obtain ⟨v, rfl, r1⟩ := r.one
    obtain ⟨a, xs, rfl, e1, t⟩ := r1.lst
    refine ⟨a, ns, rfl, by rw [← t.ints]; exact SqL.of e1, List.length_pos_of_mem h0, fun m' h1 h2 => ?_⟩
    rw [show m' = m from Int.le_antisymm (hle m' h1) (h2 m h0)]
    exact q _ H (Same.refl H) (.int _)) hg (by decide) (by decide) h1 rfl
theorem e_abs {i : Int} (hm : X.mg "abs" = none) (ha : Ev k X ρ a (.int i)) (hg : Gl X "abs" := by rfl) (h1 : starEach [a] X.env = (false, eval a X.env) :: starEach [] X.env := by rfl) : Ev .st X ρ (.Call (.Name "abs" p) [a] [] pos) (.int (if i < 0 then -i else i)) :=
  e_callB (call_abs (X := X)) hm PyProof.Rows.boot_abs (a_cons ha a_nil (fun z => nomatch z) h1) (fun Z H vs hz r Q q => by
    obtain ⟨v, rfl, r1⟩ := r.one
    exact ⟨i, by rw [r1.int], q _ H (Same.refl H) (.int _)⟩) hg (by decide) (by decide) h1 rfl
theorem e_int1 {i : Int} (hm : X.mg "int" = none) (ha : Ev k X ρ a (.int i)) (hg : Gl X "int" := by rfl) (h1 : starEach [a] X.env = (false, eval a X.env) :: starEach [] X.env := by rfl) : Ev .st X ρ (.Call (.Name "int" p) [a] [] pos) (.int i) :=
  e_callTy (call_int1 (X := X)) hm PyProof.Rows.boot_int (a_cons ha a_nil (fun z => nomatch z) h1) (fun Z H vs hz r Q q => by
    obtain ⟨v, rfl, r1⟩ := r.one
    exact .inl ⟨i, by rw [r1.int], q _ H (Same.refl H) (.int _)⟩) hg (by decide) (by decide) h1 rfl
theorem e_intB {i : Bool} (hm : X.mg "int" = none) (ha : Ev k X ρ a (.bl i)) (hg : Gl X "int" := by rfl) (h1 : starEach [a] X.env = (false, eval a X.env) :: starEach [] X.env := by rfl) : Ev .st X ρ (.Call (.Name "int" p) [a] [] pos) (.int (if i then 1 else 0)) :=
  e_callTy (call_int1 (X := X)) hm PyProof.Rows.boot_int (a_cons ha a_nil (fun z => nomatch z) h1) (fun Z H vs hz r Q q => by
    obtain ⟨v, rfl, r1⟩ := r.one
    exact .inr ⟨i, by rw [r1.bl], q _ H (Same.refl H) (.int _)⟩) hg (by decide) (by decide) h1 rfl
/-! joined, repeated, cut -/
theorem e_cat (ha : Ev k1 X ρ a (.lst l1)) (hb : Ev k2 X ρ b (.lst l2)) (hs : l1.length + l2.length ≤ sizeLine) : Ev .fr X ρ (.BinOp a .Add b pos) (.lst (l1 ++ l2)) := e_op op_cat ha hb fun Z H x y hz hx hy Q q => by
  obtain ⟨a, xs, rfl, e1, t1⟩ := hx.lst
  obtain ⟨b, ys, rfl, e2, t2⟩ := hy.lst
  exact ⟨a, b, xs, ys, rfl, rfl, e1, e2, by rw [t1.length, t2.length]; exact hs, fun p hp => q _ _ (Same.new hp) ((t1.append t2).newLst hp)⟩
theorem e_catT (ha : Ev k1 X ρ a (.tup l1)) (hb : Ev k2 X ρ b (.tup l2)) (hs : l1.length + l2.length ≤ sizeLine) : Ev .st X ρ (.BinOp a .Add b pos) (.tup (l1 ++ l2)) := e_op op_catA ha hb fun Z H x y hz hx hy Q q => by
  obtain ⟨a, xs, rfl, n1, e1, t1⟩ := hx.tup
  obtain ⟨b, ys, rfl, n2, e2, t2⟩ := hy.tup
  refine ⟨a, b, xs, ys, rfl, rfl, SqT.of e1, SqT.of e2, by rw [t1.length, t2.length]; exact hs, fun e => q _ H (Same.refl H) ?_, fun _ e => q _ H (Same.refl H) ?_, fun _ _ p hp => q _ _ (Same.new hp) ((t1.append t2).newTup hz hp)⟩
  · subst e; cases t1; exact .tup n2 e2 t2
  · subst e; cases t2; rw [List.append_nil]; exact .tup n1 e1 t1
theorem rep_ats {Z : Addr → Prop} {H : Hp} {xs : List V} {l : List D} (t : Ats Z H xs l) : ∀ n : Nat, Ats Z H (List.replicate n xs).flatten (List.replicate n l).flatten
  | 0 => .nil
  | n + 1 => by rw [List.replicate_succ, List.replicate_succ, List.flatten_cons, List.flatten_cons]; exact t.append (rep_ats t n)
theorem e_rep {n : Int} (ha : Ev k1 X ρ a (.lst l1)) (hb : Ev k2 X ρ b (.int n)) (h1 : -(2 ^ 63) ≤ n) (h2 : n < 2 ^ 63) (hs : l1.length * n.toNat ≤ sizeLine) : Ev .fr X ρ (.BinOp a .Mult b pos) (.lst (List.replicate n.toNat l1).flatten) := e_op op_rep ha hb fun Z H x y hz hx hy Q q => by
  obtain ⟨a, xs, rfl, e1, t1⟩ := hx.lst
  exact ⟨a, n, xs, rfl, hy.int, e1, h1, h2, by rw [t1.length]; exact hs, fun p hp => q _ _ (Same.new hp) ((rep_ats t1 n.toNat).newLst hp)⟩
/-- the bounds of a slice -/
inductive EvO (X : Cx) (ρ : En) : Option Expr → Option Int → Prop
  | none : EvO X ρ none none
  | some {e : Expr} {i : Int} {k : Kd} : Ev k X ρ e (.int i) → EvO X ρ (some e) (some i)
def cutD (l : List D) (lo hi : Option Int) : List D := (l.drop (HT.sIx l.length 0 lo)).take (HT.sIx l.length l.length hi - HT.sIx l.length 0 lo)
theorem Ats.drop {Z : Addr → Prop} {H : Hp} : ∀ (n : Nat) {xs : List V} {l : List D}, Ats Z H xs l → Ats Z H (xs.drop n) (l.drop n)
  | 0, _, _, h => h
  | n + 1, _, _, .nil => .nil
  | n + 1, _, _, .cons _ t => Ats.drop n t
theorem Ats.take {Z : Addr → Prop} {H : Hp} : ∀ (n : Nat) {xs : List V} {l : List D}, Ats Z H xs l → Ats Z H (xs.take n) (l.take n)
  | 0, _, _, _ => .nil
  | n + 1, _, _, .nil => .nil
  | n + 1, _, _, .cons a t => .cons a (Ats.take n t)
theorem Ats.cut {Z : Addr → Prop} {H : Hp} {xs : List V} {l : List D} (t : Ats Z H xs l) (lo hi : Option Int) : Ats Z H (cutV xs lo hi) (cutD l lo hi) := by
  unfold cutV cutD
  rw [t.length]
  exact (t.drop _).take _
theorem Ats.reverse {Z : Addr → Prop} {H : Hp} {xs : List V} {l : List D} (t : Ats Z H xs l) : Ats Z H xs.reverse l.reverse := by
  induction xs generalizing l with
  | nil => cases t; exact .nil
  | cons x xs ih =>
    cases t with
    | cons a t => rw [List.reverse_cons, List.reverse_cons]; exact (ih t).append (.cons a .nil)
def wO (X : Cx) : Option Expr → TO
  | none => tNoPart
  | some e => tPart (wT X e)
theorem po_w : ∀ {o : Option Expr}, PO X o (wO X o)
  | none => po_none
  | some _ => po_some pe_w
theorem EvO.go {o : Option Expr} {i : Option Int} (h : EvO X ρ o i) {F : Fr} {σ : St} {H : Hp} (E : EnvAt F H σ ρ) {Q : Option Int → Hp → Prop} (q : ∀ H', Same H H' → Q i H') : wO X o σ H Q := by
  cases h with
  | none => exact q H (Same.refl H)
  | some h => exact h F σ H E _ fun v H' s r => ⟨_, r.rdOf.int, q H' s⟩
theorem e_sliceL {lo hi : Option Expr} {i j : Option Int} (ha : Ev k1 X ρ a (.lst l)) (h1 : EvO X ρ lo i) (h2 : EvO X ρ hi j) : Ev .fr X ρ (.Subscript a (.Slice lo hi none p2) pos) (.lst (cutD l i j)) := .mk fun F σ H E Q q =>
  wT.of (pe_slice sl_list pe_w po_w po_w) (ha F σ H E _ fun v H1 s1 r1 => h1.go (E.same s1) fun H2 s2 => h2.go ((E.same s1).same s2) fun H3 s3 => by
    obtain ⟨a, xs, rfl, e1, t1⟩ := (r1.rdOf.same (s2.trans s3)).lst
    exact ⟨a, xs, rfl, SqL.of e1, fun p hp => q _ _ (((s1.trans s2).trans s3).trans (Same.new hp)) (((t1.cut i j).newLst hp).back ((s1.trans s2).trans s3))⟩)
theorem e_sliceT {lo hi : Option Expr} {i j : Option Int} (ha : Ev k1 X ρ a (.tup l)) (h1 : EvO X ρ lo i) (h2 : EvO X ρ hi j) : Ev .st X ρ (.Subscript a (.Slice lo hi none p2) pos) (.tup (cutD l i j)) := .mk fun F σ H E Q q =>
  wT.of (pe_slice sl_tupA pe_w po_w po_w) (ha F σ H E _ fun v H1 s1 r1 => h1.go (E.same s1) fun H2 s2 => h2.go ((E.same s1).same s2) fun H3 s3 => by
    obtain ⟨a, xs, rfl, n1, e1, t1⟩ := (r1.rdOf.same (s2.trans s3)).tup
    refine ⟨a, xs, rfl, SqT.of e1, fun hw => q _ _ ((s1.trans s2).trans s3) ?_, fun _ p hp => q _ _ (((s1.trans s2).trans s3).trans (Same.new hp)) ((t1.cut i j).newTup (((E.same s1).same s2).same s3).avd hp)⟩
    have e : cutV xs i j = xs := by unfold cutV; rw [hw.1, hw.2, List.drop_zero, Nat.sub_zero, List.take_length]
    have c := t1.cut i j
    rw [e] at c
    exact .tup n1 e1 c)
theorem e_revL {kk : Nat} {p3 p4 : Pos} (ha : Ev k1 X ρ a (.lst l)) : Ev .fr X ρ (.Subscript a (.Slice none none (some (.UnaryOp .USub (.Constant (.int 1) kk p1) p2)) p3) pos) (.lst l.reverse) := .mk fun F σ H E Q q =>
  wT.of (pe_revL pe_w) (ha F σ H E _ fun v H1 s1 r1 => by
    obtain ⟨a, xs, rfl, e1, t1⟩ := r1.rdOf.lst
    exact ⟨a, xs, rfl, SqL.of e1, fun p hp => q _ _ (s1.trans (Same.new hp)) ((t1.reverse.newLst hp).back s1)⟩)
end
end TR
/-! ## C8 -/
set_option Elab.async false
set_option linter.all false
set_option maxRecDepth 100000
namespace TR
open PySem L2
section
variable {X : Cx} {ρ : En} {e e1 e2 e3 tg it elt : Expr} {es : List Expr} {k : Kd} {d : D} {pos pos' p1 p2 p3 pt pt2 : Pos} {N : NK} {R : RK}
theorem s_unp {ds : List D} {js : List Nat} (hT : TgOk X tg (.tup js)) (h : Ev k X ρ e (.tup ds)) (q : N (setEs js ds ρ)) (hl : ds.length = js.length := by rfl) (hs : swapsWithSole [tg] e pos.line X.env = pure false := by rfl) (hw : swappedStores [tg] e X.env = pure none := by rfl)
    (h1 : (assignEach [tg] X.env).map (·.2) = [assign tg X.env] := by rfl) : ExS X ρ (.Assign [tg] e pos) N R := .mk fun F σ H hy E D w =>
  wS.of (ps_asg pe_w hT hs hw h1) (h F σ H E _ fun v H1 s1 r1 => by
    obtain ⟨c, xs, rfl, n, ec, t⟩ := r1.rdOf.tup
    exact gOf_ok (T := .tup js) (E.same s1) (.tup n ec t) hl fun σ' E' _ => w.1 _ _ _ E' q)
/-- a tuple of names = a list -/
theorem s_unl {ts : List Expr} {kk : Nat} {ds : List D} {js : List Nat} (hc : X.calm = true) (hT : PGs X ts (gNs js)) (h : Ev k X ρ e (.lst ds)) (q : N (setEs js ds ρ)) (hl : ds.length = js.length := by rfl) (hn : (assignEach ts X.env).length = js.length := by rfl) (hst : (assignEach ts X.env).findIdx? (·.1) = none := by rfl)
    (hs : swapsWithSole [.Tuple ts kk pt] e pos.line X.env = pure false := by rfl) (hw : swappedStores [.Tuple ts kk pt] e X.env = pure none := by rfl)
    (h1 : (assignEach [.Tuple ts kk pt] X.env).map (·.2) = [assign (.Tuple ts kk pt) X.env] := by rfl) : ExS X ρ (.Assign [.Tuple ts kk pt] e pos) N R := .mk fun F σ H hy E D w =>
  wS.of (ps_asg pe_w (pg_unl hc hT hn hst) hs hw h1) (h F σ H E _ fun v H1 s1 r1 => by
    obtain ⟨c, xs, rfl, ec, t⟩ := r1.rdOf.lst
    exact ⟨c, xs, rfl, SqL.of ec, by rw [t.length]; exact hl, gNs_ok (E.same s1) (fun _ z => z) t hl fun σ' E' _ => w.1 _ _ _ E' q⟩)
/-! a, b, .. = x, y, .. -/
inductive Disp (X : Cx) (ρ : En) : List Expr → List (Nat × Kd × D) → Prop
  | nil : Disp X ρ [] []
  | cons {e : Expr} {es : List Expr} {i : Nat} {k : Kd} {d : D} {l : List (Nat × Kd × D)} (h : Ev k X ρ e d) (hk : k ≠ .rd) (hs : starEach (e :: es) X.env = (false, eval e X.env) :: starEach es X.env) (t : Disp X ρ es l) : Disp X ρ (e :: es) ((i, k, d) :: l)
theorem dp_nil : Disp X ρ [] [] := .nil
theorem dp {e : Expr} {es : List Expr} (i : Nat) {k : Kd} {d : D} {l : List (Nat × Kd × D)} (h : Ev k X ρ e d) (t : Disp X ρ es l) (hk : k ≠ .rd := by exact fun z => nomatch z) (hs : starEach (e :: es) X.env = (false, eval e X.env) :: starEach es X.env := by rfl) : Disp X ρ (e :: es) ((i, k, d) :: l) := .cons h hk hs t
def PutAll (ρp : En) : List (Nat × Kd × D) → En → Prop
  | [], ρ' => ρ' = ρp
  | (i, .st, d) :: l, ρ' => PutAll (ρp.set i (.dat d)) l ρ'
  | (i, .fr, d) :: l, ρ' => ∃ c, PutAll (ρp.set i (.own false c d)) l ρ'
  | (_, .rd, _) :: _, _ => False
def setAll (σ : St) : List (Nat × Kd × D) → List V → St
  | (i, _, _) :: l, v :: vs => setAll (σ.set i (some v)) l vs
  | _, _ => σ
theorem disp_go {es : List Expr} {l : List (Nat × Kd × D)} (h : Disp X ρ es l) : ∀ {F : Fr} {Y : Addr → Prop} {σ σp : St} {H : Hp} {ρp : En} {Q : List V → Hp → Prop}, EnvAt { F with Y := Y } H σ ρ → EnvAt F H σp ρp → (∀ b, Av F ρp b → Av { F with Y := Y } ρ b) →
    (∀ vs H' ρ', vs.length = l.length → Same H H' → EnvAt F H' (setAll σp l vs) ρ' → PutAll ρp l ρ' → Q vs H') → wA X es σ H Q := by
  induction h with
  | nil => intro F Y σ σp H ρp Q Ee Ep sub q; exact wA.of pa_nil (q [] H ρp rfl (Same.refl H) Ep rfl)
  | @cons e es i k d l h hk hs t ih =>
    intro F Y σ σp H ρp Q Ee Ep sub q
    refine wA.of (pa_cons pe_w pa_w hs) (h _ σ H Ee _ fun v H1 s1 r1 => ?_)
    cases k with
    | rd => exact absurd rfl hk
    | st =>
      have r1 : At (Av { F with Y := Y } ρ) H1 v d := r1
      exact ih (Ee.same s1) ((Ep.same s1).putDat i (r1.weak sub)) (fun b z => sub b (z.imp id fun z => z.imp id (mo_set fun p d => by intro z; cases z))) fun vs H' ρ' hl s2 E' hp => q (v :: vs) H' ρ' (by rw [List.length_cons, List.length_cons, hl]) (s1.trans s2) E' hp
    | fr =>
      obtain ⟨c, rfl, n, t1⟩ := r1
      have E1 := Ep.putNewC s1 n (t1.move (Z' := fun b => Av F ρp b ∨ b = c) (fun b z => .inl (z.imp (sub b) id)) (fun _ _ _ e => e) fun _ e => e) i
      have Ee2 : EnvAt { F with Y := fun b => Y b ∨ b = c } H1 σ ρ := Ee.forbid (fun b z => z.elim (fun z => .inl (.inr (.inl z))) fun z => .inr (by rw [z]; exact n)) s1 fun b z => z.elim (fun z => (Ee.yd b z).same s1) fun z => by rw [z]; exact t1.ob
      refine ih Ee2 E1 (fun b z => ?_) fun vs H' ρ' hl s2 E' hp => q (.ref c :: vs) H' ρ' (by rw [List.length_cons, List.length_cons, hl]) (s1.trans s2) E' ⟨c, hp⟩
      have lift : Av F ρp b → Av { F with Y := fun b => Y b ∨ b = c } ρ b := fun z => (sub b z).imp id fun z => z.imp .inl id
      rcases z with z | z | ⟨p, d', z⟩
      · exact lift (.inl z)
      · exact lift (.inr (.inl z))
      · rcases List.mem_or_eq_of_mem_set z with z | z
        · exact lift (.inr (.inr ⟨p, d', z⟩))
        · cases z; exact .inr (.inl (.inr rfl))
theorem setAll2 {σ : St} {i j : Nat} {k1 k2 : Kd} {d1 d2 : D} {v w : V} : setAll σ [(i, k1, d1), (j, k2, d2)] [v, w] = (σ.set i (some v)).set j (some w) := rfl
/-- stored from the right (two local names) -/
theorem s_disp2 {x y : Str} {i j kt k2 : Nat} {l : List (Nat × Kd × D)} (hc : X.calm = true) (hN : X.N.Nodup) (h : Disp X ρ [e1, e2] l) (q : ∀ ρ', PutAll ρ l ρ' → N ρ') (hl : l.map (·.1) = [i, j] := by rfl) (hi : X.N[i]? = some x := by rfl) (hj : X.N[j]? = some y := by rfl) (hij : i ≠ j := by decide)
    (hx : X.env.scope.names.lookup x = some .local := by rfl) (hy : X.env.scope.names.lookup y = some .local := by rfl) (hw : swappedStores [.Tuple [.Name x p1, .Name y p2] kt pt] (.Tuple [e1, e2] k2 pt2) X.env = pure (some [x, y]) := by rfl)
    (hs : swapsWithSole [.Tuple [.Name x p1, .Name y p2] kt pt] (.Tuple [e1, e2] k2 pt2) pos.line X.env = pure false := by rfl) : ExS X ρ (.Assign [.Tuple [.Name x p1, .Name y p2] kt pt] (.Tuple [e1, e2] k2 pt2) pos) N R := .mk fun F σ H hyy E D w =>
  wS.of (ps_par hc hN hi hj hij hx hy pa_w hw hs) (disp_go h (F := F) (Y := F.Y) E E (fun _ z => z) fun vs H1 ρ' hlen s1 E1 hp => by
    match l, vs, hl, hlen, hp, E1 with
    | [(i', k1, d1), (j', k2, d2)], [v, u], hl, _, hp, E1 =>
      injection hl with a1 a2
      injection a2 with a2 _
      obtain rfl : i' = i := a1
      obtain rfl : j' = j := a2
      exact ⟨v, u, rfl, w.1 _ _ _ E1 (q _ hp)⟩)
theorem s_disp3 {x y z : Str} {i j m kt k2 : Nat} {l : List (Nat × Kd × D)} (hc : X.calm = true) (hN : X.N.Nodup) (h : Disp X ρ [e1, e2, e3] l) (q : ∀ ρ', PutAll ρ l ρ' → N ρ') (hl : l.map (·.1) = [i, j, m] := by rfl) (hi : X.N[i]? = some x := by rfl) (hj : X.N[j]? = some y := by rfl) (hm : X.N[m]? = some z := by rfl) (hij : i ≠ j := by decide) (him : i ≠ m := by decide) (hjm : j ≠ m := by decide)
    (hx : X.env.scope.names.lookup x = some .local := by rfl) (hy : X.env.scope.names.lookup y = some .local := by rfl) (hz : X.env.scope.names.lookup z = some .local := by rfl) (hw : swappedStores [.Tuple [.Name x p1, .Name y p2, .Name z p3] kt pt] (.Tuple [e1, e2, e3] k2 pt2) X.env = pure (some [x, y, z]) := by rfl)
    (hs : swapsWithSole [.Tuple [.Name x p1, .Name y p2, .Name z p3] kt pt] (.Tuple [e1, e2, e3] k2 pt2) pos.line X.env = pure false := by rfl) : ExS X ρ (.Assign [.Tuple [.Name x p1, .Name y p2, .Name z p3] kt pt] (.Tuple [e1, e2, e3] k2 pt2) pos) N R := .mk fun F σ H hyy E D w =>
  wS.of (ps_par3 hc hN hi hj hm hij him hjm hx hy hz pa_w hw hs) (disp_go h (F := F) (Y := F.Y) E E (fun _ z => z) fun vs H1 ρ' hlen s1 E1 hp => by
    match l, vs, hl, hlen, hp, E1 with
    | [(i', k1, d1), (j', k2, d2), (m', k3, d3)], [v, u, t], hl, _, hp, E1 =>
      injection hl with a1 a2
      injection a2 with a2 a3
      injection a3 with a3 _
      obtain rfl : i' = i := a1
      obtain rfl : j' = j := a2
      obtain rfl : m' = m := a3
      exact ⟨v, u, t, rfl, w.1 _ _ _ E1 (q _ hp)⟩)
theorem gNs_set {Q : St → Hp → Prop} {H : Hp} : ∀ {l : List (Nat × Kd × D)} {vs : List V} {σ : St}, vs.length = l.length → Q (setAll σ l vs) H → gNs (l.map (·.1)) vs σ H Q
  | [], [], σ, _, h => ⟨rfl, h⟩
  | (i, _, _) :: l, v :: vs, σ, hl, h => ⟨v, vs, rfl, gNs_set (by simpa using hl) h⟩
  | [], _ :: _, _, hl, _ => by simp at hl
  | _ :: _, [], _, hl, _ => by simp at hl
/-- stored from the left, out of a tuple -/
theorem s_disp {es : List Expr} {x1 : Nat} {l : List (Nat × Kd × D)} (h : Disp X ρ es l) (hT : TgOk X tg (.tup (l.map (·.1)))) (q : ∀ ρ', PutAll ρ l ρ' → N ρ') (hlen : l.length ≤ sizeLine := by exact Nat.le_trans (Nat.le_of_ble_eq_true rfl : _ ≤ 100) (by decide)) (hs : swapsWithSole [tg] (.Tuple es x1 pt) pos.line X.env = pure false := by rfl) (hw : swappedStores [tg] (.Tuple es x1 pt) X.env = pure none := by rfl)
    (h1 : (assignEach [tg] X.env).map (·.2) = [assign tg X.env] := by rfl) : ExS X ρ (.Assign [tg] (.Tuple es x1 pt) pos) N R := .mk fun F σ H hyy E D w =>
  wS.of (ps_asg (pe_tup pa_w) hT hs hw h1) (disp_go h (F := F) (Y := F.Y) E E (fun _ z => z) fun vs H1 ρ' hl s1 E1 hp => ⟨by rw [hl]; exact hlen, fun p hp' =>
    ⟨p, vs, rfl, SqT.of upd_same, by rw [hl, List.length_map], gNs_set hl (w.1 _ _ _ (E1.same (Same.new hp')) (q _ hp))⟩⟩)
/-! y = [..] -/
theorem s_setLc {α : Type} {l : List α} {f : α → D} {p : α → Bool} {g : α → D} {ifs : List Expr} {scope : Scope} {own : List (Str × Nat)} {y : Str} {py : Pos} (i : Nat) (T : Tg) (hc : X.calm = true) (hN : X.N.Nodup) (hi : EvI X ρ tg it (l.map f)) (ok : BlkOk X.N X.env.scope scope own) (hT : ∀ s H C cl fp, TgOk (blk X scope s H C cl fp) tg T) (hf : ∀ a ∈ l, fitsT T (f a)) (hown : ∀ j ∈ T.js, j ∈ own.map (·.2))
    (ht : ∀ a ∈ l, BvTs X scope (setE T (f a) (wipeE ρ (own.map (·.2)))) ifs (p a)) (he : ∀ a ∈ l, p a = true → Bv k X scope (setE T (f a) (wipeE ρ (own.map (·.2)))) elt (g a)) (q : ∀ c, N (ρ.set i (.own false c (.lst ((l.filter p).map g))))) (hsw : swapsWith (.ListComp elt [⟨tg, it, ifs, 0⟩] scope pt) (some (.Name y py)) pos.line X.env = pure true) (hk : k ≠ .rd := by exact fun z => nomatch z)
    (hy : X.N[i]? = some y := by rfl) (hyl : X.env.scope.names.lookup y = some .local := by rfl) (hs : ∀ x, foldedSetIterable it X.env x = pure x := by intro _; rfl) : ExS X ρ (.Assign [.Name y py] (.ListComp elt [⟨tg, it, ifs, 0⟩] scope pt) pos) N R := .mk fun F σ H hyy E D w =>
  wS.of (ps_setLc (own := own) hc hN hy hyl hsw pi_w ok (fun s H C cl fp => hT s H C cl fp) (fun s H C cl fp => ⟨fun pins s' σ' H' Q' I h => h s H C cl fp pins s' I⟩) (fun s H C cl fp => ⟨fun pins s' σ' H' Q' I h => h s H C cl fp pins s' I⟩) hs)
    (lc_go E (fun R r => hi F σ H E R fun J H1 s wk => r J H1 s wk.zero) hf hown ht he hk fun v H1 s1 r1 => by
      obtain ⟨c, E1⟩ := E.putNew s1 r1 i
      exact w.1 _ _ _ E1 (q c))
end
end TR
/-! ## C9 -/
set_option Elab.async false
set_option linter.all false
set_option maxRecDepth 100000
namespace TR
open PySem L2 PySem.Spec PyProof.Rows
/-! ### dicts with tuple keys, made at once -/
section
variable {κ : Type} [DecidableEq κ]
theorem stored_new : ∀ (ps xs : List (κ × Addr × Value)), ((xs ++ ps).map (·.1)).Nodup → storedAllH xs ps = xs ++ ps
  | [], xs, _ => (List.append_nil xs).symm
  | p :: ps, xs, h => by
    have no : atKey xs p.1 = none := by
      cases q : atKey xs p.1 with
      | none => rfl
      | some v =>
        exfalso
        unfold atKey at q
        obtain ⟨y, hy, _⟩ := Option.map_eq_some_iff.mp q
        have e1 : y.1 = p.1 := by simpa using List.find?_some hy
        have m1 := List.mem_of_find?_eq_some hy
        rw [List.map_append, List.map_cons, List.nodup_append] at h
        exact h.2.2 y.1 (List.mem_map.mpr ⟨y, m1, rfl⟩) p.1 List.mem_cons_self e1
    show storedAllH (storedH xs p.1 p.2.1 p.2.2) ps = _
    rw [storedH_new no, stored_new ps (xs ++ [p]) (by rw [List.append_assoc]; exact h), List.append_assoc]
    rfl
end
/-- one pair: its own address, the key, the key's address, the value -/
abbrev Pr := Addr × List Int × Addr × V
abbrev Pr.key (q : Pr) : List Key := q.2.1.map Sum.inl
def PrAt (H : Hp) (q : Pr) : Prop := H q.1 = some (.tup [.ref q.2.2.1, q.2.2.2]) ∧ H q.2.2.1 = some (.tup ((Pr.key q).map kV))
def rDictN (H0 : Unit) : List V → Hp → VK → Prop := fun xs H Q => ∃ (a : Addr) (qs : List Pr), xs = [.ref a] ∧ (H a = some (.lst (qs.map fun q => .ref q.1)) ∨ ∃ o, H a = some (.frz o (.tup (qs.map fun q => .ref q.1))) ∧ o.dict = none) ∧ (∀ q ∈ qs, PrAt H q) ∧ (qs.map Pr.key).Nodup ∧
  ∀ p, H p = none → Q (.ref p) (upd H p (.dT (qs.map fun q => (Pr.key q, q.2.2.2))))
section
variable {X : Cx} {pins : List (Addr × Obj)} {σ : L2.St} {H : Hp} {s : Shared}
theorem prs_back (I : Inv X pins σ H s) : ∀ {qs : List Pr}, (∀ q ∈ qs, PrAt H q) → ∃ us : List Value, us.length = qs.length ∧ Paired (fun (q : Pr) u => RelV q.2.2.2 u ∧ PairAt s.heap q.1 (.ref q.2.2.1) u) qs us
  | [], _ => ⟨[], rfl, .nil⟩
  | q :: qs, h => by
    obtain ⟨us, hl, hp⟩ := prs_back I (qs := qs) fun r hr => h r (List.mem_cons_of_mem _ hr)
    obtain ⟨_, its, rv, o, ho, hc, n, hd⟩ := I.hok _ _ (h q List.mem_cons_self).1
    obtain ⟨u1, u2, rfl, r1, r2⟩ := vals2 rv
    cases r1
    exact ⟨u2 :: us, congrArg Nat.succ hl, .cons ⟨r2, .inl ⟨o, ho, hc, n, hd⟩⟩ hp⟩
theorem paired_at {α β : Type} {F : α → β → Prop} : ∀ {l : List α} {m : List β}, Paired F l m → ∀ (i : Nat) b, m[i]? = some b → ∃ a, l[i]? = some a ∧ F a b
  | _, _, .nil, i, b, e => by simp at e
  | _, _, .cons h t, 0, b, e => ⟨_, rfl, by cases e; exact h⟩
  | _, _, .cons h t, i + 1, b, e => paired_at t i b e
abbrev mkPs (qs : List Pr) (us : List Value) : List (List Key × Addr × Value) := (qs.zip us).map fun x => (Pr.key x.1, x.1.2.2.1, x.2)
theorem mk_kt {F : Pr → Value → Prop} {H2 : Hp} : ∀ {qs : List Pr} {us : List Value}, Paired F qs us → (∀ q u, F q u → RelV q.2.2.2 u) → (∀ q ∈ qs, H2 q.2.2.1 = some (.tup ((Pr.key q).map kV))) → KT H2 (qs.map fun q => (Pr.key q, q.2.2.2)) (mkPs qs us)
  | _, _, .nil, _, _ => .nil
  | _, _, .cons h t, f, k => .cons ⟨rfl, k _ List.mem_cons_self, f _ _ h⟩ (mk_kt t f fun q hq => k q (List.mem_cons_of_mem _ hq))
theorem mk_keys {F : Pr → Value → Prop} : ∀ {qs : List Pr} {us : List Value}, Paired F qs us → (mkPs qs us).map (·.1) = qs.map Pr.key
  | _, _, .nil => rfl
  | _, _, .cons h t => congrArg _ (mk_keys t)
theorem mk_len {F : Pr → Value → Prop} {qs : List Pr} {us : List Value} (h : Paired F qs us) : (mkPs qs us).length = qs.length := by
  have := congrArg List.length (mk_keys h)
  simpa using this
theorem mk_at {F : Pr → Value → Prop} : ∀ {qs : List Pr} {us : List Value}, Paired F qs us → ∀ (i : Nat) q, qs[i]? = some q → ∃ u, us[i]? = some u ∧ F q u ∧ (mkPs qs us)[i]? = some (Pr.key q, q.2.2.1, u)
  | _, _, .nil, i, q, e => by simp at e
  | _, _, .cons h t, 0, q, e => ⟨_, rfl, by cases e; exact h, by cases e; rfl⟩
  | _, _, .cons h t, i + 1, q, e => mk_at t i q e
theorem keys_stay (I : Inv X pins σ H s) {F : Pr → Value → Prop} {qs : List Pr} {us : List Value} (hp : Paired F qs us) (k : ∀ q ∈ qs, H q.2.2.1 = some (.tup ((Pr.key q).map kV))) {wr : List Addr} (hw : ∀ b ∈ wr, s.heap.objs.size ≤ b) {h0 : Heap} {d : Addr} (hd : s.heap.objs.size ≤ d) (k0 : ∀ b o, s.heap.get? b = some o → h0.get? b = some o) : KeysStay (tupleKind (mixKind X.prog X.w)) h0 d wr (mkPs qs us) := by
  intro h' kp x hx
  obtain ⟨i, hi, e⟩ := List.getElem_of_mem hx
  have hq : i < qs.length := by rw [← mk_len hp]; exact hi
  obtain ⟨u, _, _, e2⟩ := mk_at hp i _ (List.getElem?_eq_getElem hq)
  rw [List.getElem?_eq_getElem hi, e] at e2
  obtain rfl := Option.some.inj e2
  obtain ⟨o, its, n, ho, r⟩ := key_of I.hok (k _ (List.getElem_mem hq))
  have lt := Heap.lt_size ho
  exact ⟨o, its, n, kp _ o (Nat.ne_of_lt (Nat.lt_of_lt_of_le lt hd)) (fun z => Nat.lt_irrefl _ (Nat.lt_of_lt_of_le lt (hw _ z))) (k0 _ _ ho), r⟩
/-- the new dict, laid -/
theorem laid_dT (I : Inv X pins σ H s) {F : Pr → Value → Prop} {qs : List Pr} {us : List Value} (hp : Paired F qs us) (f : ∀ q u, F q u → RelV q.2.2.2 u) (k : ∀ q ∈ qs, H q.2.2.1 = some (.tup ((Pr.key q).map kV))) (nd : (qs.map Pr.key).Nodup) (hz : qs.length ≤ sizeLine) {h2 : Heap} {tk : Nat} {d : Addr} (hd : s.heap.objs.size ≤ d)
    (dd : h2.DictOfH (tupleKind (mixKind X.prog X.w)) d (storedAllH [] (mkPs qs us))) (kp : ∀ b o, s.heap.get? b = some o → h2.get? b = some o) :
    Inv X pins σ (upd H d (.dT (qs.map fun q => (Pr.key q, q.2.2.2)))) { s with heap := h2, toks := tk } := by
  have nd2 : ((mkPs qs us).map (·.1)).Nodup := by rw [mk_keys hp]; exact nd
  rw [stored_new (mkPs qs us) [] (by simpa using nd2), List.nil_append] at dd
  obtain ⟨o, es, ep, ho, hx, hdd, he, _, hn⟩ := dd
  have hm : (d == sysModules) = false := beq_eq_false_iff_ne.mpr (Nat.ne_of_gt (Nat.lt_of_lt_of_le I.big hd))
  have fresh : H d = none := I.hok.fresh hd
  refine I.laid (t' := tk) kp hd (show ObjOk X.prog X.w _ _ _ (.dT _) from ⟨by rw [List.length_map]; exact hz, hm, mkPs qs us, mk_kt hp f fun q hq => ?_, o, es, ep, ho, hx, hdd, he, hn⟩)
  have e := k q hq
  rw [upd_ne (ne_of_none e fresh)]
  exact e
theorem cr_dictN (hc : X.calm = true) (hu : X.A.units + 64 < cLine) : CallR X (.type "dict") (rDictN ()) := by
  intro pins s σ H xs us Q I r h
  obtain ⟨a, qs, rfl, ha, hq, nd, q⟩ := h
  rw [Vals.ref1 r]
  obtain ⟨vs, hl, hp⟩ := prs_back I hq
  have fin : qs.length ≤ sizeLine → ∀ (h2 : Heap) (tk : Nat), h2.DictOfH (tupleKind (mixKind X.prog X.w)) s.heap.objs.size (storedAllH [] (mkPs qs vs)) → (∀ b o, b ∉ ([] : List Addr) → s.heap.get? b = some o → h2.get? b = some o) → ∃ x H', Inv X pins σ H' { s with heap := h2, toks := tk } ∧ RelV x (Value.ref s.heap.objs.size) ∧ Q x H' := fun hz h2 tk dd kp =>
    ⟨.ref s.heap.objs.size, _, laid_dT I hp (fun _ _ z => z.1) (fun q' hq' => (hq q' hq').2) nd hz (Nat.le_refl _) dd fun b o e => kp b o (fun z => nomatch z) e, rfl, q _ (I.hok.fresh (Nat.le_refl _))⟩
  have items : ∀ its : List Value, Vals (qs.map fun q => V.ref q.1) its → PairItems s.heap its.toArray (fun j => (qs.getD j (0, [], 0, .non)).1) ((qs.zip vs).map fun x => (Value.ref x.1.2.2.1, x.2)) := by
    intro its rv
    have ll := rv.length
    rw [List.length_map] at ll
    have lz : ((qs.zip vs).map fun x => (Value.ref x.1.2.2.1, x.2)).length = qs.length := by simp [hl]
    refine ⟨by rw [lz, ll]; simp, fun j k v e => ?_⟩
    have hj : j < qs.length := by rw [← lz]; exact (List.getElem?_eq_some_iff.mp e).1
    obtain ⟨u, hu1, hF, _⟩ := mk_at hp j _ (List.getElem?_eq_getElem hj)
    rw [List.getElem?_map, (List.getElem?_zip_eq_some (z := (qs[j], u))).mpr ⟨List.getElem?_eq_getElem hj, hu1⟩] at e
    obtain ⟨rfl, rfl⟩ := Prod.mk.inj (Option.some.inj e)
    have eT : (qs.getD j (0, [], 0, .non)).1 = qs[j].1 := by simp [List.getD, List.getElem?_eq_getElem hj]
    obtain ⟨y, hy, ry⟩ := rv.get (i := j) (x := .ref qs[j].1) (by rw [List.getElem?_map, List.getElem?_eq_getElem hj]; rfl)
    cases ry
    show its.toArray[j]? = some (Value.ref (qs.getD j (0, [], 0, .non)).1) ∧ PairAt s.heap (qs.getD j (0, [], 0, .non)).1 (Value.ref qs[j].2.2.1) u
    rw [eT]
    exact ⟨by simpa using hy, hF.2⟩
  have lens : ((qs.zip vs).map fun x => (Value.ref x.1.2.2.1, x.2)).length = qs.length := by simp [hl]
  have have_ : PairsHaveH (tupleKind (mixKind X.prog X.w)) ((qs.zip vs).map fun x => (Value.ref x.1.2.2.1, x.2)).length (PairRel ((qs.zip vs).map fun x => (Value.ref x.1.2.2.1, x.2))) (mkPs qs vs) := by
    refine ⟨by rw [mk_len hp, lens], fun i key v e => ?_⟩
    have e' : ((qs.zip vs).map fun x => (Value.ref x.1.2.2.1, x.2))[i]? = some (key, v) := e
    rw [List.getElem?_map] at e'
    obtain ⟨⟨q1, u1⟩, hz1, e3⟩ := Option.map_eq_some_iff.mp e'
    obtain ⟨rfl, rfl⟩ := Prod.mk.inj e3
    exact ⟨Pr.key q1, q1.2.2.1, by rw [List.getElem?_map, hz1]; rfl, rfl⟩
  have stay := keys_stay I hp (fun q' hq' => (hq q' hq').2) (wr := []) (fun _ z => nomatch z) (Nat.le_refl _) (fun _ _ e => e)
  have room : (tupleKind (mixKind X.prog X.w)).room X.A.in1.in1 := tupleKind_room_in1 (by show X.A.units + 1 + 1 < _; omega)
  rcases ha with ha | ⟨o, ha, hd⟩
  · obtain ⟨its, rv, pl, hz⟩ := I.list (SqL.of ha)
    rw [List.length_map] at hz
    obtain ⟨o, n, ho, hc', hd, hdat⟩ := pl
    exact call_dict_pairsH (PairArg.list a its.toArray _ _) (I.ok.hd hc) room ⟨⟨o, n, ho, hc', hd, hdat⟩, items its rv⟩ have_ stay (by rw [lens]; exact hz) (fin hz)
  · obtain ⟨ho, hz, its, rv, o2, ho2, hc', n, hdat⟩ := I.hok a _ ha
    rw [List.length_map] at hz
    obtain rfl : o2 = o := Option.some.inj (ho2.symm.trans ho)
    exact call_dict_pairsH (PairArg.tuple a its.toArray _ _) (I.ok.hd hc) room ⟨⟨o2, n, ho, hc', hd, hdat⟩, items its rv⟩ have_ stay (by rw [lens]; exact hz) (fin hz)
/-- tuple(list), told with its object -/
theorem cr_tupS : CallR X (.type "tuple") (fun xs H Q => ∃ p ys, xs = [.ref p] ∧ SqL X.K H p ys ∧ ∀ l o, H l = none → o.dict = none → Q (.ref l) (upd H l (.frz o (.tup ys)))) := by
  intro pins s σ H xs us Q I r h
  obtain ⟨p, ys, rfl, hq, q⟩ := h
  rw [Vals.ref1 r]
  obtain ⟨its, rv, pl, hz⟩ := I.list hq
  have hlen := rv.length
  refine call_tuple_list pl.isList (fun h' kp => ?_) (by simp only [List.size_toArray] <;> omega)
  have I1 : Inv X pins σ H { s with heap := h' } := I.kept (t' := s.toks) kp
  have I2 : Inv X pins σ (upd H h'.objs.size (.frz { cls := .type "tuple", data := .seq its.toArray } (.tup ys))) { s with heap := h'.push { cls := .type "tuple", data := .seq its.toArray } } :=
    I1.laid (t' := s.toks) (fun b o e => Heap.get?_push_of_some _ e) (Nat.le_refl _) ⟨Heap.get?_push_size _ rfl, (show ObjOk X.prog X.w _ _ _ (.tup ys) from ⟨hz, its, rv, IsTup.new _ _⟩)⟩
  exact ⟨.ref h'.objs.size, _, I2, rfl, q _ _ (I1.hok.fresh (Nat.le_refl _)) rfl⟩
theorem pe_tup0S {x1 : Nat} {pos : Pos} : PE X (.Tuple [] x1 pos) (fun _ H Q => ∀ l o, H l = none → o.dict = none → Q (.ref l) (upd H l (.frz o (.tup [])))) := by
  refine ⟨fun pins s σ H Q I hq => ?_⟩
  refine wpAny_Tuple_spliced (thn ((pa_nil (X := X)).run pos pins s σ H (fun vs H1 => vs = [] ∧ H1 = H) I ⟨rfl, rfl⟩) fun us s1 ⟨xs, H1, I1, r, e1, e2⟩ => ?_)
  subst e1 e2
  cases r
  have fresh : H1 s1.heap.objs.size = none := I1.hok.fresh (Nat.le_refl _)
  exact ⟨Nat.zero_le _, .ref s1.heap.objs.size, upd H1 s1.heap.objs.size (.frz { cls := .type "tuple", data := .seq #[] } (.tup [])), I1.laid (t' := s1.toks) (fun b u e => Heap.get?_push_of_some _ e) (Nat.le_refl _) ⟨Heap.get?_push_size _ rfl, Nat.zero_le _, [], .nil, ⟨_, Heap.get?_push_size _ rfl, rfl, _, rfl⟩⟩, rfl, hq _ _ fresh rfl⟩
end
end TR
/-! ## C10 -/
set_option Elab.async false
set_option linter.all false
set_option maxRecDepth 100000
namespace TR
open PySem L2 PySem.Spec PyProof.Rows
/-! ### zip of two tuples as the argument of dict() -/
section
variable {prog : Program} {w : World} {A : Around} {E : Value → Shared → Prop} {s : Shared} {z TI TO T i1 i2 l1 l2 : Addr} {f : Bool} {oT : Obj} {k1 k2 : Nat} {xs ys : Array Value} {x y : Value}
theorem heldT_item {Q : Value → Shared → Prop} (D : ZipApart z TI TO i1 i2 l1 l2) (hz : IsZipHeld s.heap z TI TO T f) (hT : s.heap.get? T = some oT) (hp : IsPair s.heap TI (.ref i1) (.ref i2)) (a1 : s.heap.IsTupleIter i1 l1 k1) (a2 : s.heap.IsTupleIter i2 l2 k2) (b1 : s.heap.IsTuple l1 xs) (b2 : s.heap.IsTuple l2 ys)
    (ex : xs[k1]? = some x) (ey : ys[k2]? = some y) (fin : ∀ h', IsZipHeld h' z TI TO T true → h'.IsTupleIter i1 l1 (k1 + 1) → h'.IsTupleIter i2 l2 (k2 + 1) → IsPair h' s.heap.objs.size x y → (∀ c o, c ≠ z → c ≠ i1 → c ≠ i2 → s.heap.get? c = some o → h'.get? c = some o) → Q (.ref s.heap.objs.size) { s with heap := h' }) :
    wpAny (model prog w) A (Builtin.«zip.__next__» ⟨[.ref z], []⟩) (fun fin s' => ∃ v, fin = .done (.ret v) ∧ Q v s') E s := by
  show wpAny _ _ (field (.ref z) 2 >>= _) _ _ _; refine wpAny_bind (wpAny_field hz rfl (x := .bool false) rfl ?_)
  show wpAny _ _ (field (.ref z) 3 >>= _) _ _ _; refine wpAny_bind (wpAny_field hz rfl (x := .ref TI) rfl (wpAny_bind (wpAny_seqItems hp rfl ?_)))
  show wpAny _ _ (Builtin.SmallTypes.ownedTupleIsFree (.ref z) >>= _) _ _ _; refine wpAny_bind (wpAny_tupleHeld_zip hz hT fun g1 c1 d1 => ?_)
  simp only [Bool.false_eq_true, if_false]; refine wpAny_bind ?_
  rw [← Array.forIn_toList]; simp only [List.forIn_cons, List.forIn_nil]
  refine wpAny_bind (wpAny_bind (wpAny_holding ?_)); show wpAny _ _ (Builtin.SmallTypes.nextOf (.ref i1) >>= _) _ _ _
  refine wpAny_bind (RZ.nextOf_tuple_item (s := { s with heap := g1 }) (a1.at fun o e => d1.extBut _ _ D.i1z e) (b1.at fun o e => d1.extBut _ _ D.l1z e) ex fun g2 c2 d2 => wpAny_pure (wpAny_pure ?_))
  refine wpAny_bind (wpAny_bind (wpAny_holding ?_)); show wpAny _ _ (Builtin.SmallTypes.nextOf (.ref i2) >>= _) _ _ _
  refine wpAny_bind (RZ.nextOf_tuple_item (s := { s with heap := g2 }) (a2.at fun o e => d2.extBut _ _ D.i12.symm (d1.extBut _ _ D.i2z e)) (b2.at fun o e => d2.extBut _ _ D.l2i1 (d1.extBut _ _ D.l2z e)) ey fun g3 c3 d3 => wpAny_pure (wpAny_pure (wpAny_pure ?_)))
  show wpAny _ _ (newTuple [x, y] >>= _) _ _ _; refine wpAny_bind (wpAny_newTuple ?_)
  have n3 : g3.objs.size = s.heap.objs.size := by rw [d3.1, d2.1, d1.1]
  have keep : ∀ c o, c ≠ z → c ≠ i1 → c ≠ i2 → s.heap.get? c = some o → g3.get? c = some o := fun c o q1 q2 q3 e => d3.extBut _ _ q3 (d2.extBut _ _ q2 (d1.extBut _ _ q1 e))
  have top : IsPair (g3.push { cls := .type "tuple", data := .seq #[x, y] }) g3.objs.size x y := Heap.get?_push_size _ rfl
  refine wpAny_pure ⟨_, rfl, ?_⟩
  show Q (.ref g3.objs.size) _
  rw [n3] at top ⊢
  exact fin _ (Heap.get?_push_of_some _ (d3.extBut _ _ D.i2z.symm (d2.extBut _ _ D.i1z.symm c1))) (c2.at fun o e => Heap.get?_push_of_some _ (d3.extBut _ _ D.i12 e)) (c3.at fun o e => Heap.get?_push_of_some _ e) top fun c o q1 q2 q3 e => Heap.get?_push_of_some _ (keep c o q1 q2 q3 e)
theorem heldT_end {Q : Fin → Shared → Prop} (hh : A.handled = none) (D : ZipApart z TI TO i1 i2 l1 l2) (hz : IsZipHeld s.heap z TI TO T f) (hT : s.heap.get? T = some oT) (hp : IsPair s.heap TI (.ref i1) (.ref i2)) (a1 : s.heap.IsTupleIter i1 l1 k1) (a2 : s.heap.IsTupleIter i2 l2 k2) (b1 : s.heap.IsTuple l1 xs) (b2 : s.heap.IsTuple l2 ys)
    (hend : xs[k1]? = none ∨ ys[k2]? = none) (fin : ∀ h' e, (∀ c o, c ≠ z → c ≠ i1 → c ≠ i2 → s.heap.get? c = some o → h'.get? c = some o) → (∃ o, h'.get? e = some o ∧ o.cls = .type "StopIteration") → E (.ref e) { s with heap := h' }) :
    wpAny (model prog w) A (Builtin.«zip.__next__» ⟨[.ref z], []⟩) Q E s := by
  show wpAny _ _ (field (.ref z) 2 >>= _) _ _ _; refine wpAny_bind (wpAny_field hz rfl (x := .bool false) rfl ?_)
  show wpAny _ _ (field (.ref z) 3 >>= _) _ _ _; refine wpAny_bind (wpAny_field hz rfl (x := .ref TI) rfl (wpAny_bind (wpAny_seqItems hp rfl ?_)))
  show wpAny _ _ (Builtin.SmallTypes.ownedTupleIsFree (.ref z) >>= _) _ _ _; refine wpAny_bind (wpAny_tupleHeld_zip hz hT fun g1 c1 d1 => ?_)
  simp only [Bool.false_eq_true, if_false]; refine wpAny_bind ?_
  rw [← Array.forIn_toList]; simp only [List.forIn_cons, List.forIn_nil]
  refine wpAny_bind (wpAny_bind (wpAny_holding ?_)); show wpAny _ _ (Builtin.SmallTypes.nextOf (.ref i1) >>= _) _ _ _
  cases ex : xs[k1]? with
  | none => exact wpAny_bind (RZ.nextOf_tuple_end (s := { s with heap := g1 }) hh (a1.at fun o e => d1.extBut _ _ D.i1z e) (b1.at fun o e => d1.extBut _ _ D.l1z e) ex fun g2 e d2 he => fin g2 e (fun c o q1 q2 _ u => d2 _ _ q2 (d1.extBut _ _ q1 u)) he)
  | some x =>
    have ey : ys[k2]? = none := hend.elim (fun z => by rw [ex] at z; cases z) id
    refine wpAny_bind (RZ.nextOf_tuple_item (s := { s with heap := g1 }) (a1.at fun o e => d1.extBut _ _ D.i1z e) (b1.at fun o e => d1.extBut _ _ D.l1z e) ex fun g2 c2 d2 => wpAny_pure (wpAny_pure ?_))
    refine wpAny_bind (wpAny_bind (wpAny_holding ?_)); show wpAny _ _ (Builtin.SmallTypes.nextOf (.ref i2) >>= _) _ _ _
    exact wpAny_bind (RZ.nextOf_tuple_end (s := { s with heap := g2 }) hh (a2.at fun o e => d2.extBut _ _ D.i12.symm (d1.extBut _ _ D.i2z e)) (b2.at fun o e => d2.extBut _ _ D.l2i1 (d1.extBut _ _ D.l2z e)) ey fun g3 e d3 he => fin g3 e (fun c o q1 q2 q3 u => d3 _ _ q3 (d2.extBut _ _ q2 (d1.extBut _ _ q1 u))) he)
theorem nextT_item {Q : Option Value → Shared → Prop} (D : ZipApart z TI TO i1 i2 l1 l2) (hz : IsZipHeld s.heap z TI TO T f) (hT : s.heap.get? T = some oT) (hp : IsPair s.heap TI (.ref i1) (.ref i2)) (a1 : s.heap.IsTupleIter i1 l1 k1) (a2 : s.heap.IsTupleIter i2 l2 k2) (b1 : s.heap.IsTuple l1 xs) (b2 : s.heap.IsTuple l2 ys)
    (ex : xs[k1]? = some x) (ey : ys[k2]? = some y) (fin : ∀ h', IsZipHeld h' z TI TO T true → h'.IsTupleIter i1 l1 (k1 + 1) → h'.IsTupleIter i2 l2 (k2 + 1) → IsPair h' s.heap.objs.size x y → (∀ c o, c ≠ z → c ≠ i1 → c ≠ i2 → s.heap.get? c = some o → h'.get? c = some o) → Q (some (.ref s.heap.objs.size)) { s with heap := h' }) :
    wpAny (model prog w) A (pyNext (.ref z)) Q E s := by
  have ty : s.TypeIs (.ref z) "zip" := ⟨_, hz, rfl⟩
  unfold pyNext
  exact wpAny_bind (wpAny_attempt (wpAny_callSpecial?_slot (name := Str.ofString "__next__") ty F.slot_zip_next (wpAny_call_entry F.slot_zip_next ty F.entry_zip_next (heldT_item D hz hT hp a1 a2 b1 b2 ex ey fun h' q1 q2 q3 q4 q5 => wpAny_pure (fin h' q1 q2 q3 q4 q5)) (F.args_zip_next_1 _))))
theorem nextT_end {Q : Option Value → Shared → Prop} (hh : A.handled = none) (D : ZipApart z TI TO i1 i2 l1 l2) (hz : IsZipHeld s.heap z TI TO T f) (hT : s.heap.get? T = some oT) (hp : IsPair s.heap TI (.ref i1) (.ref i2)) (a1 : s.heap.IsTupleIter i1 l1 k1) (a2 : s.heap.IsTupleIter i2 l2 k2) (b1 : s.heap.IsTuple l1 xs) (b2 : s.heap.IsTuple l2 ys)
    (hend : xs[k1]? = none ∨ ys[k2]? = none) (fin : ∀ h', (∀ c o, c ≠ z → c ≠ i1 → c ≠ i2 → s.heap.get? c = some o → h'.get? c = some o) → Q none { s with heap := h' }) : wpAny (model prog w) A (pyNext (.ref z)) Q E s := by
  have ty : s.TypeIs (.ref z) "zip" := ⟨_, hz, rfl⟩
  unfold pyNext
  refine wpAny_bind (wpAny_attempt (wpAny_callSpecial?_slot (name := Str.ofString "__next__") ty F.slot_zip_next (wpAny_call_entry F.slot_zip_next ty F.entry_zip_next (heldT_end hh D hz hT hp a1 a2 b1 b2 hend fun h' e q ⟨o, ho, hc⟩ => ?_) (F.args_zip_next_1 _))))
  exact wpAny_bind (wpAny_isInstance (T := "StopIteration") (b := true) ⟨o, ho, hc⟩ isSubtype_stop (wpAny_pure (fin _ q)))
end
abbrev zipFp (z TI TO i1 i2 l1 l2 : Addr) : List Addr := [z, TI, TO, i1, i2, l1, l2]
abbrev ZipOK (z TI TO i1 i2 l1 l2 : Addr) (xs ys : Array Value) (h : Heap) : Prop := IsZip h z TI TO .none ∧ IsPair h TI (.ref i1) (.ref i2) ∧ (∃ a b, IsPair h TO a b) ∧ h.IsTupleIter i1 l1 0 ∧ h.IsTupleIter i2 l2 0 ∧ h.IsTuple l1 xs ∧ h.IsTuple l2 ys
abbrev ZipSt (d z TI TO i1 i2 l1 l2 : Addr) (xs ys : Array Value) (i : Nat) (h : Heap) : Prop := IsPair h TI (.ref i1) (.ref i2) ∧ h.IsTupleIter i1 l1 i ∧ h.IsTupleIter i2 l2 i ∧ h.IsTuple l1 xs ∧ h.IsTuple l2 ys ∧
  ((IsZip h z TI TO .none ∧ ∃ a b, IsPair h TO a b) ∨ ∃ T f oT, IsZipHeld h z TI TO T f ∧ h.get? T = some oT ∧ T ≠ z ∧ T ≠ i1 ∧ T ≠ i2 ∧ T ≠ d)
theorem four_notin {c z TO i1 i2 : Addr} (h : c ∉ [z, TO, i1, i2]) : c ≠ z ∧ c ≠ TO ∧ c ≠ i1 ∧ c ≠ i2 := by simpa using h
theorem zip_src {prog : Program} {w : World} {A : Around} {d z TI TO i1 i2 l1 l2 : Addr} (hA : A.handled = none) (D : ZipApart z TI TO i1 i2 l1 l2) (xs ys : Array Value) (dz : d ≠ z) (dI : d ≠ TI) (dO : d ≠ TO) (d1 : d ≠ i1) (d2 : d ≠ i2) (e1 : d ≠ l1) (e2 : d ≠ l2) :
    PairSrc prog w A z d [z, TO, i1, i2] (min xs.size ys.size) (fun i k v => xs[i]? = some k ∧ ys[i]? = some v) (ZipSt d z TI TO i1 i2 l1 l2 xs ys) where
  off := by simp [dz, dO, d1, d2]
  frame := fun i h g ⟨p, a1, a2, b1, b2, u⟩ kp => by
    refine ⟨kp _ _ dI.symm p, a1.at fun o e => kp _ o d1.symm e, a2.at fun o e => kp _ o d2.symm e, b1.at fun o e => kp _ o e1.symm e, b2.at fun o e => kp _ o e2.symm e, u.imp (fun ⟨q, a, b, r⟩ => ⟨kp _ _ dz.symm q, a, b, kp _ _ dO.symm r⟩) ?_⟩
    exact fun ⟨T, f, oT, q, r, n⟩ => ⟨T, f, oT, kp _ _ dz.symm q, kp _ _ n.2.2.2 r, n⟩
  item := fun i s Q E hi ⟨p, a1, a2, b1, b2, u⟩ hd fin => by
    have ex := Array.getElem?_eq_getElem (xs := xs) (i := i) (by omega)
    have ey := Array.getElem?_eq_getElem (xs := ys) (i := i) (by omega)
    have gt : ∀ {c o}, s.heap.get? c = some o → s.heap.objs.size ≠ c := fun e => Nat.ne_of_gt (Heap.lt_size e)
    have m1 : s.heap.objs.size ≠ i1 := a1.elim fun _ q => gt q.1
    have m2 : s.heap.objs.size ≠ i2 := a2.elim fun _ q => gt q.1
    have m3 : s.heap.objs.size ≠ d := Nat.ne_of_gt hd
    rcases u with ⟨q, a, b, r⟩ | ⟨T, f, oT, q, r, n1, n2, n3, n4⟩
    · refine RZ.pyNext_zipT_item D q p r a1 a2 b1 b2 ex ey fun g c1 c2 c3 c4 c5 c6 kp => ?_
      exact fin _ _ _ g s.toks ⟨ex, ey⟩ (.inl ⟨_, c5, rfl, _, rfl⟩) ⟨kp _ _ D.TIz D.TITO D.TIi1 D.TIi2 p, c3, c4, b1.at fun o e => kp _ o D.l1z D.l1TO D.l1i1 D.l1i2 e, b2.at fun o e => kp _ o D.l2z D.l2TO D.l2i1 D.l2i2 e, .inr ⟨_, false, _, c1, c5, gt q, m1, m2, m3⟩⟩ fun c o hc e => (four_notin hc).elim fun q1 q => kp c o q1 q.1 q.2.1 q.2.2 e
    · refine nextT_item D q r p a1 a2 b1 b2 ex ey fun g c1 c3 c4 c5 kp => ?_
      exact fin _ _ _ g s.toks ⟨ex, ey⟩ (.inl ⟨_, c5, rfl, _, rfl⟩) ⟨kp _ _ D.TIz D.TIi1 D.TIi2 p, c3, c4, b1.at fun o e => kp _ o D.l1z D.l1i1 D.l1i2 e, b2.at fun o e => kp _ o D.l2z D.l2i1 D.l2i2 e, .inr ⟨T, true, oT, c1, kp _ _ n1 n2 n3 r, n1, n2, n3, n4⟩⟩ fun c o hc e => (four_notin hc).elim fun q1 q => kp c o q1 q.2.1 q.2.2 e
  done := fun s Q E ⟨p, a1, a2, b1, b2, u⟩ fin => by
    have hend : xs[min xs.size ys.size]? = none ∨ ys[min xs.size ys.size]? = none := (Nat.le_total xs.size ys.size).imp (fun h => Array.getElem?_eq_none (by omega)) fun h => Array.getElem?_eq_none (by omega)
    rcases u with ⟨q, a, b, r⟩ | ⟨T, f, oT, q, r, n⟩
    · exact RZ.pyNext_zipT_end hA D q p r a1 a2 b1 b2 hend fun g kp => fin g s.toks fun c o hc e => (four_notin hc).elim fun q1 q => kp c o q1 q.1 q.2.1 q.2.2 e
    · exact nextT_end hA D q r p a1 a2 b1 b2 hend fun g kp => fin g s.toks fun c o hc e => (four_notin hc).elim fun q1 q => kp c o q1 q.2.1 q.2.2 e
theorem zip_arg {prog : Program} {w : World} (z TI TO i1 i2 l1 l2 : Addr) (D : ZipApart z TI TO i1 i2 l1 l2) (xs ys : Array Value) :
    PairArg prog w "zip" z (zipFp z TI TO i1 i2 l1 l2) [z, TO, i1, i2] (min xs.size ys.size) (fun i k v => xs[i]? = some k ∧ ys[i]? = some v) (ZipOK z TI TO i1 i2 l1 l2 xs ys) where
  type := fun s ok => ⟨_, ok.1, rfl⟩
  notDict := rfl
  keep := fun h g ⟨q, p, ⟨a, b, r⟩, a1, a2, b1, b2⟩ kp => ⟨kp _ _ q, kp _ _ p, ⟨a, b, kp _ _ r⟩, a1.at fun o => kp _ o, a2.at fun o => kp _ o, b1.at fun o => kp _ o, b2.at fun o => kp _ o⟩
  there := fun h ⟨q, p, ⟨a, b, r⟩, ⟨o1, a1, _⟩, ⟨o2, a2, _⟩, ⟨o3, b1, _⟩, ⟨o4, b2, _⟩⟩ c hc => by
    simp only [List.mem_cons, List.not_mem_nil, or_false] at hc
    rcases hc with rfl | rfl | rfl | rfl | rfl | rfl | rfl <;> exact ⟨_, by assumption⟩
  sub := fun c hc => by
    simp only [List.mem_cons, List.not_mem_nil, or_false] at hc ⊢
    rcases hc with rfl | rfl | rfl | rfl <;> simp
  noKeys := fun A s Q E hA ok => getAttrOr_miss_zip ok.1 rfl rfl rfl zip_no_keys (by decide +kernel) hA
  iter := fun A s d Q E hA ⟨q, p, ⟨a, b, r⟩, a1, a2, b1, b2⟩ hd hdf fin => by
    simp only [List.mem_cons, List.not_mem_nil, or_false, not_or] at hdf
    obtain ⟨n1, n2, n3, n4, n5, n6, n7⟩ := hdf
    exact wpAny_pyIter_zip q (fin z [z, TO, i1, i2] _ s.heap s.toks (zip_src hA D xs ys n1 n2 n3 n4 n5 n6 n7) ⟨p, a1, a2, b1, b2, .inl ⟨q, a, b, r⟩⟩ (fun _ _ e => e) fun _ => .inl)
end TR
/-! ## C11 -/
set_option Elab.async false
set_option linter.all false
set_option maxRecDepth 100000
namespace TR
open PySem L2 PySem.Spec PyProof.Rows
section
variable {X : Cx} {ρ : En} {e a b tg it : Expr} {d : D} {k k1 k2 : Kd} {pos p p1 p2 pp q : Pos} {l l2 : List D}
/-! strong tuples -/
theorem e_tupleOfS (hm : X.mg "tuple" = none) (ha : Ev k X ρ a (.lst l)) (hg : Gl X "tuple" := by rfl) (h1 : starEach [a] X.env = (false, eval a X.env) :: starEach [] X.env := by rfl) : Ev .st X ρ (.Call (.Name "tuple" p) [a] [] pos) (.stp l) :=
  e_callTy (cr_tupS (X := X)) hm PyProof.Rows.boot_tuple (a_cons ha a_nil (fun z => nomatch z) h1) (fun Z H vs hz r Q q => by
    obtain ⟨v, rfl, r1⟩ := r.one
    obtain ⟨a, xs, rfl, e1, t⟩ := r1.lst
    exact ⟨a, xs, rfl, SqL.of e1, fun l o hl hd => q _ _ (Same.new hl) (.stp (fun z => hz _ z hl) upd_same hd (t.same (Same.new hl)))⟩) hg (by decide) (by decide) h1 rfl
theorem e_tup0S {x1 : Nat} : Ev .st X ρ (.Tuple [] x1 pos) (.stp []) := .mk fun F σ H E Q q =>
  wT.of pe_tup0S fun l o hl hd => q _ _ (Same.new hl) (.stp (fun z => E.avd _ z hl) upd_same hd .nil)
theorem wk_stp {Z : Addr → Prop} {H : Hp} {c : Addr} {o : Obj} {xs : List V} {K : PySem.W.Frag} (hz : ¬ Z c) (e : H c = some (.frz o (.tup xs))) (t : Ats Z H xs l) (hs : xs.length ≤ sizeLine) : Wk (fun b => Z b ∨ H b = none) (Itt K c) l H := by
  refine ⟨by rw [← t.length]; exact hs, fun H' => H' c = some (.frz o (.tup xs)) ∧ Ats (fun b => Z b ∨ H b = none) H' xs l, ⟨e, t.move (fun b z => z) fun _ _ _ e => e⟩, fun H1 H2 ⟨g1, g2⟩ kp => ⟨kp c _ (fun z => z.elim hz fun n => by rw [e] at n; cases n) g1, g2.move (fun _ z => .inl z) kp⟩, ?_⟩
  rw [← t.length]
  exact (walk_tup (K := K) (a := c) (xs := xs)).mono (fun H' g => .inl (.inr ⟨o, g.1⟩)) fun i H' x H2 _ g y => by
    obtain ⟨rfl, y⟩ := y
    refine ⟨Same.refl _, fun Z' hz' _ => ?_⟩
    obtain ⟨d, e1, a1⟩ := g.2.get y
    exact ⟨d, e1, a1.weak hz'⟩
/-- the sizes that the heap knows, written tuples too -/
theorem szs_frz {pins : List (Addr × Obj)} {σ : L2.St} {H : Hp} {s : Shared} (I : Inv X pins σ H s) {c : Addr} {o : Obj} {xs : List V} (e : H c = some (.frz o (.tup xs))) : xs.length ≤ sizeLine := (show ObjOk X.prog X.w H s.heap c (.frz o (.tup xs)) from I.hok c _ e).2.1
theorem wI.infoF {tg it : Expr} {σ : L2.St} {H : Hp} {R : It → Hp → Prop} (h : wI X tg it σ H fun J H' => (∀ c o xs, H' c = some (.frz o (.tup xs)) → xs.length ≤ sizeLine) → R J H') : wI X tg it σ H R := fun pins s I =>
  thn (h pins s I) fun u s1 h1 => thn h1 fun itv s2 ⟨it, fp, tn, J, H', a, I', b, c, d, q⟩ => ⟨it, fp, tn, J, H', a, I', b, c, d, q fun _ _ _ e => szs_frz I' e⟩
theorem i_stp (ha : Ev k X ρ it (.stp l)) : EvI X ρ tg it l := .mk fun F σ H E R q =>
  wI.infoF (wI.of (pi_tup pe_w) (ha F σ H E _ fun v H1 s1 r1 => by
    obtain ⟨c, o, xs, rfl, n, e, _, t⟩ := r1.rdOf.stp
    exact ⟨_, rfl, ⟨_, .inl (.inr ⟨o, e⟩)⟩, fun sz => q _ H1 s1 (wk_stp n e t (sz _ _ _ e))⟩))
/-! dict(pairs) -/
abbrev prD (p : List Int × D) : D := .tup [tD p.1, p.2]
theorem At.pr {Z : Addr → Prop} {H : Hp} {v : V} {c : List Int × D} (h : At Z H v (prD c)) : ∃ q : Pr, v = .ref q.1 ∧ q.2.1 = c.1 ∧ PrAt H q ∧ At Z H q.2.2.2 c.2 := by
  cases h with
  | @tup a xs l _ e t =>
    cases t with
    | cons h1 t =>
      cases t with
      | cons h2 t =>
        cases t
        obtain ⟨b, rfl, eb⟩ := Rd.key (.inl h1)
        exact ⟨(a, c.1, b, _), rfl, rfl, ⟨e, eb⟩, h2⟩
theorem Ats.prs {Z : Addr → Prop} {H : Hp} : ∀ {xs : List V} {cs : List (List Int × D)}, Ats Z H xs (cs.map prD) → ∃ qs : List Pr, xs = qs.map (fun q => V.ref q.1) ∧ (∀ q ∈ qs, PrAt H q) ∧ qs.map (fun q => q.2.1) = cs.map (·.1) ∧ AtT Z H (qs.map fun q => (Pr.key q, q.2.2.2)) cs
  | _, [], .nil => ⟨[], rfl, by simp, rfl, .nil⟩
  | _, c :: cs, .cons h t => by
    obtain ⟨q, rfl, e1, q1, a1⟩ := h.pr
    obtain ⟨qs, rfl, q2, e2, a2⟩ := t.prs
    refine ⟨q :: qs, rfl, fun r hr => (List.mem_cons.mp hr).elim (fun e => e ▸ q1) (q2 r), by rw [List.map_cons, List.map_cons, e1, e2], ?_⟩
    obtain ⟨T, kk, b, v⟩ := q
    obtain rfl : kk = c.1 := e1
    exact .cons a1 a2
theorem nodup_inl {κ : Type} {qs : List Pr} {cs : List (List Int × κ)} (e : qs.map (fun q => q.2.1) = cs.map (·.1)) (nd : (cs.map (·.1)).Nodup) : (qs.map Pr.key).Nodup := by
  rw [← e] at nd
  have : qs.map Pr.key = (qs.map fun q => q.2.1).map (List.map Sum.inl) := by rw [List.map_map]; rfl
  rw [this]
  exact List.pairwise_map.mpr (nd.imp fun n z => n (inl_inj z))
inductive IsPs : D → List (List Int × D) → Prop
  | lst (cs : List (List Int × D)) : IsPs (.lst (cs.map prD)) cs
  | stp (cs : List (List Int × D)) : IsPs (.stp (cs.map prD)) cs
theorem AtT.newD {Z : Addr → Prop} {H : Hp} {xs : List (List Key × V)} {cs : List (List Int × D)} {pp : Addr} (h : AtT Z H xs cs) (hp : H pp = none) : Res .fr Z H (upd H pp (.dT xs)) (.ref pp) (.dT cs) :=
  ⟨pp, rfl, hp, xs, upd_same, h.move (fun b z => z.elim .inl fun e => .inr (by rw [e]; exact hp)) fun b u _ e => Same.new hp b u e⟩
theorem e_dictS {cs : List (List Int × D)} (hc : X.calm = true) (hu : X.A.units + 64 < cLine) (hm : X.mg "dict" = none) (ha : Ev k X ρ a d) (hs : IsPs d cs) (nd : (cs.map (·.1)).Nodup) (hg : Gl X "dict" := by rfl) (h1 : starEach [a] X.env = (false, eval a X.env) :: starEach [] X.env := by rfl) : Ev .fr X ρ (.Call (.Name "dict" p) [a] [] pos) (.dT cs) :=
  e_callTy (cr_dictN hc hu) hm PyProof.Rows.boot_dict (a_cons ha a_nil (fun z => nomatch z) h1) (fun Z H vs hz r Q q => by
    obtain ⟨v, rfl, r1⟩ := r.one
    cases hs with
    | lst =>
      obtain ⟨a, xs, rfl, e1, t⟩ := r1.lst
      obtain ⟨qs, rfl, q1, q2, q3⟩ := t.prs
      exact ⟨a, qs, rfl, .inl e1, q1, nodup_inl q2 nd, fun p hp => q _ _ (Same.new hp) (q3.newD hp)⟩
    | stp =>
      obtain ⟨a, o, xs, rfl, _, e1, e2, t⟩ := r1.stp
      obtain ⟨qs, rfl, q1, q2, q3⟩ := t.prs
      exact ⟨a, qs, rfl, .inr ⟨o, e1, e2⟩, q1, nodup_inl q2 nd, fun p hp => q _ _ (Same.new hp) (q3.newD hp)⟩) hg (by decide) (by decide) h1 rfl
/-! dict(zip(a, b)) -/
theorem Ats.keys {Z : Addr → Prop} {H : Hp} : ∀ {xs : List V} {ks : List (List Int)}, Ats Z H xs (ks.map tD) → ∃ bs : List Addr, xs = bs.map V.ref ∧ bs.length = ks.length ∧ ∀ (i : Nat) b k, bs[i]? = some b → ks[i]? = some k → H b = some (.tup ((k.map (Sum.inl : Int → Key)).map kV))
  | _, [], .nil => ⟨[], rfl, rfl, by simp⟩
  | _, c :: cs, .cons h t => by
    obtain ⟨b, rfl, eb⟩ := Rd.key (.inl h)
    obtain ⟨bs, rfl, hl, q⟩ := t.keys
    refine ⟨b :: bs, rfl, congrArg Nat.succ hl, fun i b' k' h1 h2 => ?_⟩
    cases i with
    | zero => cases h1; cases h2; exact eb
    | succ i => exact q i b' k' h1 h2
theorem paired_of {α β : Type} {F : α → β → Prop} : ∀ {l : List α} {m : List β}, l.length = m.length → (∀ (i : Nat) a b, l[i]? = some a → m[i]? = some b → F a b) → Paired F l m
  | [], [], _, _ => .nil
  | a :: l, b :: m, h, f => .cons (f 0 a b rfl rfl) (paired_of (by simpa using h) fun i a b => f (i + 1) a b)
  | [], _ :: _, h, _ => by simp at h
  | _ :: _, [], h, _ => by simp at h
theorem AtT.of {Z : Addr → Prop} {H : Hp} : ∀ {qs : List Pr} {cs : List (List Int × D)}, qs.length = cs.length → (∀ (i : Nat) q c, qs[i]? = some q → cs[i]? = some c → q.2.1 = c.1 ∧ At Z H q.2.2.2 c.2) → AtT Z H (qs.map fun q => (Pr.key q, q.2.2.2)) cs
  | [], [], _, _ => .nil
  | (T, kk, b, v) :: l, c :: m, h, f => by
    obtain ⟨e, a⟩ := f 0 _ c rfl rfl
    obtain rfl : kk = c.1 := e
    exact .cons a (AtT.of (by simpa using h) fun i a b => f (i + 1) a b)
  | [], _ :: _, h, _ => by simp at h
  | _ :: _, [], h, _ => by simp at h
theorem wT.raw {σ : L2.St} {H : Hp} {Q : VK} {e : Expr} (h : ∀ (pins : List (Addr × Obj)) (s : Shared), Inv X pins σ H s → wpAny (model X.prog X.w) X.A (eval e X.env) (EP X pins σ Q) X.xe s) : wT X e σ H Q := h
set_option maxHeartbeats 1000000 in
theorem e_dictZip {ks : List (List Int)} {vs : List D} (hc : X.calm = true) (hu : X.A.units + 64 < cLine) (hm : X.mg "dict" = none) (hm2 : X.mg "zip" = none) (ha : Ev k1 X ρ a (.tup (ks.map tD))) (hb : Ev k2 X ρ b (.tup vs)) (nd : ks.Nodup) (hg : Gl X "dict" := by rfl) (hg2 : Gl X "zip" := by rfl)
    (hs : starEach [a, b] X.env = (false, eval a X.env) :: starEach [b] X.env := by rfl) (hpl : (backTo q (starEach [b] X.env)).any (·.1) = false := by rfl) (hs3 : starEach [b] X.env = (false, eval b X.env) :: starEach [] X.env := by rfl)
    (na : starEach [.Call (.Name "zip" p2) [a, b] [] q] X.env = (false, eval (.Call (.Name "zip" p2) [a, b] [] q) X.env) :: starEach [] X.env := by rfl) :
    Ev .fr X ρ (.Call (.Name "dict" p) [.Call (.Name "zip" p2) [a, b] [] q] [] pos) (.dT (ks.zip vs)) := .mk fun F σ H E Q qq => wT.raw fun pins s I => by
  have args := a_cons (s := false) ha (a_cons (s := false) hb a_nil (fun z => nomatch z) hs3) (fun z => nomatch z) hs F σ H E (fun us H1 => Same H H1 ∧ ∃ x y, us = [x, y] ∧ Rd (Av F ρ) H1 x (.tup (ks.map tD)) ∧ Rd (Av F ρ) H1 y (.tup vs)) (fun us H1 s1 r1 => ⟨s1, by
    cases r1 with
    | cons r rr =>
      cases rr with
      | cons r' rr => cases rr; exact ⟨_, _, rfl, r, r'⟩⟩) q pins s I
  refine Call_ (ld_blt I hg hm PyProof.Rows.boot_dict ?_)
  refine PyProof.Rows.callWith_type1 (PyProof.Rows.args_cons ?_ na) na rfl
  refine Call_ (ld_blt I hg2 hm2 PyProof.Rows.boot_zip ?_)
  refine PyProof.Rows.callWith_type1 (thn args fun us s1 ⟨xs0, H1, I1, r1, same, x, y, e0, rx, ry⟩ => ?_) hs hpl
  subst e0
  obtain ⟨a1, xs, rfl, _, e1, t1⟩ := rx.tup
  obtain ⟨a2, ys, rfl, _, e2, t2⟩ := ry.tup
  cases r1 with
  | cons r r1 =>
    cases r1 with
    | cons r' r1 =>
      cases r1
      cases r
      cases r'
      obtain ⟨its, rv, p1, z1⟩ := I1.tuple (SqT.of e1)
      obtain ⟨its2, rv2, p2', z2⟩ := I1.tuple (SqT.of e2)
      obtain ⟨o1, ho1, _⟩ := id p1
      obtain ⟨o2, ho2, _⟩ := id p2'
      obtain ⟨bs, rfl, bl, bk⟩ := t1.keys
      have n1 := rv.length
      have n2 := rv2.length
      have n3 := t2.length
      rw [List.length_map] at n1
      refine RZ.call_zipT (show s1.heap.IsTuple a1 its.toArray from p1) (show s1.heap.IsTuple a2 its2.toArray from p2') fun h' hz hTI hTO h1 h2 hsz hk => PyProof.Rows.args_nil ?_
      have D := PySem.W.ktu_apart s1.heap.objs.size a1 a2 (Heap.lt_size ho1) (Heap.lt_size ho2)
      -- the pairs
      obtain ⟨qs, eqs⟩ : ∃ qs : List Pr, qs = (List.range (min ks.length vs.length)).map fun i => (0, ks.getD i [], bs.getD i 0, ys.getD i .non) := ⟨_, rfl⟩
      obtain ⟨us, eus⟩ : ∃ us : List Value, us = (List.range (min ks.length vs.length)).map fun i => its2.getD i .none := ⟨_, rfl⟩
      have ql : qs.length = min ks.length vs.length := by simp [eqs]
      have ul : us.length = min ks.length vs.length := by simp [eus]
      have qat : ∀ (i : Nat) (q : Pr), qs[i]? = some q → i < min ks.length vs.length ∧ q = (0, ks.getD i [], bs.getD i 0, ys.getD i .non) := fun i q h => by
        have hi : i < min ks.length vs.length := by rw [← ql]; exact (List.getElem?_eq_some_iff.mp h).1
        refine ⟨hi, ?_⟩
        have : qs[i]? = some (0, ks.getD i [], bs.getD i 0, ys.getD i .non) := by rw [eqs, List.getElem?_map, List.getElem?_range hi]; rfl
        rw [this] at h
        exact (Option.some.inj h).symm
      have key : ∀ q ∈ qs, H1 q.2.2.1 = some (.tup ((Pr.key q).map kV)) := fun q hq => by
        obtain ⟨i, hi, e⟩ := List.getElem_of_mem hq
        obtain ⟨hi2, rfl⟩ := qat i q (by rw [List.getElem?_eq_getElem hi, e])
        have hk1 : i < ks.length := by omega
        have hb1 : i < bs.length := by omega
        have g1 : ks.getD i [] = ks[i] := by simp [List.getD, List.getElem?_eq_getElem hk1]
        have g2 : bs.getD i 0 = bs[i] := by simp [List.getD, List.getElem?_eq_getElem hb1]
        show H1 (bs.getD i 0) = some (.tup (((ks.getD i []).map Sum.inl).map kV))
        rw [g1, g2]
        exact bk i _ _ (List.getElem?_eq_getElem hb1) (List.getElem?_eq_getElem hk1)
      have hp : Paired (fun (q : Pr) u => L2.RelV q.2.2.2 u) qs us := paired_of (by rw [ql, ul]) fun i q u hq hu => by
        obtain ⟨hi, rfl⟩ := qat i q hq
        have hu' : us[i]? = some (its2.getD i .none) := by rw [eus, List.getElem?_map, List.getElem?_range hi]; rfl
        rw [hu'] at hu
        obtain rfl := Option.some.inj hu
        have hy1 : i < ys.length := by omega
        have hy2 : i < its2.length := by omega
        obtain ⟨w, hw, rw'⟩ := rv2.get (List.getElem?_eq_getElem hy1)
        have g1 : ys.getD i .non = ys[i] := by simp [List.getD, List.getElem?_eq_getElem hy1]
        have g2 : its2.getD i .none = w := by simp [List.getD, hw]
        show L2.RelV (ys.getD i .non) (its2.getD i .none)
        rw [g1, g2]; exact rw'
      have keys : qs.map (fun q => q.2.1) = (ks.zip vs).map (·.1) := by
        apply List.ext_getElem?
        intro i
        rw [List.getElem?_map, List.getElem?_map]
        by_cases hi : i < min ks.length vs.length
        · have hq : qs[i]? = some (0, ks.getD i [], bs.getD i 0, ys.getD i .non) := by rw [eqs, List.getElem?_map, List.getElem?_range hi]; rfl
          have hk1 : i < ks.length := by omega
          have hv1 : i < vs.length := by omega
          have g1 : ks.getD i [] = ks[i] := by simp [List.getD, List.getElem?_eq_getElem hk1]
          rw [hq, (List.getElem?_zip_eq_some (z := (ks[i], vs[i]))).mpr ⟨List.getElem?_eq_getElem hk1, List.getElem?_eq_getElem hv1⟩]
          show some (ks.getD i []) = some ks[i]
          rw [g1]
        · rw [List.getElem?_eq_none (by rw [ql]; omega), List.getElem?_eq_none (by rw [List.length_zip]; omega)]; rfl
      have ndz : ((ks.zip vs).map (·.1)).Nodup := by
        have sub : ((ks.zip vs).map (·.1)).Sublist ks := by
          have e : (ks.zip vs).map (·.1) = ks.take (min ks.length vs.length) := by
            apply List.ext_getElem?
            intro i
            rw [List.getElem?_map, List.getElem?_take]
            by_cases hi : i < min ks.length vs.length
            · have hk1 : i < ks.length := by omega
              have hv1 : i < vs.length := by omega
              rw [if_pos hi, (List.getElem?_zip_eq_some (z := (ks[i], vs[i]))).mpr ⟨List.getElem?_eq_getElem hk1, List.getElem?_eq_getElem hv1⟩, List.getElem?_eq_getElem hk1]; rfl
            · rw [if_neg hi, List.getElem?_eq_none (by rw [List.length_zip]; omega)]; rfl
          rw [e]
          exact List.take_sublist _ _
        exact sub.nodup nd
      have vals : AtT (Av F ρ) H1 (qs.map fun q => (Pr.key q, q.2.2.2)) (ks.zip vs) := AtT.of (by rw [ql, List.length_zip]) fun i q c hq hc' => by
        obtain ⟨hi, rfl⟩ := qat i q hq
        obtain ⟨c1, c2⟩ := List.getElem?_zip_eq_some.mp hc'
        obtain ⟨v, ev, av⟩ := t2.get' c2
        have g1 : ks.getD i [] = c.1 := by simp [List.getD, c1]
        have g2 : ys.getD i .non = v := by simp [List.getD, ev]
        exact ⟨g1, by show At _ _ (ys.getD i .non) _; rw [g2]; exact av⟩
      have room : (tupleKind (mixKind X.prog X.w)).room X.A.in1.in1 := tupleKind_room_in1 (by show X.A.units + 1 + 1 < _; omega)
      have sizes : min its.toArray.size its2.toArray.size = min ks.length vs.length := by simp only [List.size_toArray]; omega
      have above : ∀ c ∈ [s1.heap.objs.size + 4, s1.heap.objs.size + 3, s1.heap.objs.size, s1.heap.objs.size + 1], s1.heap.objs.size ≤ c := by
        intro c hc'
        simp only [List.mem_cons, List.not_mem_nil, or_false] at hc'
        rcases hc' with rfl | rfl | rfl | rfl
        · exact Nat.le_add_right _ _
        · exact Nat.le_add_right _ _
        · exact Nat.le_refl _
        · exact Nat.le_add_right _ _
      have big : s1.heap.objs.size ≤ h'.objs.size := by rw [hsz]; exact Nat.le_add_right _ _
      refine call_dict_pairsH (s := { s1 with heap := h' }) (ps := mkPs qs us) (zip_arg (prog := X.prog) (w := X.w) _ _ _ _ _ a1 a2 D its.toArray its2.toArray) (I1.ok.hd hc) room ⟨hz, hTI, ⟨_, _, hTO⟩, h1, h2, Heap.IsTuple.at (show s1.heap.IsTuple a1 its.toArray from p1) (fun o e => hk _ o e), Heap.IsTuple.at (show s1.heap.IsTuple a2 its2.toArray from p2') (fun o e => hk _ o e)⟩ ⟨by rw [mk_len hp, ql, sizes], fun i key v ⟨h3, h4⟩ => ?_⟩ (keys_stay I1 hp key above big hk) (by rw [sizes]; omega) fun h2 tk dd kp => ?_
      · have hi : i < min ks.length vs.length := by
          have := (Array.getElem?_eq_some_iff.mp h3).1
          have := (Array.getElem?_eq_some_iff.mp h4).1
          rw [← sizes]; omega
        have hq : qs[i]? = some (0, ks.getD i [], bs.getD i 0, ys.getD i .non) := by rw [eqs, List.getElem?_map, List.getElem?_range hi]; rfl
        obtain ⟨u, hu1, _, hm1⟩ := mk_at hp i _ hq
        have hu' : us[i]? = some (its2.getD i .none) := by rw [eus, List.getElem?_map, List.getElem?_range hi]; rfl
        have ev : its2.getD i .none = v := by
          have : its2[i]? = some v := by simpa using h4
          simp [List.getD, this]
        rw [hu', ev] at hu1
        obtain rfl := Option.some.inj hu1
        have hb1 : i < bs.length := by omega
        obtain ⟨w, hw, rw'⟩ := rv.get (i := i) (x := .ref bs[i]) (by rw [List.getElem?_map, List.getElem?_eq_getElem hb1]; rfl)
        have : its[i]? = some key := by simpa using h3
        rw [this] at hw
        obtain rfl := Option.some.inj hw
        have g2 : bs.getD i 0 = bs[i] := by simp [List.getD, List.getElem?_eq_getElem hb1]
        refine ⟨_, _, hm1, ?_⟩
        show key = Value.ref (bs.getD i 0)
        rw [g2]
        exact rw'
      · have kp1 : ∀ b o, s1.heap.get? b = some o → h2.get? b = some o := fun b o e => kp b o (fun z => Nat.lt_irrefl _ (Nat.lt_of_lt_of_le (Heap.lt_size e) (above b z))) (hk b o e)
        have J := laid_dT (tk := tk) I1 hp (fun _ _ z => z) key (nodup_inl keys ndz) (by rw [ql]; omega) big dd kp1
        have fresh : H1 h'.objs.size = none := I1.hok.fresh big
        exact ⟨.ref h'.objs.size, _, J, rfl, qq _ _ (same.trans (Same.new fresh)) ((vals.newD fresh).back same)⟩
end
end TR
/-! ## C12 -/
set_option Elab.async false
set_option linter.all false
set_option maxRecDepth 100000
namespace TR
open PySem L2 PySem.Spec PyProof.Rows
/-! ### {k: v for .. in ..} with tuples as keys -/
theorem dT_empty {P : Program} {w : World} {H : Hp} (h : Heap) (big : sysModules < h.objs.size) : ObjOk P w H (h.push { cls := .type "dict", data := .dict #[] }) h.objs.size (.dT []) :=
  ⟨Nat.zero_le _, beq_eq_false_iff_ne.mpr (Nat.ne_of_gt big), [], .nil, let ⟨o, es, ep, a, b, c, d, _, n⟩ := Heap.DictOfH.new (knd := tupleKind (mixKind P w)) h; ⟨o, es, ep, a, b, c, d, n⟩⟩
theorem t_dictSet {X : Cx} {pins : List (Addr × Obj)} {σ : L2.St} {H : Hp} {s : Shared} {E : Value → Shared → Prop} {dd b : Addr} {kvs : List (List Key × V)} {k : List Key} {v : V} {u r : Value} {Q : Unit → Shared → Prop} (hu : X.A.units + 1 < cLine) (I : Inv X pins σ H s) (hD : H dd = some (.dT kvs)) (hb : H b = some (.tup (k.map kV))) (few : kvs.length < sizeLine)
    (ry : L2.RelV (.ref b) u) (rv : L2.RelV v r) (fin : ∀ s', Inv X pins σ (upd H dd (.dT (putK kvs k v))) s' → Q () s') : wpAny (model X.prog X.w) X.A (dictSet dd u r) Q E s := by
  cases (show u = Value.ref b from ry)
  obtain ⟨z, sys, xs, rel, at_⟩ := dt_of I.hok hD
  have n1 : xs.length ≤ sizeLine := by rw [← Paired.length rel]; exact z
  have n2 : (putK kvs k v).length ≤ sizeLine := Nat.le_trans (length_putK kvs k v) few
  refine wpAny_dictSet_heap (hsz := n1) (show X.A.units < cLine by omega) (key_of I.hok hb) at_ fun h2 at2 but => fin _ ?_
  obtain ⟨q, es, ep, hq, c1, c2, c3, _, c4⟩ := at2
  refine d_write I (by rw [hD]; exact True.intro) but ⟨q, hq⟩ ⟨n2, sys, _, (rel.put k hb rv).keeps fun c ys ec => ?_, q, es, ep, hq, c1, c2, c3, c4⟩
  exact (upd_ne (L2.ne_of ec hD (fun z => nomatch z))).trans ec
section
variable {X : Cx}
abbrev TurnD (g : TG) (tt : TT) (tk tv : TE) (vs : List Nat) (σ : L2.St) (dd : Addr) (Nx : Hp → Prop) (x : V) (H' : Hp) : Prop := g x (L2.wipe σ vs) H' fun σ2 H2 => L2.wipe σ2 vs = L2.wipe σ vs ∧ tt σ2 H2 fun b H3 =>
  if b = true then tk σ2 H3 fun y H4 => tv σ2 H4 fun z H5 => ∃ kvs k c, y = V.ref c ∧ H5 c = some (.tup (k.map kV)) ∧ H5 dd = some (.dT kvs) ∧ kvs.length < sizeLine ∧ Nx (upd H5 dd (.dT (putK kvs k z))) else Nx H3
def tDt (wi : TI) (g : TG) (tt : TT) (tk tv : TE) (vs : List Nat) : TE := fun σ H Q => wi σ H fun J H1 => ∀ dd, H1 dd = none → ∃ W : Nat → Nat → Hp → Prop, (∃ m, W 0 m (upd H1 dd (.dT []))) ∧ ∀ i m H, W i m H →
  (J.stop i H ∧ Q (.ref dd) H) ∨ (J.go i H ∧ ∃ Nx : Hp → Prop, (∀ H', Nx H' → ∃ m', m' < m ∧ W (i + 1) m' H') ∧ ∀ x H', J.yld i H x H' → TurnD g tt tk tv vs σ dd Nx x H')
set_option maxHeartbeats 1000000 in
theorem dt_core {pins : List (Addr × Obj)} {s : Shared} {σ : L2.St} {H : Hp} {Q : VK} {kx vx tg iter : Expr} {ifs : List Expr} {scope : Scope} {own : List (Str × Nat)} {pos pos' : Pos} {wi : TI} {g : TG} {tt : TT} {tk tv : TE} {use : Option (Value → Sem Unit)} {Qf : Value → Shared → Prop} (hu : X.A.units + 64 < cLine)
    (hc : X.calm = true) (hN : X.N.Nodup) (I : Inv X pins σ H s) (hi : PI X tg iter wi) (ok : BlkOk X.N X.env.scope scope own) (hg : ∀ s H C cl fp, PG (blk X scope s H C cl fp) tg g) (ht : ∀ s H C cl fp, PTs (blk X scope s H C cl fp) ifs tt) (hk : ∀ s H C cl fp, PE (blk X scope s H C cl fp) kx tk) (he : ∀ s H C cl fp, PE (blk X scope s H C cl fp) vx tv)
    (hs : ∀ x, foldedSetIterable iter X.env x = pure x) (h : tDt wi g tt tk tv (own.map (·.2)) σ H Q)
    (hRR : ∀ D C s' m H', Inv X pins σ H' s' → Q (.ref D) H' → s'.heap.Ns C m → FpOk X pins H' C → compPost (model X.prog X.w) X.A X.xe use Qf (.ref D) C (.ok .next) s') :
    wpAny (model X.prog X.w) X.A (comprehension (.DictComp kx vx [⟨tg, iter, ifs, 0⟩] scope pos) scope X.env pos' newDict false (eval iter X.env) use) Qf X.xe s := by
  have frees : ∀ y ∈ scope.names, y.2 = .free → ∃ c, X.env.cells.lookup y.1 = some c := fun y hy e => (ok.free y hy e).elim (fun k => I.ok.has _ (.inl k)) fun k => I.ok.has _ (.inr k)
  refine wpAny_comprehension_free (use := use) rfl hs (closure_ok frees) ok.kind (fun y hy e => by rw [ok.uniq y hy, e]) (thn (hi.run pins s σ H _ I h) fun xv s1 hx => thn hx fun itv s2 h2 => ?_)
  obtain ⟨it, fs, tn, J, G2, rfl, J2, T, b2, f2, q⟩ := h2
  refine wpAny_newObj_type (newEnv_comp ?_)
  have dn : G2 s2.heap.objs.size = none := J2.hok.fresh (Nat.le_refl _)
  obtain ⟨W, ⟨m0, w0⟩, turn⟩ := q s2.heap.objs.size dn
  have J3 : Inv X pins σ (upd G2 s2.heap.objs.size (.dT [])) { s2 with heap := s2.heap.push { cls := .type "dict", data := .dict #[] } } := J2.laid (t' := s2.toks) (fun b o e => Heap.get?_push_of_some _ e) (Nat.le_refl _) (dT_empty s2.heap J2.big)
  have low : ∀ b ∈ fs, b < s2.heap.objs.size := fun b hb => (T.obj _ _ b2 b hb).elim fun o e => Heap.lt_size e.1
  have f3 : ∀ b ∈ fs, FpOk X pins (upd G2 s2.heap.objs.size (.dT [])) b ∧ b < (s2.heap.push { cls := .type "dict", data := .dict #[] }).objs.size := fun b hb =>
    ⟨⟨(upd_ne (Nat.ne_of_lt (low b hb))).trans (f2 b hb).1, (f2 b hb).2⟩, by rw [Heap.size_push]; exact Nat.lt_succ_of_lt (low b hb)⟩
  have b3 : tn 0 (s2.heap.push { cls := .type "dict", data := .dict #[] }) := T.keep _ _ _ b2 fun b _ o e => Heap.get?_push_of_some _ e
  obtain ⟨t3, et⟩ : ∃ t3 : Shared, t3 = { s2 with heap := s2.heap.push { cls := .type "dict", data := .dict #[] } } := ⟨_, rfl⟩
  obtain ⟨G3, eG⟩ : ∃ G3, G3 = upd G2 s2.heap.objs.size (.dT []) := ⟨_, rfl⟩
  obtain ⟨dd, ed⟩ : ∃ dd, dd = s2.heap.objs.size := ⟨_, rfl⟩
  have b3' : tn 0 t3.heap := by rw [et]; exact b3
  have f3' : ∀ b ∈ fs, FpOk X pins G3 b ∧ b < t3.heap.objs.size := by rw [et, eG]; exact f3
  rw [← et, ← eG] at J3
  rw [← eG] at w0
  rw [← ed] at turn ⊢
  have J4 := block_start J3 ok hN f3'
  obtain ⟨cl, ecl⟩ : ∃ cl, cl = cellsFrom (t3.heap.objs.size + 1) scope.names (cloFrom X.env.cells scope.names []) := ⟨_, rfl⟩
  have pg : PG (X.blk t3 G3 scope (compEnvC scope cl t3.heap.objs.size X.env) fs) tg g := hg t3 G3 t3.heap.objs.size cl fs
  have pt : PTs (X.blk t3 G3 scope (compEnvC scope cl t3.heap.objs.size X.env) fs) ifs tt := ht t3 G3 t3.heap.objs.size cl fs
  have pk : PE (X.blk t3 G3 scope (compEnvC scope cl t3.heap.objs.size X.env) fs) kx tk := hk t3 G3 t3.heap.objs.size cl fs
  have pv : PE (X.blk t3 G3 scope (compEnvC scope cl t3.heap.objs.size X.env) fs) vx tv := he t3 G3 t3.heap.objs.size cl fs
  rw [← ecl] at J4
  rw [show ({ heap := s2.heap.push { cls := .type "dict", data := .dict #[] }, gens := s2.gens, drawn := s2.drawn, toks := s2.toks, os := s2.os } : Shared) = t3 from et.symm]
  show codeAny _ _ (.compStart (.DictComp kx vx [⟨tg, iter, ifs, 0⟩] scope pos) 0 (.ref it) (.ref dd) (compEnvC scope (cellsFrom (t3.heap.objs.size + 1) scope.names (cloFrom X.env.cells scope.names [])) t3.heap.objs.size X.env)) (compPost (model X.prog X.w) X.A X.xe use Qf (.ref dd) t3.heap.objs.size) { t3 with heap := pushCells (t3.heap.push { cls := .type "dict", data := .dict #[] }) scope.names }
  rw [← ecl]
  have none3 : ∀ b ∈ fs, G3 b = none := fun b hb => (f3' b hb).1.1
  obtain ⟨ce, ece⟩ : ∃ ce, ce = compEnvC scope cl t3.heap.objs.size X.env := ⟨_, rfl⟩
  have loc : ce.locals = t3.heap.objs.size := by rw [ece]; rfl
  rw [← ece] at J4 pg pt pk pv ⊢
  generalize e4 : ({ t3 with heap := pushCells (t3.heap.push { cls := .type "dict", data := .dict #[] }) scope.names } : Shared) = t4 at J4 ⊢
  have b4 : tn 0 t4.heap := T.keep _ _ _ b3' fun b _ o e => by rw [← e4]; exact pushCells_keeps _ _ _ _ (Heap.get?_push_of_some _ e)
  have fpo : ∀ {σ' : L2.St} {H' : Hp} {s' : Shared}, Inv (X.blk t3 G3 scope ce fs) [] σ' H' s' → (∀ b ∈ fs, H' b = none) → ∀ b ∈ fs, FpOk (X.blk t3 G3 scope ce fs) [] H' b := fun {σ' H' s'} I' hn b hb =>
    ⟨hn b hb, (I'.ok.exf b hb).1, I'.ok.exfs b hb, .inl hb, fun x c e => (I'.ok.exf b hb).2 x c e, fun p hp => absurd (show p ∈ ([] : List (Addr × Obj)) ++ [] from hp) (by simp)⟩
  have loop : codeAny (model X.prog X.w) X.A (.compLoop (.DictComp kx vx [⟨tg, iter, ifs, 0⟩] scope pos) 0 (.ref it) (.ref dd) ce) (compPost (model X.prog X.w) X.A X.xe use Qf (.ref dd) t3.heap.objs.size) t4 := by
    refine compLoop_anyD (fun n s' => ∃ i H', Inv (X.blk t3 G3 scope ce fs) [] (L2.wipe σ (own.map (·.2))) H' s' ∧ tn i s'.heap ∧ (∀ b ∈ fs, H' b = none) ∧ W i n H') ?_ m0 ⟨0, G3, J4, b4, none3, w0⟩
    rintro n s5 ⟨i, G5, J5, b5, n5, w5⟩
    rcases turn i n G5 w5 with ⟨stop, qq⟩ | ⟨go, Nx, hNx, step⟩
    · refine thnF (T.done (X.blk t3 G3 scope ce fs) rfl rfl rfl hc i [] s5 _ G5 (fun _ _ => False) J5 (fpo J5 n5) b5 stop) fun r s6 ⟨hr, J6⟩ => ?_
      subst hr
      have J7 : Inv X pins σ G5 s6 := J3.call' (ch := fs) J6.os J6.base J6.hok J6.bare fun b hb => ⟨(f3' b hb).1.2.2.2.1, (f3' b hb).1.2.1, (f3' b hb).1.2.2.2.2.1, (f3' b hb).1.2.2.2.2.2⟩
      have nC : G5 t3.heap.objs.size = none := loc ▸ J6.free
      obtain ⟨m, hn, _⟩ := J6.loc
      have hn : s6.heap.Ns t3.heap.objs.size m := loc ▸ hn
      exact hRR dd t3.heap.objs.size s6 m G5 J7 qq hn (J3.fpOk (Nat.le_refl _) nC)
    · refine thnF (T.item (X.blk t3 G3 scope ce fs) rfl rfl rfl hc i [] s5 _ G5 (fun _ _ => False) J5 (fpo J5 n5) b5 go) fun r s6 ⟨u, hr, h6⟩ => ?_
      subst hr
      refine thnF h6 fun _ s7 ⟨x, G7, J7, r7, y7, b7, n7⟩ => ?_
      have P7 := J7.pinned (fpo J7 n7) (T.obj _ _ b7)
      refine thnF (pg.run _ s7 _ G7 x u _ P7 r7 (step x G7 y7)) fun _ s8 ⟨σ8, G8, J8, hw8, q8⟩ => ?_
      refine thnF (pt.run _ s8 σ8 G8 _ J8 q8) fun b s9 ⟨G9, J9, q9⟩ => ?_
      have fin : ∀ {s' : Shared} {H' : Hp}, Inv (X.blk t3 G3 scope ce fs) ([] ++ pinsAt fs s7.heap) σ8 H' s' → Nx H' → ∃ m, m < n ∧ ∃ i H', Inv (X.blk t3 G3 scope ce fs) [] (L2.wipe σ (own.map (·.2))) H' s' ∧ tn i s'.heap ∧ (∀ b ∈ fs, H' b = none) ∧ W i m H' := fun {s' H'} K nx => by
        obtain ⟨m', hm, w'⟩ := hNx H' nx
        have pin' : ∀ b ∈ fs, ∀ o, s7.heap.get? b = some o → s'.heap.get? b = some o ∧ H' b = none := fun b hb o e =>
          ⟨(K.pin (b, o) (List.mem_append_right _ (List.mem_append_right _ (mem_pinsAt hb e)))).1, (K.pin (b, o) (List.mem_append_right _ (List.mem_append_right _ (mem_pinsAt hb e)))).2.1⟩
        have hl : (L2.wipe σ (own.map (·.2))).length = σ8.length := (congrArg List.length hw8).symm.trans (wipe_length _ _)
        refine ⟨m', hm, i + 1, H', (K.unpinned (pins := [])).weak hl (fun j v e => (wipe_some (hw8 ▸ e)).1), T.keep _ _ _ b7 fun b hb o e => (pin' b hb o e).1, fun b hb => ?_, w'⟩
        exact (T.obj _ _ b7 b hb).elim fun o e => (pin' b hb o e.1).2
      cases b with
      | false =>
        rw [if_neg Bool.false_ne_true] at q9 ⊢
        exact fin J9 q9
      | true =>
        rw [if_pos rfl] at q9 ⊢
        refine thnF (pk.run _ s9 σ8 G9 _ J9 q9) fun z s10 ⟨yk, G10, J10, r10, q10⟩ => thnF (pv.run _ s10 σ8 G10 _ J10 q10) fun z2 s11 ⟨yv, G11, J11, r11, kvs, k, c, ek, ec, hD11, hz11, nx⟩ => ?_
        subst ek
        exact t_dictSet (X := X.blk t3 G3 scope ce fs) (by show X.A.units + 1 < cLine; omega) J11 hD11 ec hz11 r10 r11 fun s12 J12 => fin J12 nx
  exact codeAny_compStart_dict loop (T.self X.A 0 _ _ _ b4 loop)
theorem pe_dt {kx vx tg iter : Expr} {ifs : List Expr} {scope : Scope} {own : List (Str × Nat)} {pos : Pos} {wi : TI} {g : TG} {tt : TT} {tk tv : TE} (hu : X.A.units + 64 < cLine) (hc : X.calm = true) (hN : X.N.Nodup) (hi : PI X tg iter wi) (ok : BlkOk X.N X.env.scope scope own)
    (hg : ∀ s H C cl fp, PG (blk X scope s H C cl fp) tg g) (ht : ∀ s H C cl fp, PTs (blk X scope s H C cl fp) ifs tt) (hk : ∀ s H C cl fp, PE (blk X scope s H C cl fp) kx tk) (he : ∀ s H C cl fp, PE (blk X scope s H C cl fp) vx tv) (hs : ∀ x, foldedSetIterable iter X.env x = pure x := by intro _; rfl) :
    PE X (.DictComp kx vx [⟨tg, iter, ifs, 0⟩] scope pos) (tDt wi g tt tk tv (own.map (·.2))) := by
  refine ⟨fun pins s σ H Q I h => ?_⟩
  rw [arm_eval_DictComp]
  refine dt_core hu hc hN I hi ok hg ht hk he hs h fun D C s' m H' J q hn f => ⟨m, hn, fun h'' sb => ?_⟩
  exact ⟨.ref D, H', J.turned (t' := s'.toks) (fun b o hb e => (sb.2 b hb).trans e) f.1 f.2.1 f.2.2.2.1 f.2.2.2.2.1 f.2.2.2.2.2, rfl, q⟩
end
end TR
/-! ## C13 -/
set_option Elab.async false
set_option linter.all false
set_option maxRecDepth 100000
namespace TR
open PySem L2 PySem.Spec PyProof.Rows
/-! ### tuple[::-1] -/
section
variable {prog : Program} {w : World} {A : Around} {E : Value → Shared → Prop} {s : Shared}
theorem back_places (n : Nat) : Builtin.Slice.slicePlaces ((n : Int) - 1) (-1) (-1) = n := by
  unfold Builtin.Slice.slicePlaces
  simp only [show ¬ ((-1 : Int) > 0) by decide, if_false, show (- -1 : Int) = 1 by decide, Int.ediv_one]
  split <;> omega
theorem back_applied {sl : Addr} {vl vu vs : Value} {n : Nat} {Q : Int × Int × Nat → Shared → Prop} (hs : s.heap.IsSliceOf sl vl vu vs) (pl : IsPart vl none) (pu : IsPart vu none) (ps : IsPart vs (some (-1)))
    (h : Q ((n : Int) - 1, -1, n) s) : wpAny (model prog w) A (Builtin.Slice.sliceApplied (.ref sl) (pure (n : Int))) Q E s := by
  obtain ⟨os, hos, hcs, hds⟩ := id hs
  unfold Builtin.Slice.sliceApplied Builtin.Slice.sliceFields
  refine wpAny_bind (wpAny_bind (wpAny_field hos hds (x := vl) rfl (wpAny_bind (wpAny_field hos hds (x := vu) rfl (wpAny_bind (wpAny_field hos hds (x := vs) rfl (wpAny_pure ?_)))))))
  refine wpAny_bind (HT.slicePart_ ps ?_)
  show wpAny _ _ (if ((-1 : Int) == 0) = true then _ else _) _ _ s
  rw [if_neg (by decide)]
  refine wpAny_bind (HT.slicePart_ pl (wpAny_bind (HT.slicePart_ pu (wpAny_bind (wpAny_pure ?_)))))
  show wpAny _ _ (match Builtin.Slice.sliceAdjust none none (-1) (n : Int) with | (lo, hi) => pure (lo, (-1 : Int), Builtin.Slice.slicePlaces lo hi (-1))) _ _ s
  have e : Builtin.Slice.sliceAdjust none none (-1) (n : Int) = ((n : Int) - 1, -1) := by rfl
  rw [e]
  show wpAny _ _ (pure ((n : Int) - 1, (-1 : Int), Builtin.Slice.slicePlaces ((n : Int) - 1) (-1) (-1))) _ _ s
  rw [back_places]
  exact wpAny_pure h
theorem back_pick (xs : Array Value) : ((List.range xs.size).filterMap fun (m : Nat) => xs[(((xs.size : Int) - 1) + (m : Int) * (-1)).toNat]?).toArray = xs.toList.reverse.toArray := by
  have e : (fun (m : Nat) => xs[(((xs.size : Int) - 1) + (m : Int) * (-1)).toNat]?) = fun m => xs[xs.size - 1 - m]? := by
    funext m
    congr 1
    omega
  rw [e]
  have e2 : (List.range xs.size).filterMap (fun m => xs[xs.size - 1 - m]?) = ((List.range xs.size).map fun k => xs.size - 1 - k).filterMap (xs[·]?) := by rw [List.filterMap_map]; rfl
  rw [e2, PySem.W.krv_range, List.filterMap_reverse, PySem.W.krv_all]
theorem back_tuple {t sl : Addr} {items : Array Value} {vl vu vs : Value} {Q : Value → Shared → Prop} (ht : IsTup s.heap t items) (hs : s.heap.IsSliceOf sl vl vu vs) (pl : IsPart vl none) (pu : IsPart vu none) (ps : IsPart vs (some (-1)))
    (h : Q (.ref s.heap.objs.size) { s with heap := s.heap.push { cls := .type "tuple", data := .seq items.toList.reverse.toArray } }) (hsz : items.size ≤ sizeLine) : wpAny (model prog w) A (getItem (.ref t) (.ref sl)) Q E s := by
  have ok : sizeOk (.seq items.toList.reverse.toArray) := by
    show items.toList.reverse.toArray.size ≤ sizeLine
    simpa using hsz
  obtain ⟨os, hos, hcs, hds⟩ := id hs
  have hTs : s.TypeIs (.ref sl) "slice" := ⟨os, hos, hcs⟩
  unfold getItem
  try with_reducible refine wpAny_holding ?_
  first | refine wpAny_bind (wpAny_pure ?_) | skip
  refine wpAny_bind (wpAny_sequenceKey ht.typeIs (by decide) ?_)
  refine wpAny_bind (wpAny_callSpecial?_slot (name := Str.ofString "__getitem__") ht.typeIs PyProof.Rows.slot_tuple_getitem (wpAny_call_entry PyProof.Rows.slot_tuple_getitem ht.typeIs entry_tuple_getitem ?_ (args_tuple_getitem _ _)))
  show wpAny _ _ (Builtin.Tuple.tupleItemsOf (.ref t) >>= _) _ _ s
  refine wpAny_bind (tupleItemsOf_ ht (wpAny_bind (wpAny_typeOf hTs ?_)))
  rw [if_pos (by decide)]
  refine wpAny_bind (back_applied (n := items.size) hs pl pu ps ?_)
  show wpAny _ _ (if ((((items.size : Nat) : Int) - 1) == 0 && (-1 : Int) == 1 && items.size == items.size) = true then _ else _) _ _ s
  rw [if_neg (by simp), back_pick]
  first
    | exact wpAny_bind (m := Builtin.Tuple.tupleExact _) (wpAny_newObj_type (wpAny_pure ⟨_, rfl, wpAny_pure h⟩) ok)
    | exact wpAny_bind (m := Builtin.Tuple.tupleExact _) (wpAny_newObj_type (wpAny_bind (wpAny_pure (wpAny_pure ⟨_, rfl, wpAny_pure h⟩))) ok)
    | exact wpAny_bind (wpAny_bind (m := Builtin.Tuple.tupleExact _) (wpAny_newObj_type (wpAny_pure (wpAny_pure ⟨_, rfl, wpAny_pure h⟩)) ok))
    | exact wpAny_bind (wpAny_bind (m := Builtin.Tuple.tupleExact _) (wpAny_newObj_type (wpAny_pure ⟨_, rfl, wpAny_pure h⟩) ok))
end
section
variable {X : Cx}
def tRevT (K : PySem.W.Frag) (te : TE) : TE := fun σ H Q => te σ H fun x H1 => ∃ a xs, x = V.ref a ∧ SqT K H1 a xs ∧ ∀ p, H1 p = none → Q (V.ref p) (upd H1 p (.tup xs.reverse))
theorem pe_revT {e : Expr} {te : TE} {k : Nat} {p1 p2 p3 pos : Pos} (he : PE X e te) : PE X (.Subscript e (.Slice none none (some (.UnaryOp .USub (.Constant (.int 1) k p1) p2)) p3) pos) (tRevT X.K te) := by
  refine ⟨fun pins s σ H Q I h => ?_⟩
  refine Subscript_ (thn (he.run pins s σ H _ I h) fun v s1 ⟨x, H1, I1, r1, a, xs, ex, hx, q⟩ => ?_)
  subst ex
  cases r1
  have hst : PO X (some (.UnaryOp .USub (.Constant (.int 1) k p1) p2)) (tPart (tUn (rU fun i => .int (-i)) (tC (.int 1)))) := po_some (pe_un un_neg pe_int)
  refine wpAny_Slice (thn (po_none.run pins s1 σ H1 (fun o G => o = none ∧ G = H1) I1 ⟨rfl, rfl⟩) fun vl s2 ⟨l, H2, I2, pl, el, e2⟩ => ?_)
  subst el e2
  refine thn (po_none.run pins s2 σ H2 (fun o G => o = none ∧ G = H2) I2 ⟨rfl, rfl⟩) fun vu s3 ⟨u, H3, I3, pu, eu, e3⟩ => ?_
  subst eu e3
  refine thn (hst.run pins s3 σ H3 (fun o G => o = some (-1) ∧ G = H3) I3 ⟨1, rfl, -1, rfl, rfl, rfl⟩) fun vs s4 ⟨o, H4, I4, ps, eo, e4⟩ => ?_
  subst eo e4
  obtain ⟨t4, et⟩ : ∃ t4 : Shared, t4 = { s4 with heap := s4.heap.push { cls := .type "slice", data := .fields #[vl, vu, vs] } } := ⟨_, rfl⟩
  have I5 : Inv X pins σ H4 t4 := by rw [et]; exact I4.kept (t' := s4.toks) fun b ob q => Heap.get?_push_of_some _ q
  obtain ⟨its, r, ht, hz⟩ := I5.tuple hx
  have hlen := r.length
  have new : t4.heap.IsSliceOf s4.heap.objs.size vl vu vs := by rw [et]; exact Heap.IsSliceOf.new _ vl vu vs
  show wpAny (model X.prog X.w) X.A (subscriptTail e (.Slice none none (some (.UnaryOp .USub (.Constant (.int 1) k p1) p2)) p3) (.ref a) (.ref s4.heap.objs.size)) (EP X pins σ Q) X.xe { s4 with heap := s4.heap.push { cls := .type "slice", data := .fields #[vl, vu, vs] } }
  rw [show ({ heap := s4.heap.push { cls := .type "slice", data := .fields #[vl, vu, vs] }, gens := s4.gens, drawn := s4.drawn, toks := s4.toks, os := s4.os } : Shared) = t4 from et.symm]
  refine tail_any (ops := [.ref a, .ref s4.heap.objs.size]) ht.typeIs (PyProof.Rows.slot_tuple_getitem.lookup) ?_ (by with_unfolding_all rfl)
  refine back_tuple ht new pl pu ps ?_ (by rw [List.size_toArray]; omega)
  exact ⟨.ref _, _, I5.laid (t' := t4.toks) (o := .tup xs.reverse) (fun b ob q => Heap.get?_push_of_some _ q) (Nat.le_refl _) ⟨by rw [List.length_reverse]; exact hz, _, r.reverse, ⟨_, Heap.get?_push_size _ rfl, rfl, _, rfl⟩⟩, rfl, q _ (I5.hok.fresh (Nat.le_refl _))⟩
variable {ρ : En} {a e : Expr} {k : Kd} {l : List D} {pos p1 p2 p3 : Pos}
theorem e_revT {kk : Nat} (ha : Ev k X ρ a (.tup l)) : Ev .st X ρ (.Subscript a (.Slice none none (some (.UnaryOp .USub (.Constant (.int 1) kk p1) p2)) p3) pos) (.tup l.reverse) := .mk fun F σ H E Q q =>
  wT.of (pe_revT pe_w) (ha F σ H E _ fun v H1 s1 r1 => by
    obtain ⟨a, xs, rfl, n1, e1, t1⟩ := r1.rdOf.tup
    exact ⟨a, xs, rfl, SqT.of e1, fun p hp => q _ _ (s1.trans (Same.new hp)) (t1.reverse.newTup (E.same s1).avd hp)⟩)
end
end TR
/-! ## C14 -/
set_option Elab.async false
set_option linter.all false
set_option maxRecDepth 100000
namespace TR
open PySem L2 PySem.Spec PyProof.Rows
/-! ### rows in order -/
def rIns (x : List Int) : List (List Int) → List (List Int)
  | [] => [x]
  | y :: l => if x ≤ y then x :: y :: l else y :: rIns x l
def rSort (l : List (List Int)) : List (List Int) := l.foldr rIns []
def rDup : List (List Int) → List (List Int)
  | [] => []
  | [x] => [x]
  | x :: y :: l => if x = y then rDup (y :: l) else x :: rDup (y :: l)
/-- sorted(set(l)) -/
def setOf (l : List (List Int)) : List (List Int) := rDup (rSort l)
theorem rIns_perm (x : List Int) : ∀ l, (rIns x l).Perm (x :: l)
  | [] => .refl _
  | y :: l => by
    unfold rIns
    split
    · exact .refl _
    · exact ((rIns_perm x l).cons y).trans (.swap x y l)
theorem rSort_perm : ∀ l, (rSort l).Perm l
  | [] => .refl _
  | x :: l => (rIns_perm x _).trans ((rSort_perm l).cons x)
theorem rIns_up {x : List Int} : ∀ {l : List (List Int)}, l.Pairwise (· ≤ ·) → (rIns x l).Pairwise (· ≤ ·)
  | [], _ => List.pairwise_singleton _ _
  | y :: l, h => by
    unfold rIns
    obtain ⟨h1, h2⟩ := List.pairwise_cons.mp h
    split
    · rename_i c
      refine List.pairwise_cons.mpr ⟨fun z hz => ?_, h⟩
      rcases List.mem_cons.mp hz with e | hz
      · rw [e]; exact c
      · exact List.le_trans c (h1 z hz)
    · rename_i c
      have c' : y ≤ x := (List.le_total y x).resolve_right c
      refine List.pairwise_cons.mpr ⟨fun z hz => ?_, rIns_up h2⟩
      rcases List.mem_cons.mp ((rIns_perm x l).mem_iff.mp hz) with e | hz
      · rw [e]; exact c'
      · exact h1 z hz
theorem rSort_up : ∀ l, (rSort l).Pairwise (· ≤ ·)
  | [] => .nil
  | x :: l => rIns_up (rSort_up l)
theorem rDup_mem (z : List Int) : ∀ l, z ∈ rDup l ↔ z ∈ l
  | [] => Iff.rfl
  | [x] => Iff.rfl
  | x :: y :: l => by
    unfold rDup
    split
    · rename_i e
      rw [rDup_mem z (y :: l), e]
      simp
    · rw [List.mem_cons, rDup_mem z (y :: l), List.mem_cons (a := z) (b := x)]
theorem rDup_up : ∀ {l : List (List Int)}, l.Pairwise (· ≤ ·) → (rDup l).Pairwise (· < ·)
  | [], _ => .nil
  | [x], _ => List.pairwise_singleton _ _
  | x :: y :: l, h => by
    unfold rDup
    obtain ⟨h1, h2⟩ := List.pairwise_cons.mp h
    split
    · exact rDup_up h2
    · rename_i ne
      refine List.pairwise_cons.mpr ⟨fun z hz => ?_, rDup_up h2⟩
      have hz := (rDup_mem z (y :: l)).mp hz
      have c1 : x < y := Std.lt_of_le_of_ne (h1 y List.mem_cons_self) ne
      rcases List.mem_cons.mp hz with e | hz
      · rw [e]; exact c1
      · exact Std.lt_of_lt_of_le c1 ((List.pairwise_cons.mp h2).1 z hz)
theorem setOf_mem {z : List Int} {l : List (List Int)} : z ∈ setOf l ↔ z ∈ l := (rDup_mem z _).trans (rSort_perm l).mem_iff
theorem setOf_up (l : List (List Int)) : (setOf l).Pairwise (· < ·) := rDup_up (rSort_up l)
theorem up_nodup {l : List (List Int)} (h : l.Pairwise (· < ·)) : l.Nodup := h.imp fun q e => by rw [e] at q; exact List.lt_irrefl _ q
theorem setOf_nodup (l : List (List Int)) : (setOf l).Nodup := up_nodup (setOf_up l)
/-- the only one -/
theorem up_eq {l m : List (List Int)} (h1 : l.Pairwise (· ≤ ·)) (h2 : m.Pairwise (· ≤ ·)) (p : l.Perm m) : l = m := p.eq_of_pairwise (fun a b _ _ => List.le_antisymm) h1 h2
theorem setOf_eq {l m : List (List Int)} (h : m.Pairwise (· < ·)) (e : ∀ z, z ∈ m ↔ z ∈ l) : setOf l = m :=
  up_eq ((setOf_up l).imp List.le_of_lt) (h.imp List.le_of_lt) ((List.perm_ext_iff_of_nodup (setOf_nodup l) (up_nodup h)).mpr fun z => setOf_mem.trans (e z).symm)
theorem rSort_eq {l m : List (List Int)} (h : m.Pairwise (· ≤ ·)) (e : m.Perm l) : rSort l = m := up_eq (rSort_up l) h ((rSort_perm l).trans e.symm)
/-! ints in order -/
def iIns (x : Int) : List Int → List Int
  | [] => [x]
  | y :: l => if x ≤ y then x :: y :: l else y :: iIns x l
def iSort (l : List Int) : List Int := l.foldr iIns []
theorem iIns_perm (x : Int) : ∀ l, (iIns x l).Perm (x :: l)
  | [] => .refl _
  | y :: l => by
    unfold iIns
    split
    · exact .refl _
    · exact ((iIns_perm x l).cons y).trans (.swap x y l)
theorem iSort_perm : ∀ l, (iSort l).Perm l
  | [] => .refl _
  | x :: l => (iIns_perm x _).trans ((iSort_perm l).cons x)
theorem iIns_up {x : Int} : ∀ {l : List Int}, l.Pairwise (· ≤ ·) → (iIns x l).Pairwise (· ≤ ·)
  | [], _ => List.pairwise_singleton _ _
  | y :: l, h => by
    unfold iIns
    obtain ⟨h1, h2⟩ := List.pairwise_cons.mp h
    split
    · refine List.pairwise_cons.mpr ⟨fun z hz => ?_, h⟩
      rcases List.mem_cons.mp hz with e | hz
      · omega
      · have := h1 z hz; omega
    · refine List.pairwise_cons.mpr ⟨fun z hz => ?_, iIns_up h2⟩
      rcases List.mem_cons.mp ((iIns_perm x l).mem_iff.mp hz) with e | hz
      · omega
      · exact h1 z hz
theorem iSort_up : ∀ l, (iSort l).Pairwise (· ≤ ·)
  | [] => .nil
  | x :: l => iIns_up (iSort_up l)
theorem iSort_eq {l m : List Int} (h : m.Pairwise (· ≤ ·)) (e : m.Perm l) : iSort l = m := ((iSort_perm l).trans e.symm).eq_of_pairwise (fun a b _ _ p q => Int.le_antisymm p q) (iSort_up l) h
/-! ### the rules -/
section
variable {X : Cx} {ρ : En} {a b c e : Expr} {k k1 k2 : Kd} {d d1 d2 : D} {l : List D} {pos p p2 q : Pos}
theorem Ats.rows {Z : Addr → Prop} {H : Hp} : ∀ {xs : List V} {ks : List (List Int)}, Ats Z H xs (ks.map tD) → ∃ ps : List (Addr × List Int), xs = ps.map (fun p => V.ref p.1) ∧ ps.map (·.2) = ks ∧ ∀ p ∈ ps, At Z H (.ref p.1) (tD p.2) ∧ H p.1 = some (.tup (p.2.map V.int))
  | _, [], .nil => ⟨[], rfl, rfl, by simp⟩
  | _, c :: cs, .cons h t => by
    obtain ⟨b, rfl, eb⟩ := Rd.key (.inl h)
    obtain ⟨ps, rfl, rfl, q⟩ := t.rows
    refine ⟨(b, c) :: ps, rfl, rfl, fun p hp => ?_⟩
    rcases List.mem_cons.mp hp with e | hp
    · rw [e]; exact ⟨h, by rw [← kv_ints]; exact eb⟩
    · exact q p hp
theorem rows_ats {Z : Addr → Prop} {H : Hp} : ∀ {ps : List (Addr × List Int)}, (∀ p ∈ ps, At Z H (.ref p.1) (tD p.2)) → Ats Z H (ps.map fun p => V.ref p.1) ((ps.map (·.2)).map tD)
  | [], _ => .nil
  | p :: ps, h => .cons (h p List.mem_cons_self) (rows_ats fun q hq => h q (List.mem_cons_of_mem _ hq))
theorem e_sortL {ks : List (List Int)} (hc : X.calm = true) (hu : X.A.units + 64 < cLine) (hm : X.mg "sorted" = none) (ha : Ev k X ρ a (.lst (ks.map tD))) (ne : 2 ≤ ks.length → ∀ r ∈ ks, r ≠ []) (hg : Gl X "sorted" := by rfl) (h1 : starEach [a] X.env = (false, eval a X.env) :: starEach [] X.env := by rfl) : Ev .fr X ρ (.Call (.Name "sorted" p) [a] [] pos) (.lst ((rSort ks).map tD)) :=
  e_callB (cr_sortR hc hu) hm PyProof.Rows.boot_sorted (a_cons ha a_nil (fun z => nomatch z) h1) (fun Z H vs hz r Q q => by
    obtain ⟨v, rfl, r1⟩ := r.one
    obtain ⟨a, xs, rfl, e1, t⟩ := r1.lst
    obtain ⟨ps, rfl, rfl, hp⟩ := t.rows
    refine ⟨a, ps, rfl, .inr (SqL.of e1), fun p hm => SqT.of (hp p hm).2, fun h2 p hm => ne (by simpa using h2) p.2 (List.mem_map.mpr ⟨p, hm, rfl⟩), fun L2 pp pm pw hn => ?_⟩
    rw [rSort_eq (l := ps.map (·.2)) (m := L2.map (·.2)) (List.pairwise_map.mpr pw) (pm.map _)] at q
    exact q _ _ (Same.new hn) ((rows_ats fun p hm => (hp p (pm.mem_iff.mp hm)).1).newLst hn)) hg (by decide) (by decide) h1 rfl
/-- sorted(set(rows)): C holds all that come -/
theorem e_sortSet {ks : List (List Int)} (C : List (List Int)) (hc : X.calm = true) (hu : X.A.units + 64 < cLine) (hm : X.mg "sorted" = none) (hm2 : X.mg "set" = none) (ha : Ev k X ρ a (.lst (ks.map tD))) (hC : ∀ r ∈ ks, r ∈ C) (few : C.length ≤ 1227) (ne : (∀ r ∈ ks, r ≠ []) ∨ ∀ r ∈ ks, r = []) (hg : Gl X "sorted" := by rfl) (hg2 : Gl X "set" := by rfl)
    (h1 : starEach [a] X.env = (false, eval a X.env) :: starEach [] X.env := by rfl) (h2 : starEach [.Call (.Name "set" p2) [a] [] q] X.env = (false, eval (.Call (.Name "set" p2) [a] [] q) X.env) :: starEach [] X.env := by rfl) :
    Ev .fr X ρ (.Call (.Name "sorted" p) [.Call (.Name "set" p2) [a] [] q] [] pos) (.lst ((setOf ks).map tD)) := .mk fun F σ H E Q qq =>
  wT.of (pe_callB (cr_sortR hc hu) hg hm PyProof.Rows.boot_sorted (pa_cons (pe_callTy (cr_setR hc hu) hg2 hm2 PyProof.Rows.boot_set pa_w (by decide) (by decide) h1 rfl) pa_nil h2) (by decide) (by decide) h2 rfl)
    (a_cons (s := false) ha a_nil (fun z => nomatch z) h1 F σ H E _ fun vs H1 s1 r => by
      obtain ⟨v, rfl, r1⟩ := r.one
      obtain ⟨a, xs, rfl, e1, t⟩ := r1.lst
      obtain ⟨ps, rfl, rfl, hp⟩ := t.rows
      refine ⟨a, ps, C, rfl, SqL.of e1, fun p hm => SqT.of (hp p hm).2, fun p hm => hC p.2 (List.mem_map.mpr ⟨p, hm, rfl⟩), few, fun s L hn sub all nd => ?_⟩
      have len : L.length ≤ C.length := by
        have := nd.length_le_of_subset (l₂ := C) fun z hz => by
          obtain ⟨p, hm, rfl⟩ := List.mem_map.mp hz
          exact hC p.2 (List.mem_map.mpr ⟨p, sub p hm, rfl⟩)
        simpa using this
      refine ⟨s, L, rfl, .inl ⟨upd_same, by omega⟩, fun p hm => SqT.of (by rw [upd_ne (ne_of_none (hp p (sub p hm)).2 hn)]; exact (hp p (sub p hm)).2), fun h2 p hm => ?_, fun L2 pp pm pw hn2 => ?_⟩
      · have hmem : ∀ p ∈ L, p.2 ∈ ps.map (·.2) := fun p hm => List.mem_map.mpr ⟨p, sub p hm, rfl⟩
        rcases ne with ne | ne
        · exact ne p.2 (hmem p hm)
        · exfalso
          match L, h2, nd, hmem with
          | u :: v :: L, _, nd, hmem =>
            have e1 := ne u.2 (hmem u (by simp))
            have e2 := ne v.2 (hmem v (by simp))
            rw [List.map_cons, List.map_cons, e1, e2] at nd
            exact (List.nodup_cons.mp nd).1 List.mem_cons_self
      · have nd2 : (L2.map (·.2)).Nodup := (pm.map _).nodup_iff.mpr nd
        have up2 : (L2.map (·.2)).Pairwise (· < ·) := by
          have a1 : (L2.map (·.2)).Pairwise (· ≤ ·) := List.pairwise_map.mpr pw
          exact (a1.and nd2).imp fun q => Std.lt_of_le_of_ne q.1 q.2
        have es : setOf (ps.map (·.2)) = L2.map (·.2) := setOf_eq up2 fun z => by
          rw [(pm.map (·.2)).mem_iff]
          constructor
          · intro hz
            obtain ⟨p, hm, rfl⟩ := List.mem_map.mp hz
            exact List.mem_map.mpr ⟨p, sub p hm, rfl⟩
          · intro hz
            obtain ⟨p, hm, rfl⟩ := List.mem_map.mp hz
            exact all p hm
        rw [es] at qq
        have sm : Same H1 (upd H1 s (SetHO X.prog X.w s L)) := Same.new hn
        have hn3 : H1 pp = none := by
          by_cases e : pp = s
          · rw [e]; exact hn
          · rw [upd_ne e] at hn2; exact hn2
        have at2 : ∀ p ∈ L2, At (Av F ρ) (upd H1 s (SetHO X.prog X.w s L)) (.ref p.1) (tD p.2) := fun p hm => ((hp p (sub p (pm.mem_iff.mp hm))).1).same sm
        exact qq _ _ ((s1.trans sm).trans (Same.new hn2)) (((rows_ats at2).newLst hn2).back (s1.trans sm)))
theorem e_sortI {ns : List Int} (hm : X.mg "sorted" = none) (ha : Ev k X ρ a (.lst (ns.map .int))) (hg : Gl X "sorted" := by rfl) (h1 : starEach [a] X.env = (false, eval a X.env) :: starEach [] X.env := by rfl) : Ev .fr X ρ (.Call (.Name "sorted" p) [a] [] pos) (.lst ((iSort ns).map .int)) :=
  e_callB cr_sortedI hm PyProof.Rows.boot_sorted (a_cons ha a_nil (fun z => nomatch z) h1) (fun Z H vs hz r Q q => by
    obtain ⟨v, rfl, r1⟩ := r.one
    obtain ⟨a, xs, rfl, e1, t⟩ := r1.lst
    rw [t.ints] at e1
    refine ⟨a, ns, rfl, SqL.of e1, fun ns' pp pm pw hn => ?_⟩
    rw [iSort_eq pw pm] at q
    have ia : ∀ l : List Int, Ats Z H (l.map V.int) (l.map .int) := fun l => by
      induction l with
      | nil => exact .nil
      | cons i l ih => exact .cons (.int i) ih
    exact q _ _ (Same.new hn) ((ia ns').newLst hn)) hg (by decide) (by decide) h1 rfl
end
end TR
/-! ## C15 -/
set_option Elab.async false
set_option linter.all false
set_option maxRecDepth 100000
namespace TR
open PySem L2
section
variable {X : Cx} {ρ : En} {elt tg it tg1 it1 kx vx : Expr} {ifs : List Expr} {scope : Scope} {own : List (Str × Nat)} {k : Kd} {α β : Type} {l : List α} {f : α → D} {T T1 : Tg} {pos p p1 p2 : Pos}
/-! ### {k: v for ..} -/
theorem putK_new {κ : Type} [DecidableEq κ] {kvs : List (κ × V)} {kk : κ} {z : V} (h : kk ∉ kvs.map (·.1)) : putK kvs kk z = kvs ++ [(kk, z)] := by
  unfold putK
  rw [if_neg]
  intro q
  obtain ⟨kv, hm, e⟩ := List.any_eq_true.mp q
  exact h (List.mem_map.mpr ⟨kv, hm, of_decide_eq_true e⟩)
theorem AtT.keys {Z : Addr → Prop} {H : Hp} : ∀ {kvs : List (List Key × V)} {ds : List (List Int × D)}, AtT Z H kvs ds → kvs.map (·.1) = ds.map fun p => p.1.map Sum.inl
  | _, _, .nil => rfl
  | _, _, .cons _ t => congrArg _ t.keys
theorem AtT.length {Z : Addr → Prop} {H : Hp} {kvs : List (List Key × V)} {ds : List (List Int × D)} (h : AtT Z H kvs ds) : kvs.length = ds.length := by simpa using congrArg List.length h.keys
theorem AtT.snoc {Z : Addr → Prop} {H : Hp} {kk : List Int} {v : V} {d : D} : ∀ {kvs : List (List Key × V)} {ds : List (List Int × D)}, AtT Z H kvs ds → At Z H v d → AtT Z H (kvs ++ [(kk.map Sum.inl, v)]) (ds ++ [(kk, d)])
  | _, _, .nil, a => .cons a .nil
  | _, _, .cons h t, a => .cons h (t.snoc a)
theorem Ob.dT {H : Hp} {b : Addr} {kvs : List (List Key × V)} (e : H b = some (.dT kvs)) : Ob H b := ⟨_, e, fun _ z => nomatch z⟩
theorem e_dc {kf : α → List Int} {vf : α → D} (T : Tg) (hu : X.A.units + 64 < cLine) (hc : X.calm = true) (hN : X.N.Nodup) (hi : EvI X ρ tg it (l.map f)) (ok : BlkOk X.N X.env.scope scope own) (hT : ∀ s H C cl fp, TgOk (blk X scope s H C cl fp) tg T) (hf : ∀ a ∈ l, fitsT T (f a)) (hown : ∀ j ∈ T.js, j ∈ own.map (·.2))
    (hk1 : ∀ a ∈ l, Bv .st X scope (setE T (f a) (wipeE ρ (own.map (·.2)))) kx (tD (kf a))) (he : ∀ a ∈ l, Bv k X scope (setE T (f a) (wipeE ρ (own.map (·.2)))) vx (vf a)) (nd : (l.map kf).Nodup) (hk : k ≠ .rd := by exact fun z => nomatch z) (hs : ∀ x, foldedSetIterable it X.env x = pure x := by intro _; rfl) :
    Ev .fr X ρ (.DictComp kx vx [⟨tg, it, [], 0⟩] scope pos) (.dT (l.map fun a => (kf a, vf a))) := .mk fun F σ H E Q q =>
  wT.of (pe_dt (g := gOf X.K T) (tk := bT X scope kx) (tv := bT X scope vx) hu hc hN pi_w ok (fun s H C cl fp => hT s H C cl fp) (fun s H C cl fp => pts_nil) (fun s H C cl fp => ⟨fun pins s' σ' H' Q' I h => h s H C cl fp pins s' I⟩) (fun s H C cl fp => ⟨fun pins s' σ' H' Q' I h => h s H C cl fp pins s' I⟩) hs)
    (hi F σ H E _ fun J H1 s1 wk => by
      intro Dd hD
      obtain ⟨sz, G, g1, gk, wkk⟩ := wk
      have E1 := E.same s1
      have bs : ∀ {H' : Hp}, Same H1 H' → Ob H' Dd → EnvAt { F with Y := fun b => Av F ρ b ∨ b = Dd } H' (L2.wipe σ (own.map (·.2))) (wipeE ρ (own.map (·.2))) := fun {H'} s hd =>
        (E1.forbid (Z := fun b => Av F ρ b ∨ b = Dd) (fun b z => z.elim .inl fun z => .inr (by rw [z]; exact hD)) s fun b z => z.elim (fun z => (E1.avo b z).same s) fun z => by rw [z]; exact hd).wipe _
      let Pv : Nat → Hp → Prop := fun i H' => Same H1 H' ∧ ∃ kvs, H' Dd = some (.dT kvs) ∧ AtT (fun b => Av F ρ b ∨ b = Dd) H' kvs ((l.take i).map fun a => (kf a, vf a))
      have n0 : (l.map f).length = l.length := List.length_map ..
      refine ⟨fun i m H => m = l.length - i ∧ i ≤ l.length ∧ Pv i H, ⟨l.length, by simp, Nat.zero_le _, Same.new hD, [], upd_same, .nil⟩, ?_⟩
      rintro i m Ha ⟨rfl, hle, sa, kvs, ea, ta⟩
      have gg := gk H1 Ha g1 fun b o _ e => sa b o e
      by_cases hil : i < l.length
      · refine .inr ⟨wkk.goes i Ha (by rw [n0]; exact hil) gg, Pv (i + 1), fun H' p' => ⟨l.length - (i + 1), by omega, rfl, hil, p'⟩, fun x Hb y => ?_⟩
        obtain ⟨sb, y⟩ := wkk.yields i Ha x Hb (by rw [n0]; exact hil) gg y
        have hdA : ∀ b, (Av F ρ b ∨ b = Dd) → Ob Ha b := fun b z => z.elim (fun z => (E1.avo b z).same sa) fun z => by rw [z]; exact .dT ea
        obtain ⟨d, e1, a1⟩ := y (fun b => Av F ρ b ∨ b = Dd) (fun b z => z.elim .inl fun z => .inr (by rw [z]; exact hD)) hdA
        rw [List.getElem?_map, List.getElem?_eq_getElem hil] at e1
        have ed : f l[i] = d := Option.some.inj e1
        have hmem : l[i] ∈ l := List.getElem_mem hil
        have htk : l.take (i + 1) = l.take i ++ [l[i]] := by rw [List.take_succ, List.getElem?_eq_getElem hil]; rfl
        rw [← ed] at a1
        have eb := sb Dd _ ea
        have Eb := bs (sa.trans sb) (.dT eb)
        refine gOf_ok (K := X.K) Eb (a1.weak fun b z => z.elim (fun z => .inl (.inl z)) fun z => z.elim id fun z => .inl (.inr (.inr (mo_wipe z)))) (hf _ hmem) fun σ2 E2 hw => ⟨(hw _ hown).trans wipe_wipe, ?_⟩
        unfold tYes
        dsimp only
        rw [if_pos rfl]
        refine Bv.go (hk1 _ hmem) E2 fun v3 H3 s3 r3 => ?_
        refine Bv.go (he _ hmem) (E2.same s3) fun v H4 s4 r4 => ?_
        have s34 := s3.trans s4
        have e4 := s34 Dd _ eb
        obtain ⟨cc, rfl, ec⟩ := Rd.key (.inl (show At _ H3 v3 (tD (kf l[i])) from r3))
        have av := (r4.stOf hk (E2.same s3).avd).weak (Z' := fun b => Av F ρ b ∨ b = Dd) fun b z => .inr (.inl z)
        have len : kvs.length = i := by rw [ta.length, List.length_map, List.length_take]; omega
        have fresh : (kf l[i]).map Sum.inl ∉ kvs.map (·.1) := by
          rw [ta.keys]
          intro z
          obtain ⟨p, hp, e⟩ := List.mem_map.mp z
          obtain ⟨a, ha, rfl⟩ := List.mem_map.mp hp
          have e := inl_inj e
          obtain ⟨j, hj, ej⟩ := List.getElem_of_mem ha
          rw [List.length_take] at hj
          have ej2 : l[j]'(by omega) = a := by rw [← ej, List.getElem_take]
          rw [← ej2] at e
          have : j = i := (List.getElem?_inj (by rw [List.length_map]; omega) nd).mp (show (l.map kf)[j]? = (l.map kf)[i]? by rw [List.getElem?_map, List.getElem?_map, List.getElem?_eq_getElem hil, List.getElem?_eq_getElem (by omega)]; exact congrArg some e)
          omega
        refine ⟨kvs, (kf l[i]).map Sum.inl, cc, rfl, s4 cc _ ec, e4, by omega, ?_, kvs ++ [((kf l[i]).map Sum.inl, v)], by rw [putK_new fresh]; exact upd_same, ?_⟩
        · intro b o e
          rw [upd_ne (ne_of_none e hD)]
          exact ((sa.trans sb).trans s34) b o e
        · rw [htk, List.map_append]
          have kp : ∀ b o, ¬ (Av F ρ b ∨ b = Dd) → H4 b = some o → upd H4 Dd (.dT (putK kvs ((kf l[i]).map Sum.inl) v)) b = some o := fun b o n e => by rw [upd_ne fun z => n (.inr z)]; exact e
          exact ((ta.move (fun _ z => .inl z) fun b o _ e => (sb.trans s34) b o e).move (fun _ z => .inl z) kp).snoc (av.move (fun _ z => .inl z) kp)
      · have e : i = l.length := by omega
        subst e
        rw [List.take_length] at ta
        refine .inl ⟨by have := wkk.stops Ha gg; rwa [n0] at this, q _ Ha (s1.trans sa) ⟨Dd, rfl, s1.free hD, kvs, ea, ta⟩⟩)
/-! ### over the keys of an own dict -/
theorem e_lcD {x : Str} {pp : Bool} {c : Addr} {kvs : List (List Int × D)} {kf : List Int × D → Bool} {g : List Int × D → D} (i : Nat) (T : Tg) (hρ : ρ[i]? = some (.own pp c (.dT kvs))) (hc : X.calm = true) (hN : X.N.Nodup) (ok : BlkOk X.N X.env.scope scope own) (hT : ∀ s H C cl fp, TgOk (blk X scope s H C cl fp) tg T) (hf : ∀ a ∈ kvs, fitsT T (tD a.1)) (hown : ∀ j ∈ T.js, j ∈ own.map (·.2))
    (ht : ∀ a ∈ kvs, BvTs X scope (setE T (tD a.1) (wipeE (ρ.set i .any) (own.map (·.2)))) ifs (kf a)) (he : ∀ a ∈ kvs, kf a = true → Bv k X scope (setE T (tD a.1) (wipeE (ρ.set i .any) (own.map (·.2)))) elt (g a)) (hk : k ≠ .rd := by exact fun z => nomatch z)
    (hNi : X.N[i]? = some x := by rfl) (hv : Vis X.env.scope x := by first | exact Or.inl rfl | exact Or.inr (Or.inl rfl) | exact Or.inr (Or.inr rfl)) (hd : (x == ("__debug__" : Str)) = false := by decide) (hcd : (x == ("__classdict__" : Str)) = false := by decide)
    (hs : ∀ v, foldedSetIterable (.Name x p) X.env v = pure v := by intro _; rfl) : Ev .fr X ρ (.ListComp elt [⟨tg, .Name x p, ifs, 0⟩] scope pos) (.lst ((kvs.filter kf).map g)) := .mk fun F σ H E Q q => by
  obtain ⟨e1, ⟨ks, ec, at_⟩, _⟩ := E.own hρ
  refine wT.here fun sz0 => wT.of (pe_lock (pe_lc (g := gOf X.K T) (tt := bTs X scope ifs) (te := bT X scope elt) hc hN pi_w ok (fun s H C cl fp => hT s H C cl fp) (fun s H C cl fp => ⟨fun pins s' σ' H' Q' I h => h s H C cl fp pins s' I⟩) (fun s H C cl fp => ⟨fun pins s' σ' H' Q' I h => h s H C cl fp pins s' I⟩) hs)) ?_
  refine ⟨c, _, ec, True.intro, fun od => ?_⟩
  have mc : Mo ρ c := ⟨pp, _, List.mem_of_getElem? hρ⟩
  have avc : Av F ρ c := .inr (.inr mc)
  have mo' : ∀ b, Mo (ρ.set i .any) b → Mo ρ b := fun b => mo_set fun p d => by intro z; cases z
  have keep : ∀ b o, b ≠ c → H b = some o → upd H c (.frz od (.dT ks)) b = some o := fun b o n e => by rw [upd_ne n]; exact e
  have obk : ∀ b, Ob H b → Ob (upd H c (.frz od (.dT ks))) b := fun b ⟨o, e, n⟩ => by
    by_cases z : b = c
    · rw [z]; exact ⟨_, upd_same, fun _ z => nomatch z⟩
    · exact ⟨o, keep b o z e, n⟩
  obtain ⟨F2, eF⟩ : ∃ F2 : Fr, F2 = { Z := F.Z, Y := Av F ρ, P := fun _ => False, H0 := fun _ => none } := ⟨_, rfl⟩
  have av2 : ∀ b, Av F2 (ρ.set i .any) b → Av F ρ b := fun b z => by
    rw [eF] at z
    exact z.elim .inl fun z => z.elim id fun z => .inr (.inr (mo' b z))
  have av3 : ∀ b, Av F ρ b → Av F2 (ρ.set i .any) b := fun b z => by rw [eF]; exact .inr (.inl z)
  have E2 : EnvAt F2 (upd H c (.frz od (.dT ks))) σ (ρ.set i .any) := by
    refine ⟨fun b h => obk b (E.zd b (by rw [eF] at h; exact h)), fun b h => obk b (E.avo b (by rw [eF] at h; exact h)), fun b h => (by rw [eF] at h; exact h.elim), fun b o _ e => (by rw [eF] at e; cases e), by rw [List.length_set]; exact E.len, fun j u hj => ?_, fun j m p q' b d1 d2 h1 h2 => ?_⟩
    · by_cases hj2 : j = i
      · subst hj2
        rw [List.getElem?_set_self (List.getElem?_eq_some_iff.mp hρ).1] at hj
        cases hj
        trivial
      · have hj3 : ρ[j]? = some u := by rwa [List.getElem?_set_ne (Ne.symm hj2)] at hj
        have kp : ∀ b o, ¬ Av F ρ b → H b = some o → upd H c (.frz od (.dT ks)) b = some o := fun b o n e => keep b o (fun z => n (by rw [z]; exact avc)) e
        cases u with
        | any => trivial
        | scr l => obtain ⟨a, o, e1, n, e2⟩ := E.ent j _ hj3; exact ⟨a, o, e1, fun z => n (av2 a z), kp _ _ n e2⟩
        | dat d =>
          obtain ⟨v, e2, a2⟩ := E.ent j _ hj3
          exact ⟨v, e2, a2.move (fun b z => .inl (av2 b z)) kp⟩
        | own p b d =>
          obtain ⟨e2, t2, f2⟩ := E.ent j _ hj3
          have nb : b ≠ c := fun z => hj2 (E.dj j i p pp c d _ (by rw [← z]; exact hj3) hρ)
          exact ⟨e2, t2.move (fun b z => .inl (av2 b z)) kp (fun o e => keep b o nb e), .inr (by rw [eF]), fun z => by rw [eF]; exact f2.2 z⟩
    · have old : ∀ {j : Nat} {p : Bool} {b : Addr} {d1 : D}, (ρ.set i .any)[j]? = some (.own p b d1) → ρ[j]? = some (.own p b d1) := fun {j p b d1} hj => by
        by_cases hij : i = j
        · subst hij
          rw [List.getElem?_set_self (List.getElem?_eq_some_iff.mp hρ).1] at hj
          cases hj
        · rwa [List.getElem?_set_ne hij] at hj
      exact E.dj j m p q' b d1 d2 (old h1) (old h2)
  have n0 : (kvs.map fun a => tD a.1).length = ks.length := by rw [List.length_map, at_.length]
  have ia : ∀ (Z : Addr → Prop) (H' : Hp) (l : List Int), Ats Z H' ((l.map (Sum.inl : Int → Key)).map kV) (l.map .int) := fun Z H' l => by
    induction l with
    | nil => exact .nil
    | cons i l ih => exact .cons (.int i) ih
  refine lc_go (f := fun a : List Int × D => tD a.1) (g := g) (p := kf) (k := k) E2 (fun R r => ?_) hf hown ht he hk fun v H' s r => ?_
  · refine wI.of (pi_keys (pe_var hNi hv hd hcd)) ⟨_, e1, c, od, rfl, .inr ⟨ks, upd_same, r _ _ (Same.refl _) ⟨by rw [n0]; exact sz0.2.2.1 c ks ec, fun H' => H' c = some (.frz od (.dT ks)), upd_same, fun H1 H2 g s => s c _ g, ?_⟩⟩⟩
    rw [n0]
    refine walk_keysT.mono (fun _ g => g) fun j H1 x H2 hj g y => ?_
    obtain ⟨rfl, kk, v, q', hk', rfl, hq⟩ := y
    refine ⟨Same.refl _, fun Z hz ho => ?_⟩
    have hj' : j < kvs.length := by rw [← at_.length]; exact hj
    refine ⟨tD kvs[j].1, by rw [List.getElem?_map, List.getElem?_eq_getElem hj']; rfl, ?_⟩
    have ek : kk = kvs[j].1.map Sum.inl := by
      have e := at_.keys
      have e3 := congrArg (fun l => l[j]?) e
      simp only [List.getElem?_map, hk', List.getElem?_eq_getElem hj', Option.map_some] at e3
      exact Option.some.inj e3
    subst ek
    exact .tup (fun z => (ho _ z).no hq) hq (ia Z _ _)
  · have hc' := s c _ upd_same
    refine ⟨hc', q v _ (fun b o e => ?_) ?_⟩
    · by_cases z : b = c
      · rw [z] at e ⊢
        rw [ec] at e
        rw [upd_same]; exact e
      · rw [upd_ne z]; exact s b o (keep b o z e)
    · obtain ⟨b, rfl, nb, t⟩ := r
      have nbc : b ≠ c := fun z => by rw [z, upd_same] at nb; cases nb
      refine ⟨b, rfl, by rw [← nb, upd_ne nbc], t.move (fun b' z => .inl (z.imp (av3 b') id)) (fun b' o n e => ?_) fun o e => by rw [upd_ne nbc]; exact e⟩
      rw [upd_ne fun z => n (.inl (by rw [z]; exact av3 c avc))]
      exact e
end
end TR
/-! ## C16 -/
set_option Elab.async false
set_option linter.all false
set_option maxRecDepth 100000
namespace TR
open PySem L2
section
variable {X : Cx} {ρ : En} {a b c e i0 f0 : Expr} {rest : List Expr} {k k1 k2 k3 : Kd} {d d1 d2 : D} {l l1 l2 : List D} {pos pos' p p2 q p' apos : Pos} {N : NK} {R : RK}
/-! dicts with int keys -/
def getI (kvs : List (Int × D)) (i : Int) : Option D := (kvs.find? fun p => decide (p.1 = i)).map (·.2)
theorem AtI.val {Z : Addr → Prop} {H : Hp} {i : Int} : ∀ {vs : List (Key × V)} {kvs : List (Int × D)}, AtI Z H vs kvs → OptAt Z H (valV vs (Sum.inl i)) (getI kvs i)
  | _, _, .nil => rfl
  | _, _, .cons (k := k') (v := v) (d := d) (vs := vs) (ds := ds) h t => by
    have ih := AtI.val (i := i) t
    by_cases e : k' = i
    · subst e
      have e1 : getI ((k', d) :: ds) k' = some d := by simp [getI, List.find?_cons]
      rw [e1]
      exact ⟨v, by rw [valV_pos rfl], h⟩
    · have e1 : getI ((k', d) :: ds) i = getI ds i := by simp [getI, List.find?_cons, e]
      rw [e1, valV_neg (fun q => e (Sum.inl.inj q))]
      exact ih
theorem OptAt.getD {Z : Addr → Prop} {H : Hp} {o : Option V} {od : Option D} {z : V} (h : OptAt Z H o od) (hz : At Z H z d) : At Z H (o.getD z) (od.getD d) := by
  cases od with
  | none => rw [show o = none from h]; exact hz
  | some d' => obtain ⟨v, rfl, a⟩ := h; exact a
theorem OptAt.same {Z : Addr → Prop} {H H' : Hp} {o : Option V} {od : Option D} (h : OptAt Z H o od) (s : Same H H') : OptAt Z H' o od := by
  cases od with
  | none => exact h
  | some d' => obtain ⟨v, e, a⟩ := h; exact ⟨v, e, a.same s⟩
/-- d.get(k, x) -/
theorem e_getT {kvs : List (List Int × D)} {kk : List Int} (hu : X.A.units + 1 < cLine) (ho : Ev k1 X ρ a (.dT kvs)) (he : Ev k2 X ρ b (tD kk)) (hf : Ev k3 X ρ c d) (hk : k3 ≠ .rd := by exact fun z => nomatch z) (m : M2 X a "get" apos b c pos := by exact ⟨rfl, rfl, rfl, rfl⟩) : Ev .st X ρ (.Call (.Attribute a "get" apos) [b, c] [] pos) ((getT kvs kk).getD d) := .mk fun F σ H E Q q =>
  wT.of (pe_dget2 hu pe_w pe_w pe_w m) (ho F σ H E _ fun x H1 s1 r1 => by
    obtain ⟨a, vs, rfl, ea, t⟩ := r1.rdOf.dT
    refine ⟨a, rfl, .inr ⟨vs, .inl ea⟩, he F σ H1 (E.same s1) _ fun y H2 s2 r2 => hf F σ H2 ((E.same s1).same s2) _ fun z H3 s3 r3 => ?_⟩
    obtain ⟨cc, rfl, ec⟩ := (r2.rdOf.same s3).key
    have t3 := (t.move (fun _ z => .inl z) fun b o _ e => (s2.trans s3) b o e)
    exact ⟨_, DGet.t ((s2.trans s3) _ _ ea) ec, q _ H3 ((s1.trans s2).trans s3) (t3.val.getD (r3.stOf hk ((E.same s1).same s2).avd))⟩)
theorem e_getI {kvs : List (Int × D)} {kk : Int} (hu : X.A.units + 1 < cLine) (ho : Ev k1 X ρ a (.dI kvs)) (he : Ev k2 X ρ b (.int kk)) (hf : Ev k3 X ρ c d) (hk : k3 ≠ .rd := by exact fun z => nomatch z) (m : M2 X a "get" apos b c pos := by exact ⟨rfl, rfl, rfl, rfl⟩) : Ev .st X ρ (.Call (.Attribute a "get" apos) [b, c] [] pos) ((getI kvs kk).getD d) := .mk fun F σ H E Q q =>
  wT.of (pe_dget2 hu pe_w pe_w pe_w m) (ho F σ H E _ fun x H1 s1 r1 => by
    obtain ⟨a, vs, rfl, ea, t⟩ := r1.rdOf.dI
    refine ⟨a, rfl, .inl ⟨vs, .inl ea⟩, he F σ H1 (E.same s1) _ fun y H2 s2 r2 => hf F σ H2 ((E.same s1).same s2) _ fun z H3 s3 r3 => ?_⟩
    have ey : y = V.int kk := r2.rdOf.int
    subst ey
    have t3 := (t.move (fun _ z => .inl z) fun b o _ e => (s2.trans s3) b o e)
    exact ⟨_, DGet.k (k := Sum.inl kk) ((s2.trans s3) _ _ ea), q _ H3 ((s1.trans s2).trans s3) (t3.val.getD (r3.stOf hk ((E.same s1).same s2).avd))⟩)
/-- d[k] = v, an own dict with int keys -/
def putI (kvs : List (Int × D)) (i : Int) (d : D) : List (Int × D) := if (kvs.any fun p => decide (p.1 = i)) = true then kvs.map (fun p => if p.1 = i then (p.1, d) else p) else kvs ++ [(i, d)]
theorem AtI.length {Z : Addr → Prop} {H : Hp} : ∀ {vs : List (Key × V)} {kvs : List (Int × D)}, AtI Z H vs kvs → vs.length = kvs.length
  | _, _, .nil => rfl
  | _, _, .cons _ t => congrArg Nat.succ t.length
theorem AtI.put {Z : Addr → Prop} {H : Hp} {i : Int} {v : V} {vs : List (Key × V)} {kvs : List (Int × D)} (h : AtI Z H vs kvs) (a : At Z H v d) : AtI Z H (putK vs (Sum.inl i) v) (putI kvs i d) := by
  have any : ∀ {vs : List (Key × V)} {kvs : List (Int × D)}, AtI Z H vs kvs → (vs.any fun p => decide (p.1 = Sum.inl i)) = (kvs.any fun p => decide (p.1 = i)) := fun {vs kvs} h => by
    induction kvs generalizing vs with
    | nil => cases h; rfl
    | cons p kvs ih =>
      cases h with
      | cons h t =>
        rw [List.any_cons, List.any_cons, ih t]
        congr 1
        simp
  have rep : ∀ {vs : List (Key × V)} {kvs : List (Int × D)}, AtI Z H vs kvs → AtI Z H (vs.map fun p => if p.1 = Sum.inl i then (p.1, v) else p) (kvs.map fun p => if p.1 = i then (p.1, d) else p) := fun {vs kvs} h => by
    induction kvs generalizing vs with
    | nil => cases h; exact .nil
    | cons p kvs ih =>
      cases h with
      | @cons k' u d' _ _ h t =>
        rw [List.map_cons, List.map_cons]
        by_cases e : k' = i
        · rw [if_pos (by rw [e]), if_pos e]; exact .cons a (ih t)
        · rw [if_neg (fun z => e (Sum.inl.inj z)), if_neg e]; exact .cons h (ih t)
  have app : ∀ {vs : List (Key × V)} {kvs : List (Int × D)}, AtI Z H vs kvs → AtI Z H (vs ++ [(Sum.inl i, v)]) (kvs ++ [(i, d)]) := fun {vs kvs} h => by
    induction kvs generalizing vs with
    | nil => cases h; exact .cons a .nil
    | cons p kvs ih => cases h with | cons h t => exact .cons h (ih t)
  unfold putK putI
  rw [any h]
  split
  · exact rep h
  · exact app h
theorem s_dputI {x : Str} {cc : Addr} {pp : Bool} {kvs : List (Int × D)} {kk : Int} (i : Nat) (hu : X.A.units + 1 < cLine) (hρ : ρ[i]? = some (.own pp cc (.dI kvs))) (hv : Ev k1 X ρ e d) (hk : Ev k2 X ρ b (.int kk)) (q : N (ρ.set i (.own pp cc (.dI (putI kvs kk d))))) (hsz : kvs.length < sizeLine) (hk1 : k1 ≠ .rd := by exact fun z => nomatch z)
    (hN : X.N[i]? = some x := by rfl) (hvis : Vis X.env.scope x := by first | exact Or.inl rfl | exact Or.inr (Or.inl rfl) | exact Or.inr (Or.inr rfl)) (hd : (x == ("__debug__" : Str)) = false := by decide) (hcd : (x == ("__classdict__" : Str)) = false := by decide)
    (hs : swapsWith e (some (.Subscript (.Name x p) b pos')) pos.line X.env = pure false := by rfl) : ExS X ρ (.Assign [.Subscript (.Name x p) b pos'] e pos) N R := .mk fun F σ H hy E D w =>
  wS.of (ps_dput hu (pe_var hN hvis hd hcd) pe_w pe_w hs) (hv F σ H E _ fun v H1 s1 r1 => by
    obtain ⟨e1, ⟨vs, ec, t⟩, _⟩ := (E.same s1).own hρ
    refine ⟨_, e1, hk F σ H1 (E.same s1) _ fun y H2 s2 r2 => ?_⟩
    have ey : y = V.int kk := r2.rdOf.int
    subst ey
    have t2 := (t.move (fun _ z => .inl z) fun b o _ e => s2 b o e)
    have v2 := (r1.stOf hk1 E.avd).same s2
    have len := t.length
    refine ⟨cc, _, rfl, DPut.k (k := Sum.inl kk) (s2 _ _ ec) (by rw [len]; exact hsz), w.1 σ _ _ (((E.same s1).same s2).change (d2 := .dI (putI kvs kk d)) hρ (fun b o n e => by rw [upd_ne n]; exact e) ⟨_, upd_same, ?_⟩) q⟩
    exact (t2.put v2).move (fun _ z => .inl z) fun b o n e => by rw [upd_ne fun z => n (by rw [z]; exact .inr (.inr ⟨pp, _, List.mem_of_getElem? hρ⟩))]; exact e)
/-- l[i] = v, an own list -/
theorem Ats.set {Z : Addr → Prop} {H : Hp} {v : V} : ∀ {xs : List V} {l : List D}, Ats Z H xs l → At Z H v d → ∀ j : Nat, Ats Z H (xs.set j v) (l.set j d)
  | _, _, .nil, _, _ => .nil
  | _, _, .cons _ t, a, 0 => .cons a t
  | _, _, .cons h t, a, j + 1 => .cons h (t.set a j)
theorem s_setL {x : Str} {cc : Addr} {pp : Bool} {kk : Int} {j : Nat} {kt : Pos} (i : Nat) (hρ : ρ[i]? = some (.own pp cc (.lst l))) (hv : Ev k1 X ρ e d) (hk : Ev k2 X ρ b (.int kk)) (hj : ixN l.length kk = some j) (q : N (ρ.set i (.own pp cc (.lst (l.set j d))))) (hk1 : k1 ≠ .rd := by exact fun z => nomatch z)
    (hN : X.N[i]? = some x := by rfl) (hvis : Vis X.env.scope x := by first | exact Or.inl rfl | exact Or.inr (Or.inl rfl) | exact Or.inr (Or.inr rfl)) (hd : (x == ("__debug__" : Str)) = false := by decide) (hcd : (x == ("__classdict__" : Str)) = false := by decide)
    (hs : swapsWithSole [.Subscript (.Name x p) b pos'] e pos.line X.env = pure false := by rfl) (hw : swappedStores [.Subscript (.Name x p) b pos'] e X.env = pure none := by rfl) (h1 : (assignEach [.Subscript (.Name x p) b pos'] X.env).map (·.2) = [assign (.Subscript (.Name x p) b pos') X.env] := by rfl)
    (ha : ∀ v, assign (.Subscript (.Name x p) b pos') X.env v = (do
      let ov ← holding [v] (eval (.Name x p) X.env)
      let iv ← holding [v, ov] (eval b X.env)
      standAt pos'
      holding [v, ov, iv] (setItem ov iv v)
      release [v, ov, iv] []) := by intro _; rfl) : ExS X ρ (.Assign [.Subscript (.Name x p) b pos'] e pos) N R := .mk fun F σ H hy E D w =>
  wS.of (ps_asg pe_w (pg_sub (pe_var hN hvis hd hcd) pe_w set_list ha) hs hw h1) (hv F σ H E _ fun v H1 s1 r1 => by
    obtain ⟨e1, ⟨xs, ec, t⟩, _⟩ := (E.same s1).own hρ
    refine ⟨_, e1, hk F σ H1 (E.same s1) _ fun y H2 s2 r2 => ?_⟩
    have ey : y = V.int kk := r2.rdOf.int
    subst ey
    have v2 := (r1.stOf hk1 E.avd).same s2
    refine ⟨cc, xs, kk, j, rfl, rfl, s2 _ _ ec, by rw [t.length]; exact hj, w.1 σ _ _ (((E.same s1).same s2).change (d2 := .lst (l.set j d)) hρ (fun b o n e => by rw [upd_ne n]; exact e) ⟨_, upd_same, ?_⟩) q⟩
    exact ((t.same s2).set v2 j).move (fun _ z => .inl z) fun b o n e => by rw [upd_ne fun z => n (by rw [z]; exact .inr (.inr ⟨pp, _, List.mem_of_getElem? hρ⟩))]; exact e)
/-- least <= x <= most -/
theorem e_chain {i j m : Int} (ha : Ev k1 X ρ a (.int i)) (hb : Ev k2 X ρ b (.int j)) (hc : Ev k3 X ρ c (.int m)) (hm : lastMarks [.LtE, .LtE] [b, c] = false := by with_unfolding_all rfl) : Ev .st X ρ (.Compare a [.LtE, .LtE] [b, c] pos) (.bl (decide (i ≤ j) && decide (j ≤ m))) := .mk fun F σ H E Q q =>
  wT.of (pe_chain op_le op_le pe_w pe_w pe_w hm) (ha F σ H E _ fun x H1 s1 r1 => hb F σ H1 (E.same s1) _ fun y H2 s2 r2 => by
    rw [r1.rdOf.int, r2.rdOf.int]
    refine ⟨i, j, rfl, rfl, decide (i ≤ j), rfl, ?_⟩
    by_cases h : i ≤ j
    · rw [decide_eq_true h, Bool.true_and] at q
      rw [if_pos (decide_eq_true h)]
      exact hc F σ H2 ((E.same s1).same s2) _ fun z H3 s3 r3 => ⟨j, m, rfl, r3.rdOf.int, q _ H3 ((s1.trans s2).trans s3) (.bl _)⟩
    · rw [decide_eq_false h, Bool.false_and] at q
      rw [if_neg (by simpa using h)]
      exact q _ H2 (s1.trans s2) (.bl _))
/-- l or l2 -/
theorem e_orL (ha : Ev .fr X ρ a (.lst l1)) (hb : l1 = [] → Ev .fr X ρ b (.lst l2)) : Ev .fr X ρ (.BoolOp .Or [a, b] pos) (.lst (if l1 = [] then l2 else l1)) := .mk fun F σ H E Q q =>
  wT.of (pe_orT pe_w (pe_one pe_w)) (ha F σ H E _ fun v H1 s1 r1 => by
    obtain ⟨c, rfl, n, xs, ec, t⟩ := r1
    refine ⟨!xs.isEmpty, .inl ⟨xs, SqL.of ec, rfl⟩, ?_⟩
    cases xs with
    | nil =>
      cases t
      rw [if_pos rfl] at q
      rw [if_neg (show ¬ (!([] : List V).isEmpty) = true by decide)]
      exact hb rfl F σ H1 (E.same s1) _ fun v H2 s2 r2 => q v H2 (s1.trans s2) (r2.back s1)
    | cons x xs =>
      cases t with
      | cons a1 t =>
        rw [if_pos (by simp)]
        exact q _ H1 s1 (by rw [if_neg (by simp)]; exact ⟨c, rfl, n, _, ec, .cons a1 t⟩))
/-- the place of an int in a list -/
theorem Ats.ixI {Z : Addr → Prop} {H : Hp} {xs : List V} {ns : List Int} (t : Ats Z H xs (ns.map .int)) : xs = ns.map V.int := t.ints
theorem e_index {ns : List Int} {m : Int} {j : Nat} (ha : Ev k1 X ρ a (.lst (ns.map .int))) (hb : Ev k2 X ρ b (.int m)) (hj : ns[j]? = some m) (hf : ∀ n, n < j → ns[n]? ≠ some m)
    (hbase : attributeBase a "index" X.env (eval a X.env) = eval a X.env := by rfl)
    (hfew : ((backTo pos (starEach [b] X.env)).all (fun x => !x.1) && (backToKw pos (keywordEach [] X.env)).all (fun x => x.1.isSome) && decide ([b].length + ([] : List Keyword).length + (if ([] : List Keyword).isEmpty then 0 else 1) < 30)) = true := by rfl)
    (hl : (apos.endLine == pos.line) = true := by rfl) (hs1 : starEach [b] X.env = (false, eval b X.env) :: starEach [] X.env := by rfl) : Ev .st X ρ (.Call (.Attribute a "index" apos) [b] [] pos) (.int (j : Nat)) := .mk fun F σ H E Q q =>
  wT.of (pe_bm PySem.F.plainAttrs_list PySem.F.slot_list_index PySem.F.type_list_index mt_index pe_w pa_w hbase hfew hl hs1) (ha F σ H E _ fun x H1 s1 r1 => by
    obtain ⟨c, xs, rfl, ec, t⟩ := r1.rdOf.lst
    refine ⟨.inl ⟨rfl, xs, SqL.of ec⟩, a_cons (s := false) hb a_nil (fun z => nomatch z) hs1 F σ H1 (E.same s1) _ fun vs H2 s2 r2 => ?_⟩
    obtain ⟨v, rfl, r3⟩ := r2.one
    rw [r3.int]
    have hx := t.ints
    subst hx
    refine ⟨c, _, .int m, j, .int m, rfl, rfl, SqL.of (s2 _ _ ec), rfl, ?_, by rw [List.getElem?_map, hj]; rfl, by simp [eqV], fun n z hn hz => ?_, q _ H2 (s1.trans s2) (.int _)⟩
    · rw [List.all_map]
      exact List.all_eq_true.mpr fun x _ => rfl
    · rw [List.getElem?_map] at hz
      obtain ⟨y, hy, rfl⟩ := Option.map_eq_some_iff.mp hz
      have : y ≠ m := fun e => hf n hn (by rw [hy, e])
      simp [eqV, this])
end
/-! written tuples -/
section
variable {X : Cx} {ρ : En} {e tg : Expr} {k : Kd} {pos p p2 p3 p4 : Pos}
/-- a tuple of ints of the module -/
def KInts (K : PySem.W.Frag) (mg : Str → Option Value) (x : Str) (ns : List Int) : Prop := ∃ (a : Addr) (o : Obj) (its : Array Value) (n : Nat), mg x = some (.ref a) ∧ K.lookup a = some o ∧ o.cls = .type "tuple" ∧ o.data = .seq its n ∧ its.size ≤ sizeLine ∧ Vals (ns.map V.int) its.toList
theorem i_K {x : Str} {ns : List Int} (h : KInts X.K X.mg x ns) (hg : Gl X x := by rfl) (hd : (x == ("__debug__" : Str)) = false := by decide) : EvI X ρ tg (.Name x p) (ns.map .int) := .mk fun F σ H E R q => by
  obtain ⟨a, o, its, n, hm, hk, hc, hdt, hsz, hv⟩ := h
  have sq : ∀ H', SqT X.K H' a (ns.map V.int) := fun H' => .inr ⟨o, its, n, hk, hc, hdt, hsz, hv⟩
  refine wI.of (pi_tup (pe_glob (v := .ref a) hg hm rfl hd)) ⟨a, rfl, ⟨_, sq H⟩, q _ H (Same.refl H) ⟨?_, fun _ => True, trivial, fun _ _ _ _ => trivial, ?_⟩⟩
  · have := hv.length
    rw [List.length_map] at this ⊢
    rw [this]; simpa using hsz
  · have e : (ns.map D.int).length = (ns.map V.int).length := by simp
    rw [e]
    refine (walk_tup (K := X.K) (a := a) (xs := ns.map V.int)).mono (fun H' _ => sq H') fun i H' y H2 hi _ z => ?_
    obtain ⟨rfl, z⟩ := z
    refine ⟨Same.refl _, fun Z _ _ => ?_⟩
    rw [List.getElem?_map] at z
    obtain ⟨m, hm', rfl⟩ := Option.map_eq_some_iff.mp z
    exact ⟨.int m, by rw [List.getElem?_map, hm']; rfl, .int m⟩
/-- a tuple of tuples of ints of the module -/
def KRows (K : PySem.W.Frag) (mg : Str → Option Value) (x : Str) (rs : List (List Int)) : Prop := ∃ (a : Addr) (o : Obj) (its : Array Value) (n : Nat) (bs : List Addr), mg x = some (.ref a) ∧ K.lookup a = some o ∧ o.cls = .type "tuple" ∧ o.data = .seq its n ∧ its.size ≤ sizeLine ∧ its.toList = bs.map Value.ref ∧ bs.length = rs.length ∧
  ∀ (i : Nat) b r, bs[i]? = some b → rs[i]? = some r → ∃ (o : Obj) (its : Array Value) (n : Nat), K.lookup b = some o ∧ o.cls = .type "tuple" ∧ o.data = .seq its n ∧ its.size ≤ sizeLine ∧ Vals (r.map V.int) its.toList
theorem refs_vals : ∀ bs : List Addr, Vals (bs.map V.ref) (bs.map Value.ref)
  | [] => .nil
  | b :: bs => .cons rfl (refs_vals bs)
/-- R[i][j] -/
theorem e_KRow {x : Str} {rs : List (List Int)} {i j m : Int} {r : List Int} {e2 : Expr} {k2 : Kd} (h : KRows X.K X.mg x rs) (ha : Ev k X ρ e (.int i)) (hb : Ev k2 X ρ e2 (.int j)) (h1 : atI rs i = some r) (h2 : atI r j = some m) (hg : Gl X x := by rfl) (hd : (x == ("__debug__" : Str)) = false := by decide) (hp1 : PlainIx e := by exact fun _ _ => rfl) (hp2 : PlainIx e2 := by exact fun _ _ => rfl) :
    Ev .st X ρ (.Subscript (.Subscript (.Name x p) e p2) e2 p3) (.int m) := .mk fun F σ H E Q q => by
  obtain ⟨a, o, its, n, bs, hm, hk, hc, hdt, hsz, hbs, hl, rows⟩ := h
  have sq : ∀ H', SqT X.K H' a (bs.map V.ref) := fun H' => .inr ⟨o, its, n, hk, hc, hdt, hsz, by rw [hbs]; exact refs_vals bs⟩
  obtain ⟨b, hb1, hb2⟩ : ∃ b, atI bs i = some b ∧ ∃ (o : Obj) (its : Array Value) (n : Nat), X.K.lookup b = some o ∧ o.cls = .type "tuple" ∧ o.data = .seq its n ∧ its.size ≤ sizeLine ∧ Vals (r.map V.int) its.toList := by
    unfold atI at h1 ⊢
    rw [hl]
    cases q : ixN rs.length i with
    | none => rw [q] at h1; cases h1
    | some jj =>
      rw [q] at h1
      have h1 : rs[jj]? = some r := h1
      have hj : jj < bs.length := by rw [hl]; exact (List.getElem?_eq_some_iff.mp h1).1
      exact ⟨bs[jj], List.getElem?_eq_getElem hj, rows jj _ r (List.getElem?_eq_getElem hj) h1⟩
  have sq2 : ∀ H', SqT X.K H' b (r.map V.int) := fun H' => .inr hb2
  have at1 : atI (bs.map V.ref) i = some (.ref b) := by
    unfold atI at hb1 ⊢
    rw [List.length_map]
    cases q : ixN bs.length i with
    | none => rw [q] at hb1; cases hb1
    | some jj => rw [q] at hb1; show (bs.map V.ref)[jj]? = _; rw [List.getElem?_map, show bs[jj]? = some b from hb1]; rfl
  have at2 : atI (r.map V.int) j = some (.int m) := by
    unfold atI at h2 ⊢
    rw [List.length_map]
    cases q : ixN r.length j with
    | none => rw [q] at h2; cases h2
    | some jj => rw [q] at h2; show (r.map V.int)[jj]? = _; rw [List.getElem?_map, show r[jj]? = some m from h2]; rfl
  exact wT.of (pe_ix (ix_list.or ix_tup) (pe_ix (ix_list.or ix_tup) (pe_glob (v := .ref a) hg hm rfl hd) pe_w hp1) pe_w hp2) (ha F σ H E _ fun y H1 s1 r1 =>
    .inr ⟨a, _, i, _, rfl, r1.rdOf.int, sq H1, at1, hb F σ H1 (E.same s1) _ fun z H2 s2 r2 => .inr ⟨b, _, j, _, rfl, r2.rdOf.int, sq2 H2, at2, q _ H2 (s1.trans s2) (.int m)⟩⟩)
end
end TR
/-! ## C17 -/
set_option Elab.async false
set_option linter.all false
set_option maxRecDepth 100000
namespace TR
open PySem L2
/-! ### expressions that change own objects -/
def Chg (ρ : En) (H H' : Hp) : Prop := (∀ b o, ¬ Mo ρ b → H b = some o → H' b = some o) ∧ ∀ b, H' b = none → H b = none
def MoEq (ρ ρ' : En) : Prop := ∀ b, Mo ρ' b ↔ Mo ρ b
theorem MoEq.refl (ρ : En) : MoEq ρ ρ := fun _ => Iff.rfl
theorem MoEq.trans {a b c : En} (h : MoEq a b) (h' : MoEq b c) : MoEq a c := fun x => (h' x).trans (h x)
theorem MoEq.av {a b : En} (h : MoEq a b) (F : Fr) (x : Addr) : Av F b x ↔ Av F a x := by unfold Av; rw [h x]
theorem Same.chg {ρ : En} {H H' : Hp} (s : Same H H') : Chg ρ H H' := ⟨fun b o _ e => s b o e, fun b n => s.free n⟩
theorem Chg.trans {ρ ρ1 : En} {H H1 H2 : Hp} (m : MoEq ρ ρ1) (h : Chg ρ H H1) (h' : Chg ρ1 H1 H2) : Chg ρ H H2 := ⟨fun b o n e => h'.1 b o (fun z => n ((m b).1 z)) (h.1 b o n e), fun b n => h.2 b (h'.2 b n)⟩
/-- the expression gives d and leaves ρ' -/
structure EvM (k : Kd) (X : Cx) (ρ : En) (e : Expr) (d : D) (ρ' : En) : Prop where
  mo : MoEq ρ ρ'
  go : ∀ (F : Fr) (σ : St) (H : Hp), EnvAt F H σ ρ → ∀ Q : VK, (∀ v H', Chg ρ H H' → EnvAt F H' σ ρ' → Res k (Av F ρ') H H' v d → Q v H') → wT X e σ H Q
structure EvMB (X : Cx) (ρ : En) (e : Expr) (b : Bool) (ρ' : En) : Prop where
  mo : MoEq ρ ρ'
  go : ∀ (F : Fr) (σ : St) (H : Hp), EnvAt F H σ ρ → ∀ Q : Bool → Hp → Prop, (∀ H', Chg ρ H H' → EnvAt F H' σ ρ' → Q b H') → wB X e σ H Q
/-- arguments, all to be held -/
structure EvMA (X : Cx) (ρ : En) (es : List Expr) (ds : List D) (ρ' : En) : Prop where
  mo : MoEq ρ ρ'
  go : ∀ (F : Fr) (σ : St) (H : Hp), EnvAt F H σ ρ → ∀ Q : List V → Hp → Prop, (∀ vs H', Chg ρ H H' → EnvAt F H' σ ρ' → Ats (Av F ρ') H' vs ds → Q vs H') → wA X es σ H Q
structure EvMI (X : Cx) (ρ : En) (tg it : Expr) (ds : List D) (ρ' : En) : Prop where
  mo : MoEq ρ ρ'
  go : ∀ (F : Fr) (σ : St) (H : Hp), EnvAt F H σ ρ → ∀ R : It → Hp → Prop, (∀ J H1, Chg ρ H H1 → EnvAt F H1 σ ρ' → Wk (fun b => Av F ρ' b ∨ H1 b = none) J ds H1 → R J H1) → wI X tg it σ H R
section
variable {X : Cx} {ρ ρ1 ρ2 ρ3 : En} {a b c e tg it : Expr} {es rest : List Expr} {k k1 k2 : Kd} {d d1 d2 : D} {ds l : List D} {pos p pos' p1 p2 p3 : Pos} {bb b2 : Bool} {N : NK} {R : RK} {aa cc body : List Stmt}
theorem At.chg {F : Fr} {H H' : Hp} {v : V} (m : MoEq ρ ρ1) (h : At (Av F ρ) H v d) (c : Chg ρ H H') : At (Av F ρ1) H' v d := h.move (fun b z => .inl ((m.av F b).1 z)) fun b o n e => c.1 b o (fun z => n (.inr (.inr z))) e
theorem Ats.chg {F : Fr} {H H' : Hp} {v : List V} (m : MoEq ρ ρ1) (h : Ats (Av F ρ) H v ds) (c : Chg ρ H H') : Ats (Av F ρ1) H' v ds := h.move (fun b z => .inl ((m.av F b).1 z)) fun b o n e => c.1 b o (fun z => n (.inr (.inr z))) e
theorem Res.backC {Z : Addr → Prop} {H0 H1 H2 : Hp} {v : V} (s : Chg ρ H0 H1) (h : Res k Z H1 H2 v d) : Res k Z H0 H2 v d := by
  cases k with
  | rd => exact h
  | st => exact h
  | fr => obtain ⟨b, e, n, t⟩ := h; exact ⟨b, e, s.2 b n, t⟩
theorem Res.chg {F : Fr} {σ : St} {H0 H H' : Hp} {v : V} (m : MoEq ρ ρ1) (E : EnvAt F H0 σ ρ) (hk : k ≠ .rd) (h : Res k (Av F ρ) H0 H v d) (c : Chg ρ H H') : Res k (Av F ρ1) H0 H' v d := by
  cases k with
  | rd => exact absurd rfl hk
  | st => exact At.chg m h c
  | fr =>
    obtain ⟨b, e, n, t⟩ := h
    have nm : ¬ Mo ρ b := fun z => E.avd b (.inr (.inr z)) n
    refine ⟨b, e, n, t.move (fun x z => .inl (z.imp ((m.av F x).1) id)) (fun x o q e => ?_) fun o e => c.1 b o nm e⟩
    exact c.1 x o (fun z => q (.inl (.inr (.inr z)))) e
/-! from pure ones -/
theorem m_e (h : Ev k X ρ e d) : EvM k X ρ e d ρ := ⟨.refl ρ, fun F σ H E Q q => h F σ H E Q fun v H' s r => q v H' (Same.chg s) (E.same s) r⟩
theorem m_b (h : EvB X ρ e bb) : EvMB X ρ e bb ρ := ⟨.refl ρ, fun F σ H E Q q => h F σ H E Q fun H' s => q H' (Same.chg s) (E.same s)⟩
theorem EvM.cast {d' : D} (h : EvM k X ρ e d ρ1) (q : d = d') : EvM k X ρ e d' ρ1 := by rw [← q]; exact h
theorem EvM.toSt (hk : k ≠ .rd := by exact fun z => nomatch z) (h : EvM k X ρ e d ρ1) : EvM .st X ρ e d ρ1 := ⟨h.mo, fun F σ H E Q q => h.go F σ H E Q fun v H' s E' r => q v H' s E' (r.stOf hk fun b z => E.avd b ((h.mo.av F b).1 z))⟩
/-! operators -/
theorem m2_go {r : R2} (ha : EvM k1 X ρ a d1 ρ1) (hb : EvM k2 X ρ1 b d2 ρ2) (hk : k1 ≠ .rd) {kk : Kd} (hr : Op2 kk r d1 d2 d) {F : Fr} {σ : St} {H : Hp} (E : EnvAt F H σ ρ) {Q : VK} (q : ∀ v H', Chg ρ H H' → EnvAt F H' σ ρ2 → Res kk (Av F ρ2) H H' v d → Q v H') : tOp r (wT X a) (wT X b) σ H Q :=
  ha.go F σ H E _ fun x H1 c1 E1 r1 => hb.go F σ H1 E1 _ fun y H2 c2 E2 r2 => by
    have x2 : At (Av F ρ2) H2 x d1 := At.chg hb.mo (r1.stOf hk fun b z => E.avd b ((ha.mo.av F b).1 z)) c2
    exact hr (Av F ρ2) H2 x y E2.avd (.inl x2) r2.rdOf Q fun v H3 s3 r3 => q v H3 ((c1.trans ha.mo c2).trans (ha.mo.trans hb.mo) (Same.chg s3)) (E2.same s3) (r3.backC (c1.trans ha.mo c2))
theorem m_op {op : Operator} {r : R2} (ho : OpR X (binaryOp op) r) (ha : EvM k1 X ρ a d1 ρ1) (hb : EvM k2 X ρ1 b d2 ρ2) (hr : Op2 k r d1 d2 d) (hk : k1 ≠ .rd := by exact fun z => nomatch z) : EvM k X ρ (.BinOp a op b pos) d ρ2 :=
  ⟨ha.mo.trans hb.mo, fun F σ H E Q q => wT.of (pe_op ho pe_w pe_w) (m2_go ha hb hk hr E q)⟩
theorem m_add {i j : Int} (ha : EvM k1 X ρ a (.int i) ρ1) (hb : EvM k2 X ρ1 b (.int j) ρ2) (hk : k1 ≠ .rd := by exact fun z => nomatch z) : EvM .st X ρ (.BinOp a .Add b pos) (.int (i + j)) ρ2 := m_op op_add ha hb (op2I0 fun _ _ => .int _) hk
theorem m_sub {i j : Int} (ha : EvM k1 X ρ a (.int i) ρ1) (hb : EvM k2 X ρ1 b (.int j) ρ2) (hk : k1 ≠ .rd := by exact fun z => nomatch z) : EvM .st X ρ (.BinOp a .Sub b pos) (.int (i - j)) ρ2 := m_op op_sub ha hb (op2I0 fun _ _ => .int _) hk
theorem op2Eq {i j : Int} : Op2 .st (rI0 fun i j => V.bl (decide (i = j))) (.int i) (.int j) (.bl (decide (i = j))) := op2I0 fun _ _ => .bl _
theorem op2eqI {X : Cx} {i j : Int} {r : R2} (h : ∀ (Z : Addr → Prop) (H : Hp) (Q : VK), Q (.bl (decide (i = j))) H → r (.int i) (.int j) H Q) : Op2 .st r (.int i) (.int j) (.bl (decide (i = j))) := fun Z H x y _ hx hy Q q => by
  rw [hx.int, hy.int]; exact h Z H Q (q _ H (Same.refl H) (.bl _))
/-- a == b as a test, ints -/
theorem mb_eqI {i j : Int} (ha : EvM k1 X ρ a (.int i) ρ1) (hb : EvM k2 X ρ1 b (.int j) ρ2) (hk : k1 ≠ .rd := by exact fun z => nomatch z) : EvMB X ρ (.Compare a [.Eq] [b] pos) (decide (i = j)) ρ2 :=
  ⟨ha.mo.trans hb.mo, fun F σ H E Q q => wB.of (pt_cmp (pc_of op_eq pe_w pe_w) (nobehind _ (by decide) (by decide))) (m2_go (kk := .st) (d := .bl (decide (i = j))) ha hb hk (op2eqI (X := X) fun Z H Q q => ⟨rfl, by rw [dI]; exact q⟩) E fun v H' c E' r => by
    cases r; exact ⟨_, rfl, q H' c E'⟩)⟩
theorem m_eqI {i j : Int} (ha : EvM k1 X ρ a (.int i) ρ1) (hb : EvM k2 X ρ1 b (.int j) ρ2) (hk : k1 ≠ .rd := by exact fun z => nomatch z) : EvM .st X ρ (.Compare a [.Eq] [b] pos) (.bl (decide (i = j))) ρ2 :=
  ⟨ha.mo.trans hb.mo, fun F σ H E Q q => wT.of (pe_cmpR op_eq pe_w pe_w (nomark b)) (m2_go ha hb hk (op2eqI (X := X) fun Z H Q q => ⟨rfl, by rw [dI]; exact q⟩) E q)⟩
/-- a and ..: the rest is pure -/
theorem mb_and (ha : EvMB X ρ a bb ρ1) (hb : bb = true → EvW X ρ1 (.BoolOp .And (b :: rest) pos) b2) : EvMB X ρ (.BoolOp .And (a :: b :: rest) pos) (bb && b2) ρ1 := ⟨ha.mo, fun F σ H E Q q =>
  wB.of (pw_and pt_w pw_w).pt (ha.go F σ H E _ fun H1 c1 E1 => by
    cases bb with
    | true => exact (hb rfl).w E1 fun H2 s2 => q H2 (c1.trans ha.mo (Same.chg s2)) (E1.same s2)
    | false => exact q H1 c1 E1)⟩
theorem m_if (hc : EvMB X ρ c bb ρ1) (ha : bb = true → EvM k X ρ1 a d ρ2) (hb : bb = false → EvM k X ρ1 b d ρ2) : EvM k X ρ (.IfExp c a b pos) d ρ2 := by
  have mo : MoEq ρ1 ρ2 := by cases bb with | true => exact (ha rfl).mo | false => exact (hb rfl).mo
  refine ⟨hc.mo.trans mo, fun F σ H E Q q => wT.of (pe_ifExp pt_w pe_w pe_w) (hc.go F σ H E _ fun H1 c1 E1 => ?_)⟩
  cases bb with
  | true => exact (ha rfl).go F σ H1 E1 _ fun v H2 c2 E2 r2 => q v H2 (c1.trans hc.mo c2) E2 (r2.backC c1)
  | false => exact (hb rfl).go F σ H1 E1 _ fun v H2 c2 E2 r2 => q v H2 (c1.trans hc.mo c2) E2 (r2.backC c1)
/-! arguments -/
theorem ma_nil : EvMA X ρ [] [] ρ := ⟨.refl ρ, fun F σ H E Q q => wA.of pa_nil (q [] H (Same.chg (Same.refl H)) E .nil)⟩
theorem ma_cons (ha : EvM k X ρ e d ρ1) (hr : EvMA X ρ1 es ds ρ2) (hk : k ≠ .rd := by exact fun z => nomatch z) (hs : starEach (e :: es) X.env = (false, eval e X.env) :: starEach es X.env := by rfl) : EvMA X ρ (e :: es) (d :: ds) ρ2 :=
  ⟨ha.mo.trans hr.mo, fun F σ H E Q q => wA.of (pa_cons pe_w pa_w hs) (ha.go F σ H E _ fun x H1 c1 E1 r1 => hr.go F σ H1 E1 _ fun xs H2 c2 E2 r2 =>
    q _ H2 (c1.trans ha.mo c2) E2 (.cons (At.chg hr.mo (r1.stOf hk fun b z => E.avd b ((ha.mo.av F b).1 z)) c2) r2))⟩
theorem Ats.rds {Z : Addr → Prop} {H : Hp} {vs : List V} (h : Ats Z H vs ds) : Rds .rd Z H vs ds := by
  induction ds generalizing vs with
  | nil => cases h; exact .nil
  | cons d ds ih => cases h with | cons a t => exact .cons (Or.inl a) (ih t)
theorem m_lst (h : EvMA X ρ es ds ρ1) (hl : ds.length ≤ sizeLine := by exact Nat.le_trans (Nat.le_of_ble_eq_true rfl : _ ≤ 100) (by decide)) : EvM .fr X ρ (.List es pos) (.lst ds) ρ1 := ⟨h.mo, fun F σ H E Q q =>
  wT.of (pe_lst pa_w) (h.go F σ H E _ fun vs H1 c1 E1 r => ⟨by rw [r.length]; exact hl, fun p hp => q _ _ (c1.trans h.mo (Same.chg (Same.new hp))) (E1.same (Same.new hp)) ((r.newLst hp).backC c1)⟩)⟩
theorem m_tup {x1 : Nat} (h : EvMA X ρ es ds ρ1) (hl : ds.length ≤ sizeLine := by exact Nat.le_trans (Nat.le_of_ble_eq_true rfl : _ ≤ 100) (by decide)) : EvM .st X ρ (.Tuple es x1 pos) (.tup ds) ρ1 := ⟨h.mo, fun F σ H E Q q =>
  wT.of (pe_tup pa_w) (h.go F σ H E _ fun vs H1 c1 E1 r => ⟨by rw [r.length]; exact hl, fun p hp => q _ _ (c1.trans h.mo (Same.chg (Same.new hp))) (E1.same (Same.new hp)) (r.newTup E1.avd hp)⟩)⟩
theorem m_callB {x : Str} {id : String} {r : List V → Hp → VK → Prop} (hc : CallR X (.builtin id) r) (hm : X.mg x = none) (hv : bootBuiltins x = some (.builtin id)) (ha : EvMA X ρ (e :: es) ds ρ1) (hr : OpN k r ds d)
    (hg : Gl X x := by rfl) (hn : x ≠ "__name__" := by decide) (hdb : (x == ("__debug__" : Str)) = false := by decide) (he : starEach (e :: es) X.env = (false, eval e X.env) :: starEach es X.env := by rfl) (hpl : (backTo pos (starEach es X.env)).any (·.1) = false := by rfl) :
    EvM k X ρ (.Call (.Name x p) (e :: es) [] pos) d ρ1 := ⟨ha.mo, fun F σ H E Q q =>
  wT.of (pe_callB hc hg hm hv pa_w hn hdb he hpl) (ha.go F σ H E _ fun vs H1 c1 E1 r1 => hr (Av F ρ1) H1 vs E1.avd r1.rds Q fun v H2 s2 r2 => q v H2 (c1.trans ha.mo (Same.chg s2)) (E1.same s2) (r2.backC c1))⟩
theorem m_callTy {x : Str} {T : String} {r : List V → Hp → VK → Prop} (hc : CallR X (.type T) r) (hm : X.mg x = none) (hv : bootBuiltins x = some (.type T)) (ha : EvMA X ρ (e :: es) ds ρ1) (hr : OpN k r ds d)
    (hg : Gl X x := by rfl) (hn : x ≠ "__name__" := by decide) (hdb : (x == ("__debug__" : Str)) = false := by decide) (he : starEach (e :: es) X.env = (false, eval e X.env) :: starEach es X.env := by rfl) (hpl : (backTo pos (starEach es X.env)).any (·.1) = false := by rfl) :
    EvM k X ρ (.Call (.Name x p) (e :: es) [] pos) d ρ1 := ⟨ha.mo, fun F σ H E Q q =>
  wT.of (pe_callTy hc hg hm hv pa_w hn hdb he hpl) (ha.go F σ H E _ fun vs H1 c1 E1 r1 => hr (Av F ρ1) H1 vs E1.avd r1.rds Q fun v H2 s2 r2 => q v H2 (c1.trans ha.mo (Same.chg s2)) (E1.same s2) (r2.backC c1))⟩
/-- l[e], l pure -/
theorem m_ix {i : Int} (ha : EvM k1 X ρ a d1 ρ1) (hb : EvM k2 X ρ1 b (.int i) ρ2) (hi : atI l i = some d) (hs : IsSeq d1 l := by constructor) (hk : k1 ≠ .rd := by exact fun z => nomatch z) (hp : PlainIx b := by exact fun _ _ => rfl) : EvM .st X ρ (.Subscript a b pos) d ρ2 := ⟨ha.mo.trans hb.mo, fun F σ H E Q q =>
  wT.of (pe_ix (ix_list.or ix_tup) pe_w pe_w hp) (ha.go F σ H E _ fun x H1 c1 E1 r1 => hb.go F σ H1 E1 _ fun y H2 c2 E2 r2 => by
    have x2 : At (Av F ρ2) H2 x d1 := At.chg hb.mo (r1.stOf hk fun b z => E.avd b ((ha.mo.av F b).1 z)) c2
    obtain ⟨a, xs, rfl, e1, t⟩ := Rd.seq (K := X.K) hs (.inl x2)
    obtain ⟨v, ev, av⟩ := atI_ats t hi
    rcases e1 with e1 | e1
    · exact .inl ⟨a, xs, i, v, rfl, r2.rdOf.int, e1, ev, q v H2 (c1.trans ha.mo c2) E2 av⟩
    · exact .inr ⟨a, xs, i, v, rfl, r2.rdOf.int, e1, ev, q v H2 (c1.trans ha.mo c2) E2 av⟩)⟩
theorem m_call {S : List D → D → Prop} {x : Str} {ps : List Str} {j n kk : Nat} (G : FnI X.prog X.w X.K X.mg X.base j x ps (spD n S)) (hr : Room kk X.A) (ha : EvMA X ρ (e :: es) ds ρ1) (hS : S ds d) (hj : j ≤ kk := by decide) (hn : ds.length = n := by rfl) (hg : Gl X x := by rfl)
    (hdb : (x == ("__debug__" : Str)) = false := by decide) (he : starEach (e :: es) X.env = (false, eval e X.env) :: starEach es X.env := by rfl) (hpl : (backTo pos (starEach es X.env)).any (·.1) = false := by rfl) : EvM .st X ρ (.Call (.Name x p) (e :: es) [] pos) d ρ1 := by
  refine ⟨ha.mo, fun F σ H E Q q => ?_⟩
  obtain ⟨f, fd, ok, hm, kp, b, _⟩ := G.ex
  refine wT.of (pe_call (ok.mono hj) hr hg hm kp b .nil (pass0) pa_w hdb he hpl) (ha.go F σ H E _ fun vs H1 c1 E1 r1 => ?_)
  rw [List.append_nil]
  exact ⟨Av F ρ1, ds, d, by rw [r1.length]; exact hn, E1.avo, r1, hS, fun v H2 s2 a => q v H2 (c1.trans ha.mo (Same.chg s2)) (E1.same s2) a⟩
/-! ### defs that change their first parameter, a list -/
def spM (n : Nat) (S : List D → List D → D → List D → Prop) : Sp := fun vs H Q _ => ∃ (b : Addr) (vs' : List V) (Z : Addr → Prop) (tin ds : List D) (d : D) (tin' : List D), vs = .ref b :: vs' ∧ vs'.length + 1 = n ∧ (∀ c, Z c → Ob H c) ∧ Z b ∧ Top Z H b (.lst tin) ∧ Ats Z H vs' ds ∧ S tin ds d tin' ∧
  ∀ v H', (∀ c o, c ≠ b → H c = some o → H' c = some o) → (∀ c, H' c = none → H c = none) → Top Z H' b (.lst tin') → At Z H' v d → Q v H'
def envM (N : List Str) (b : Addr) (tin ds : List D) : En := .own true b (.lst tin) :: (ds.map .dat ++ List.replicate (N.length - (ds.length + 1)) .any)
theorem envM_mo {N : List Str} {b : Addr} {tin : List D} (c : Addr) : Mo (envM N b tin ds) c ↔ c = b := by
  constructor
  · rintro ⟨p, d, h⟩
    rcases List.mem_cons.mp h with h | h
    · cases h; rfl
    · rcases List.mem_append.mp h with h | h
      · obtain ⟨_, _, e⟩ := List.mem_map.mp h; cases e
      · have := List.eq_of_mem_replicate h; cases this
  · rintro rfl
    exact ⟨true, _, List.mem_cons_self⟩
theorem envM_at {Nm : List Str} {b : Addr} {tin : List D} {Z : Addr → Prop} {H : Hp} {vs : List V} (zd : ∀ c, Z c → Ob H c) (zb : Z b) (t : Top Z H b (.lst tin)) (a : Ats Z H vs ds) : EnvAt { Z := Z, Y := fun _ => False, P := fun c => c = b, H0 := H } H (L2.start Nm (.ref b :: vs)) (envM Nm b tin ds) := by
  have av : ∀ c, Av { Z := Z, Y := fun _ => False, P := fun c => c = b, H0 := H } (envM Nm b tin ds) c → Z c := fun c z => z.elim id fun z => z.elim False.elim fun z => by rw [(envM_mo c).1 z]; exact zb
  refine ⟨zd, fun _ h => h.elim, fun c h => by rw [h]; exact t.dom, fun c o _ e => e, ?_, fun i e h => ?_, fun i j p q c d d' h1 h2 => ?_⟩
  · unfold L2.start envM
    simp only [List.length_append, List.length_map, List.length_cons, List.length_replicate, a.length]
    omega
  · cases i with
    | zero =>
      cases h
      exact ⟨rfl, t.move (fun c z => .inl (av c z)) (fun _ _ _ e => e) fun _ e => e, .inl rfl, fun z => nomatch z⟩
    | succ i =>
      have h : (ds.map Ent.dat ++ List.replicate (Nm.length - (ds.length + 1)) Ent.any)[i]? = some e := h
      by_cases hi : i < ds.length
      · rw [List.getElem?_append_left (by rw [List.length_map]; exact hi), List.getElem?_map] at h
        cases e1 : ds[i]? with
        | none => rw [e1] at h; cases h
        | some d =>
          rw [e1] at h
          cases h
          obtain ⟨v, ev, av'⟩ := a.get' e1
          refine ⟨v, ?_, av'.weak av⟩
          unfold L2.start
          rw [List.getElem?_append_left (by rw [List.length_map, List.length_cons, a.length]; omega), List.getElem?_map, List.getElem?_cons_succ, ev]
          rfl
      · rw [List.getElem?_append_right (by rw [List.length_map]; omega), List.getElem?_replicate] at h
        split at h
        · cases h; trivial
        · cases h
  · have one : ∀ {i : Nat} {p : Bool} {d : D}, (envM Nm b tin ds)[i]? = some (.own p c d) → i = 0 := fun {i p d} h => by
      cases i with
      | zero => rfl
      | succ i =>
        have h : (ds.map Ent.dat ++ List.replicate (Nm.length - (ds.length + 1)) Ent.any)[i]? = some _ := h
        rcases List.mem_append.mp (List.mem_of_getElem? h) with h | h
        · obtain ⟨_, _, e⟩ := List.mem_map.mp h; cases e
        · have := List.eq_of_mem_replicate h; cases this
    rw [one h1, one h2]
theorem fn_mut {P : Program} {w : World} {K : PySem.W.Frag} {mg : Str → Option Value} {bs : Heap} {x : Str} {st : Stmt} {Nm ps : List Str} {k : Nat} {S : List D → List D → D → List D → Prop} (T : FnT K mg x st) (sc : FnScope Nm ps (defScope st))
    (hb : ∀ (kV doc pm : Value) (an : Option Addr) (cdv ct : Value) (us : List Value), us.length = ps.length → bindArgs (PySem.W.fnOf x x (defArgs st) (defBody st) (defScope st) .none kV doc pm an cdv ct) ⟨us, []⟩ = pure (ps.zip us))
    (body : ∀ f cdv A outer s H E, Room k (CxD P w K mg bs Nm x st f cdv A outer s H E).A → ∀ b tin ds d tin', ds.length + 1 = ps.length → S tin ds d tin' → Ex (CxD P w K mg bs Nm x st f cdv A outer s H E) (envM Nm b tin ds) (defBody st) (fun ρ' => d = .non ∧ ρ'[0]? = some (.own true b (.lst tin'))) (fun d' ρ' => d' = d ∧ ρ'[0]? = some (.own true b (.lst tin')))) :
    FnI P w K mg bs (k + 1) x ps (spM ps.length S) := by
  obtain ⟨f, fd, F, hm⟩ := T.ex
  refine ⟨f, fd, ?_, hm, F.kp, F.bindsN hb, _, _, _, F⟩
  refine F.ok sc (fun vs H Q E h => ?_) (fun cdv A outer s H vs Q E hr h => ?_)
  · obtain ⟨b, vs', Z, tin, ds, d, tin', rfl, hl, _⟩ := h
    exact hl
  · obtain ⟨b, vs', Z, tin, ds, d, tin', rfl, hl, zd, zb, t, a, hS, q⟩ := h
    refine ⟨_, PSs.nox pss_w, ?_⟩
    have bd := body f cdv A outer s H E hr b tin ds d tin' (by rw [← a.length]; exact hl) hS
    have key : ∀ (σ' : St) (H' : Hp) (ρ' : En), EnvAt { Z := Z, Y := fun _ => False, P := fun c => c = b, H0 := H } H' σ' ρ' → ρ'[0]? = some (.own true b (.lst tin')) → (∀ c o, c ≠ b → H c = some o → H' c = some o) ∧ (∀ c, H' c = none → H c = none) ∧ Top Z H' b (.lst tin') := fun σ' H' ρ' E' e => by
      have tb := (E'.own e).2.1
      refine ⟨fun c o n => E'.sm c o n, fun c n => ?_, tb.move (fun c z => .inl (.inl z)) (fun _ _ _ e => e) fun _ e => e⟩
      cases q : H c with
      | none => rfl
      | some o =>
        by_cases z : c = b
        · rw [z] at n; exact absurd n tb.dom
        · rw [E'.sm c o z q] at n; cases n
    refine bd { Z := Z, Y := fun _ => False, P := fun c => c = b, H0 := H } (L2.start Nm (.ref b :: vs')) H (fun _ h => h) (envM_at zd zb t a) _ ⟨fun σ' H' ρ' E' e => ?_, fun v H' σ' ρ' d' E' a' e => ?_⟩
    · obtain ⟨k1, k2, k3⟩ := key σ' H' ρ' E' e.2
      exact q _ H' k1 k2 k3 (by rw [e.1]; exact .non)
    · obtain ⟨k1, k2, k3⟩ := key σ' H' ρ' E' e.2
      rw [e.1] at a'
      exact q v H' k1 k2 k3 (a'.weak fun b z => .inl z)
theorem mo_change {i : Nat} {pp : Bool} {cc : Addr} (h : ρ[i]? = some (.own pp cc d)) : MoEq ρ (ρ.set i (.own pp cc d2)) := fun b => by
  have hlt := (List.getElem?_eq_some_iff.mp h).1
  constructor
  · rintro ⟨p, d', z⟩
    rcases List.mem_or_eq_of_mem_set z with z | z
    · exact ⟨p, d', z⟩
    · cases z; exact ⟨pp, d, List.mem_of_getElem? h⟩
  · rintro ⟨p, d', z⟩
    obtain ⟨j, hj, ej⟩ := List.getElem_of_mem z
    by_cases hij : i = j
    · subst hij
      rw [List.getElem?_eq_getElem hj, ej] at h
      cases h
      exact ⟨pp, d2, List.mem_of_getElem? (i := i) (by rw [List.getElem?_set_self hlt])⟩
    · exact ⟨p, d', List.mem_of_getElem? (i := j) (by rw [List.getElem?_set_ne hij, List.getElem?_eq_getElem hj, ej])⟩
/-- f(tin, ..) -/
theorem m_callM {S : List D → List D → D → List D → Prop} {x t : Str} {ps : List Str} {j n kk : Nat} {pp : Bool} {cc : Addr} {tin0 tin tin' : List D} (i : Nat) (G : FnI X.prog X.w X.K X.mg X.base j x ps (spM n S)) (hr : Room kk X.A) (h0 : ρ[i]? = some (.own pp cc (.lst tin0))) (ha : EvMA X ρ es ds ρ1) (h1 : ρ1[i]? = some (.own pp cc (.lst tin))) (hS : S tin ds d tin') (hj : j ≤ kk := by decide) (hn : ds.length + 1 = n := by rfl)
    (hN : X.N[i]? = some t := by rfl) (hv : Vis X.env.scope t := by first | exact Or.inl rfl | exact Or.inr (Or.inl rfl) | exact Or.inr (Or.inr rfl)) (hd1 : (t == ("__debug__" : Str)) = false := by decide) (hcd : (t == ("__classdict__" : Str)) = false := by decide) (hg : Gl X x := by rfl)
    (hdb : (x == ("__debug__" : Str)) = false := by decide) (he : starEach (.Name t p1 :: es) X.env = (false, eval (.Name t p1) X.env) :: starEach es X.env := by rfl) (hpl : (backTo pos (starEach es X.env)).any (·.1) = false := by rfl) :
    EvM .st X ρ (.Call (.Name x p) (.Name t p1 :: es) [] pos) d (ρ1.set i (.own pp cc (.lst tin'))) := by
  refine ⟨ha.mo.trans (mo_change h1), fun F σ H E Q q => ?_⟩
  obtain ⟨f, fd, ok, hm, kp, b, _⟩ := G.ex
  refine wT.of (pe_call (ok.mono hj) hr hg hm kp b .nil (pass0) (pa_cons (pe_var hN hv hd1 hcd) pa_w he) hdb he hpl) ?_
  obtain ⟨e1, _⟩ := E.own h0
  refine ⟨_, e1, ha.go F σ H E _ fun vs H1 c1 E1 r1 => ?_⟩
  show spM n S ((V.ref cc :: vs) ++ []) H1 Q _
  rw [List.append_nil]
  obtain ⟨_, t1, _⟩ := E1.own h1
  have mc : Mo ρ1 cc := ⟨pp, _, List.mem_of_getElem? h1⟩
  refine ⟨cc, vs, Av F ρ1, tin, ds, d, tin', rfl, by rw [r1.length]; exact hn, E1.avo, .inr (.inr mc), t1, r1, hS, fun v H2 k1 k2 t2 a2 => ?_⟩
  have E2 := E1.change h1 k1 t2
  refine q v H2 (c1.trans ha.mo ⟨fun b o nb e => k1 b o (fun z => nb (by rw [z]; exact mc)) e, k2⟩) E2 ?_
  exact a2.weak fun b z => ((mo_change h1).av F b).1 z
/-! ### statements -/
theorem s_asgM {x : Str} (i : Nat) (hN : X.N.Nodup) (h : EvM k X ρ e d ρ1) (q : N (ρ1.set i (.dat d))) (hk : k ≠ .rd := by exact fun z => nomatch z) (hi : X.N[i]? = some x := by rfl) (hx : Loc X.env.scope x := by first | exact Or.inl rfl | exact Or.inr rfl)
    (hs : swapsWith e (some (.Name x pos')) pos.line X.env = pure false := by rfl) (hf : X.fn x = true ∨ X.env.scope.names.lookup x = some .local := by first | exact .inl rfl | exact .inr rfl | assumption) : ExS X ρ (.Assign [.Name x pos'] e pos) N R := .mk fun F σ H hy E D w =>
  wS.of (ps_set hN hi hx pe_w hs hf) (h.go F σ H E _ fun v H1 c1 E1 r1 => w.1 _ _ _ (E1.putDat i (r1.stOf hk fun b z => E.avd b ((h.mo.av F b).1 z))) q)
theorem s_retM (h : EvM k X ρ e d ρ1) (q : R d ρ1) (hk : k ≠ .rd := by exact fun z => nomatch z) : ExS X ρ (.Return (some e) pos) N R := .mk fun F σ H hy E D w =>
  wS.of (ps_ret pe_w) (h.go F σ H E _ fun v H1 c1 E1 r1 => w.2 v H1 σ ρ1 d E1 (r1.stOf hk fun b z => E.avd b ((h.mo.av F b).1 z)) q)
theorem s_ifM (hc : EvMB X ρ c bb ρ1) (ha : bb = true → Ex X ρ1 aa N R) (hb : bb = false → Ex X ρ1 cc N R) : ExS X ρ (.If c aa cc pos) N R := .mk fun F σ H hy E D w =>
  wS.of (ps_if pt_w pss_w pss_w) (hc.go F σ H E _ fun H1 c1 E1 => by
    cases bb with
    | true => exact ha rfl F σ H1 hy E1 D w
    | false => exact hb rfl F σ H1 hy E1 D w)
theorem s_par2M {x y : Str} {e1 e2 : Expr} {i j kt k3 : Nat} {pt pt2 : Pos} (hc : X.calm = true) (hN : X.N.Nodup) (h : EvMA X ρ [e1, e2] [d1, d2] ρ1) (q : N ((ρ1.set i (.dat d1)).set j (.dat d2))) (hi : X.N[i]? = some x := by rfl) (hj : X.N[j]? = some y := by rfl) (hij : i ≠ j := by decide)
    (hx : X.env.scope.names.lookup x = some .local := by rfl) (hy : X.env.scope.names.lookup y = some .local := by rfl) (hw : swappedStores [.Tuple [.Name x p1, .Name y p2] kt pt] (.Tuple [e1, e2] k3 pt2) X.env = pure (some [x, y]) := by rfl)
    (hs : swapsWithSole [.Tuple [.Name x p1, .Name y p2] kt pt] (.Tuple [e1, e2] k3 pt2) pos.line X.env = pure false := by rfl) : ExS X ρ (.Assign [.Tuple [.Name x p1, .Name y p2] kt pt] (.Tuple [e1, e2] k3 pt2) pos) N R := .mk fun F σ H hyy E D w =>
  wS.of (ps_par hc hN hi hj hij hx hy pa_w hw hs) (h.go F σ H E _ fun vs H1 c1 E1 r => by
    cases r with
    | cons a1 r => cases r with | cons a2 r => cases r; exact ⟨_, _, rfl, w.1 _ _ _ ((E1.putDat i a1).putDat j (a2.weak fun b z => z.imp id fun z => z.imp id (mo_set fun p d => by intro z; cases z))) q⟩)
theorem s_par3M {x y z : Str} {e1 e2 e3 : Expr} {d3 : D} {i j m kt k3 : Nat} {pt pt2 : Pos} (hc : X.calm = true) (hN : X.N.Nodup) (h : EvMA X ρ [e1, e2, e3] [d1, d2, d3] ρ1) (q : N (((ρ1.set i (.dat d1)).set j (.dat d2)).set m (.dat d3))) (hi : X.N[i]? = some x := by rfl) (hj : X.N[j]? = some y := by rfl) (hm : X.N[m]? = some z := by rfl) (hij : i ≠ j := by decide) (him : i ≠ m := by decide) (hjm : j ≠ m := by decide)
    (hx : X.env.scope.names.lookup x = some .local := by rfl) (hy : X.env.scope.names.lookup y = some .local := by rfl) (hz : X.env.scope.names.lookup z = some .local := by rfl) (hw : swappedStores [.Tuple [.Name x p1, .Name y p2, .Name z p3] kt pt] (.Tuple [e1, e2, e3] k3 pt2) X.env = pure (some [x, y, z]) := by rfl)
    (hs : swapsWithSole [.Tuple [.Name x p1, .Name y p2, .Name z p3] kt pt] (.Tuple [e1, e2, e3] k3 pt2) pos.line X.env = pure false := by rfl) : ExS X ρ (.Assign [.Tuple [.Name x p1, .Name y p2, .Name z p3] kt pt] (.Tuple [e1, e2, e3] k3 pt2) pos) N R := .mk fun F σ H hyy E D w =>
  wS.of (ps_par3 hc hN hi hj hm hij him hjm hx hy hz pa_w hw hs) (h.go F σ H E _ fun vs H1 c1 E1 r => by
    cases r with
    | cons a1 r => cases r with | cons a2 r => cases r with | cons a3 r => cases r; exact ⟨_, _, _, rfl, w.1 _ _ _ (((E1.putDat i a1).putDat j (a2.weak fun b z => z.imp id fun z => z.imp id (mo_set fun p d => by intro z; cases z))).putDat m (a3.weak fun b z => (z.imp id fun z => z.imp id (mo_set fun p d => by intro z; cases z)).imp id fun z => z.imp id (mo_set fun p d => by intro z; cases z))) q⟩)
/-- loops -/
theorem mi_range {n : Int} (hm : X.mg "range" = none) (ha : EvM k X ρ a (.int n) ρ1) (h1 : n ≤ 1000000) (h2 : -1000000 ≤ n) (hg : Gl X "range" := by rfl) (hs : starEach [a] X.env = [(false, eval a X.env)] := by rfl) (hs' : starEach [a] X.env = (false, eval a X.env) :: starEach [] X.env := by rfl) (hk : k ≠ .rd := by exact fun z => nomatch z) :
    EvMI X ρ tg (.Call (.Name "range" p) [a] [] pos) (rangeD 0 n.toNat) ρ1 := ⟨ha.mo, fun F σ H E R q =>
  wI.of (pi_range1 hg hm pa_w hs) ((ma_cons ha ma_nil hk hs').go F σ H E _ fun vs H1 c1 E1 r1 => by
    cases r1 with
    | cons r rr =>
      cases rr
      cases r
      exact ⟨n, rfl, by omega, by omega, q _ H1 c1 E1 (wk_range (by rw [sizeLine_eq]; omega))⟩)⟩
theorem mi_list (ha : EvM k X ρ it (.lst l) ρ1) (hk : k ≠ .rd := by exact fun z => nomatch z) : EvMI X ρ tg it l ρ1 := ⟨ha.mo, fun F σ H E R q =>
  wI.info (wI.of (pi_list pe_w) (ha.go F σ H E _ fun v H1 c1 E1 r1 => by
    have r2 := r1.stOf hk fun b z => E.avd b ((ha.mo.av F b).1 z)
    cases r2 with
    | lst n e t => exact ⟨_, rfl, ⟨_, SqL.of e⟩, fun sz => q _ H1 c1 E1 (wk_list n e t (sz.1 _ _ e))⟩))⟩
theorem s_forM {α : Type} {l : List α} {f : α → D} (T : Tg) (W : List α → En → Prop) (hc : X.calm = true) (hi : EvMI X ρ tg it (l.map f) ρ1) (hT : TgOk X tg T) (hf : ∀ a ∈ l, fitsT T (f a)) (h0 : W [] ρ1)
    (hs : ∀ done a post, l = done ++ a :: post → ∀ ρ', W done ρ' → Ex X (setE T (f a) ρ') body (W (done ++ [a])) R) (hd : ∀ ρ', W l ρ' → N ρ')
    (hp : PassesOwn (model X.prog X.w) X.A X.env X.xe := by exact PassesOwn.never) (hfs : ∀ x, foldedSetIterable it X.env x = pure x := by intro _; rfl) : ExS X ρ (.For tg it body [] pos) N R := .mk fun F σ H hy E D w => by
  refine wS.of (ps_for hp hc pi_w hT pss_w hfs) (hi.go F σ H E _ fun J H1 c1 E1 wk => ?_)
  obtain ⟨sz, G, g1, gk, wkk⟩ := wk
  refine for_it wkk (fun i σ' H' => ∃ ρ', EnvAt (base F ρ1 H1) H' σ' ρ' ∧ W (l.take i) ρ') ⟨ρ1, E1.rebase, h0⟩ (fun i σ' H' _ ⟨ρ', E', _⟩ => gk H1 H' g1 fun b o n e => E'.sm b o (fun m => n (.inl (.inr (.inr m)))) e) ?_ ?_
  · rintro i x σ' Ha Hb hi' ⟨ρ', E', hw⟩ ⟨sb, y⟩
    have hil : i < l.length := by rw [List.length_map] at hi'; exact hi'
    obtain ⟨d, e1, a1⟩ := y (Av (base F ρ1 H1) ρ') (fun b z => z.elim (fun z => .inl (.inl z)) fun z => z.elim (fun z => .inl (.inr (.inl z))) fun z => (E'.moP z).elim (fun z => .inl (.inr (.inr z))) .inr) E'.avo
    rw [List.getElem?_map, List.getElem?_eq_getElem hil] at e1
    have ed : f l[i] = d := Option.some.inj e1
    rw [← ed] at a1
    have htk : l.take (i + 1) = l.take i ++ [l[i]] := by rw [List.take_succ, List.getElem?_eq_getElem hil]; rfl
    have hsp : l = l.take i ++ l[i] :: l.drop (i + 1) := by rw [List.getElem_cons_drop, List.take_append_drop]
    refine gOf_ok (E'.same sb) a1 (hf _ (List.getElem_mem hil)) fun σ2 E2 _ => ?_
    exact (hs _ _ _ hsp ρ' hw (base F ρ1 H1) σ2 Hb hy E2 _ ⟨fun σ3 H3 ρ3 E3 w3 => ⟨ρ3, E3, by rw [htk]; exact w3⟩, fun v H3 σ3 ρ3 d3 E3 a3 r3 => w.2 v H3 σ3 ρ3 d3 (E1.unbase E3) a3 r3⟩)
  · rintro σ' H' ⟨ρ', E', hw⟩
    rw [List.length_map, List.take_length] at hw
    exact w.1 σ' H' ρ' (E1.unbase E') (hd ρ' hw)
end
end TR
/-! ## C18 -/
set_option Elab.async false
set_option linter.all false
set_option maxRecDepth 100000
namespace TR
open PySem L2 PySem.Spec PyProof.Rows
/-! list.remove of data -/
def rRemD (K : PySem.W.Frag) : V → List V → Hp → VK → Prop := fun x xs H Q => ∃ (a : Addr) (ys : List V) (y : V) (d : PyData) (ds : List PyData) (j : Nat) (z : PyData), x = V.ref a ∧ xs = [y] ∧ H a = some (.lst ys) ∧ DpAll K H ys ds ∧ Dp K H y d ∧ PyData.canLayAll0 ds = true ∧ SeqAt.shaped d = true ∧ ds[j]? = some z ∧ PyData.eqv z d = true ∧ (∀ (m : Nat) (z' : PyData), m < j → ds[m]? = some z' → PyData.eqv z' d = false) ∧ Q .non (upd H a (.lst (ys.eraseIdx j)))
theorem mt_remD {X : Cx} (hu : X.A.units + 65 < cLine) : MtR X "list.remove" (rRemD X.K) := by
  intro pins s σ H x xs v us Q I rx rxs h
  obtain ⟨a, ys, y, d, ds, j, z, rfl, rfl, hl, hys, hy, sl, sd, hz, hit, hno, q⟩ := h
  cases rx
  cases rxs with
  | cons ry rt =>
    rename_i uy ut
    cases rt
    obtain ⟨bs, r1⟩ := Dp.reads I d y uy hy ry
    have room : X.A.units + 1 + min (PyData.depthAll ds) d.depth < cLine := room_in_shaped sd hu
    obtain ⟨zz, its, n, rv, hlen, ho⟩ := I.lstM hl
    obtain ⟨as, h4⟩ := Dp.readsAll I ds ys its hys rv
    have hn : its.length = ds.length := SeqAt.ReadsAll.length ds its as h4
    have hmap : its.map (SeqAt.readOf s.heap) = ds := SeqAt.readsAll_map ds its as sl h4
    have hjl : j < its.length := by have := (List.getElem?_eq_some_iff.mp hz).1; omega
    have hj : j < its.toArray.size := by simpa using hjl
    have at_ : ∀ (m : Nat) (hm : m < its.toArray.size) (z' : PyData), ds[m]? = some z' → SeqAt.readOf s.heap its.toArray[m] = z' := fun m hm z' hz' => by
      have hml : m < its.length := by simpa using hm
      rw [← hmap, List.getElem?_map, List.getElem?_eq_getElem hml] at hz'
      simpa using Option.some.inj hz'
    refine call_meets PySem.F.slot_list_remove ⟨_, ho, rfl⟩ PySem.F.entry_list_remove (PySem.F.args_list_remove_2 _ _) (SeqAt.list_removeAt a its.toArray n none #[] uy (fun u => PyData.eqv (SeqAt.readOf s.heap u) d) j hj ?_ ?_ (by rw [List.size_toArray]; omega)) ⟨ho, SeqAt.items_eqAt (vs := its.toArray) (show ReadsAll s.heap its.toArray.toList ds as from h4) r1 sl (SeqAt.canLay_of_shaped sd) room, ?_⟩
    · show PyData.eqv (SeqAt.readOf s.heap its.toArray[j]) d = true
      rw [at_ j hj z hz]; exact hit
    · intro m hm hmj
      have hz' : ds[m]? = some (ds[m]'(by omega)) := List.getElem?_eq_getElem (by omega)
      show PyData.eqv (SeqAt.readOf s.heap its.toArray[m]) d = false
      rw [at_ m hm _ hz']; exact hno m _ hmj hz'
    · refine ⟨.non, _, I.lset (its' := its.eraseIdx j) (t' := s.toks) hl ho ?_ (rv.eraseIdx j) ?_, rfl, q⟩
      · show its.toArray.eraseIdxIfInBounds j = (its.eraseIdx j).toArray
        rw [List.eraseIdxIfInBounds_toArray]
      · exact Nat.le_trans (List.length_eraseIdx_le ys j) zz
section
variable {X : Cx} {ρ ρ1 ρ2 : En} {a b c e elt tg it tg1 it1 : Expr} {es : List Expr} {k k1 k2 : Kd} {d d1 d2 : D} {l ds : List D} {pos pos' p p' q apos : Pos} {N : NK} {R : RK} {x : Str}
theorem Ats.erase {Z : Addr → Prop} {H : Hp} : ∀ {xs : List V} {l : List D}, Ats Z H xs l → ∀ j : Nat, Ats Z H (xs.eraseIdx j) (l.eraseIdx j)
  | _, _, .nil, _ => .nil
  | _, _, .cons _ t, 0 => t
  | _, _, .cons h t, j + 1 => .cons h (t.erase j)
/-- l.append(e), e changes others -/
theorem s_appendM {cc : Addr} {pp : Bool} {l0 : List D} (i : Nat) (h0 : ρ[i]? = some (.own pp cc (.lst l0))) (h : EvM k X ρ e d ρ1) (hρ : ρ1[i]? = some (.own pp cc (.lst l))) (q : N (ρ1.set i (.own pp cc (.lst (l ++ [d]))))) (hsz : l.length < sizeLine) (hk : k ≠ .rd := by exact fun z => nomatch z)
    (hN : X.N[i]? = some x := by rfl) (hv : Vis X.env.scope x := by first | exact Or.inl rfl | exact Or.inr (Or.inl rfl) | exact Or.inr (Or.inr rfl)) (hd : (x == ("__debug__" : Str)) = false := by decide) (hcd : (x == ("__classdict__" : Str)) = false := by decide)
    (hb : attributeBase (.Name x p') "append" X.env (eval (.Name x p') X.env) = eval (.Name x p') X.env := by rfl) (hl : (apos.endLine == pos'.line) = true := by rfl)
    (hfew : ((backTo pos' (starEach [e] X.env)).all (fun x => !x.1) && (backToKw pos' (keywordEach [] X.env)).all (fun x => x.1.isSome) && decide ([e].length + ([] : List Keyword).length + (if ([] : List Keyword).isEmpty then 0 else 1) < 30)) = true := by rfl)
    (hs1 : starEach [e] X.env = (false, eval e X.env) :: starEach [] X.env := by rfl) (hs : swapsWith (.Call (.Attribute (.Name x p') "append" apos) [e] [] pos') none pos.line X.env = pure false := by rfl) :
    ExS X ρ (.Expr (.Call (.Attribute (.Name x p') "append" apos) [e] [] pos') pos) N R := .mk fun F σ H hy E D w => by
  refine wS.of (ps_expr (pe_bm PySem.F.plainAttrs_list PySem.F.slot_list_append PySem.F.type_list_append mt_append (pe_var hN hv hd hcd) pa_w hb hfew hl hs1) hs) ?_
  obtain ⟨e1, ⟨xs, ex, t⟩, _⟩ := E.own h0
  refine ⟨_, e1, .inl ⟨rfl, xs, SqL.of ex⟩, (ma_cons h ma_nil hk hs1).go F σ H E _ fun vs H1 c1 E1 r1 => ?_⟩
  cases r1 with
  | cons r rr =>
    cases rr
    obtain ⟨_, ⟨ys, ey, ty⟩, _⟩ := E1.own hρ
    refine ⟨cc, ys, _, rfl, rfl, ey, by rw [ty.length]; exact hsz, w.1 σ _ _ (E1.change hρ (fun b o n e => by rw [upd_ne n]; exact e) ?_) q⟩
    exact Top.lstIn (.inr (.inr ⟨pp, _, List.mem_of_getElem? hρ⟩)) ey ty (.cons r .nil)
/-- l.pop(e) -/
theorem m_popAt {cc : Addr} {pp : Bool} {l0 : List D} {i : Int} {j : Nat} (s : Nat) (h0 : ρ[s]? = some (.own pp cc (.lst l0))) (h : EvM k X ρ e (.int i) ρ1) (hρ : ρ1[s]? = some (.own pp cc (.lst l))) (hj : ixN l.length i = some j) (hd' : l[j]? = some d) (hbig : -(2 ^ 63) ≤ i ∧ i < 2 ^ 63) (hk : k ≠ .rd := by exact fun z => nomatch z)
    (hN : X.N[s]? = some x := by rfl) (hv : Vis X.env.scope x := by first | exact Or.inl rfl | exact Or.inr (Or.inl rfl) | exact Or.inr (Or.inr rfl)) (hd : (x == ("__debug__" : Str)) = false := by decide) (hcd : (x == ("__classdict__" : Str)) = false := by decide)
    (hb : attributeBase (.Name x p') "pop" X.env (eval (.Name x p') X.env) = eval (.Name x p') X.env := by rfl) (hl : (apos.endLine == pos'.line) = true := by rfl)
    (hfew : ((backTo pos' (starEach [e] X.env)).all (fun x => !x.1) && (backToKw pos' (keywordEach [] X.env)).all (fun x => x.1.isSome) && decide ([e].length + ([] : List Keyword).length + (if ([] : List Keyword).isEmpty then 0 else 1) < 30)) = true := by rfl)
    (hs1 : starEach [e] X.env = (false, eval e X.env) :: starEach [] X.env := by rfl) : EvM .st X ρ (.Call (.Attribute (.Name x p') "pop" apos) [e] [] pos') d (ρ1.set s (.own pp cc (.lst (l.eraseIdx j)))) := by
  refine ⟨h.mo.trans (mo_change hρ), fun F σ H E Q q => ?_⟩
  refine wT.of (pe_bm PySem.F.plainAttrs_list PySem.F.slot_list_pop PySem.F.type_list_pop mt_popAt (pe_var hN hv hd hcd) pa_w hb hfew hl hs1) ?_
  obtain ⟨e1, ⟨xs, ex, t⟩, _⟩ := E.own h0
  refine ⟨_, e1, .inl ⟨rfl, xs, SqL.of ex⟩, (ma_cons h ma_nil hk hs1).go F σ H E _ fun vs H1 c1 E1 r1 => ?_⟩
  cases r1 with
  | cons r rr =>
    cases rr
    cases r
    obtain ⟨_, ⟨ys, ey, ty⟩, _⟩ := E1.own hρ
    obtain ⟨v, hv', av⟩ := ty.get' hd'
    have mc : Mo ρ1 cc := ⟨pp, _, List.mem_of_getElem? hρ⟩
    refine ⟨cc, ys, i, j, v, rfl, rfl, ey, hbig.1, hbig.2, by rw [ty.length]; exact (ixN_seq hj).1, hv', ?_⟩
    have kp : ∀ b o, ¬ Av F ρ1 b → H1 b = some o → upd H1 cc (.lst (ys.eraseIdx j)) b = some o := fun b o n e => by rw [upd_ne fun z => n (by rw [z]; exact .inr (.inr mc))]; exact e
    have E2 := E1.change (d2 := .lst (l.eraseIdx j)) (H2 := upd H1 cc (.lst (ys.eraseIdx j))) hρ (fun b o n e => by rw [upd_ne n]; exact e) ⟨_, upd_same, (ty.erase j).move (fun _ z => .inl z) kp⟩
    refine q v _ (c1.trans h.mo ⟨fun b o nb e => by rw [upd_ne fun z => nb (by rw [z]; exact mc)]; exact e, fun b n => ?_⟩) E2 ((av.move (fun _ z => .inl z) kp).weak fun b z => ((mo_change hρ).av F b).1 z)
    by_cases z : b = cc
    · rw [z, upd_same] at n; cases n
    · rw [upd_ne z] at n; exact n
/-- l.remove(e) -/
theorem s_removeM {cc : Addr} {pp : Bool} {l0 : List D} {j : Nat} {z : D} (s : Nat) (hu : X.A.units + 65 < cLine) (h0 : ρ[s]? = some (.own pp cc (.lst l0))) (h : EvM k X ρ e d ρ1) (hρ : ρ1[s]? = some (.own pp cc (.lst l))) (hj : l[j]? = some z) (hit : eqD z d = true) (hno : ∀ (m : Nat) z', m < j → l[m]? = some z' → eqD z' d = false) (s1 : PyData.canLayAll0 (toPys l) = true) (s2 : shp d = true) (q : N (ρ1.set s (.own pp cc (.lst (l.eraseIdx j))))) (hk : k ≠ .rd := by exact fun z => nomatch z)
    (hN : X.N[s]? = some x := by rfl) (hv : Vis X.env.scope x := by first | exact Or.inl rfl | exact Or.inr (Or.inl rfl) | exact Or.inr (Or.inr rfl)) (hd : (x == ("__debug__" : Str)) = false := by decide) (hcd : (x == ("__classdict__" : Str)) = false := by decide)
    (hb : attributeBase (.Name x p') "remove" X.env (eval (.Name x p') X.env) = eval (.Name x p') X.env := by rfl) (hl : (apos.endLine == pos'.line) = true := by rfl)
    (hfew : ((backTo pos' (starEach [e] X.env)).all (fun x => !x.1) && (backToKw pos' (keywordEach [] X.env)).all (fun x => x.1.isSome) && decide ([e].length + ([] : List Keyword).length + (if ([] : List Keyword).isEmpty then 0 else 1) < 30)) = true := by rfl)
    (hs1 : starEach [e] X.env = (false, eval e X.env) :: starEach [] X.env := by rfl) (hs : swapsWith (.Call (.Attribute (.Name x p') "remove" apos) [e] [] pos') none pos.line X.env = pure false := by rfl) :
    ExS X ρ (.Expr (.Call (.Attribute (.Name x p') "remove" apos) [e] [] pos') pos) N R := .mk fun F σ H hy E D w => by
  refine wS.of (ps_expr (pe_bm PySem.F.plainAttrs_list PySem.F.slot_list_remove PySem.F.type_list_remove (mt_remD hu) (pe_var hN hv hd hcd) pa_w hb hfew hl hs1) hs) ?_
  obtain ⟨e1, ⟨xs, ex, t⟩, _⟩ := E.own h0
  refine ⟨_, e1, .inl ⟨rfl, xs, SqL.of ex⟩, (ma_cons h ma_nil hk hs1).go F σ H E _ fun vs H1 c1 E1 r1 => ?_⟩
  cases r1 with
  | cons r rr =>
    cases rr
    obtain ⟨_, ⟨ys, ey, ty⟩, _⟩ := E1.own hρ
    have mc : Mo ρ1 cc := ⟨pp, _, List.mem_of_getElem? hρ⟩
    have kp : ∀ b o, ¬ Av F ρ1 b → H1 b = some o → upd H1 cc (.lst (ys.eraseIdx j)) b = some o := fun b o n e => by rw [upd_ne fun z => n (by rw [z]; exact .inr (.inr mc))]; exact e
    refine ⟨cc, ys, _, toPy d, toPys l, j, toPy z, rfl, rfl, ey, ty.dp s1, r.dp (SeqAt.canLay_of_shaped s2), s1, s2, by rw [toPys_map, List.getElem?_map, hj]; rfl, hit, fun m z' hm hz => ?_, ?_⟩
    · rw [toPys_map, List.getElem?_map] at hz
      obtain ⟨w, hw, rfl⟩ := Option.map_eq_some_iff.mp hz
      exact hno m w hm hw
    · exact w.1 σ _ _ (E1.change (d2 := .lst (l.eraseIdx j)) hρ (fun b o n e => by rw [upd_ne n]; exact e) ⟨_, upd_same, (ty.erase j).move (fun _ z => .inl z) kp⟩) q
/-! ### calls with keywords -/
inductive EvK (X : Cx) (ρ : En) : List Keyword → List D → Prop
  | nil : EvK X ρ [] []
  | cons {nm : Option Str} {e : Expr} {kp : Pos} {kws : List Keyword} {k : Kd} {d : D} {ds : List D} (h : Ev k X ρ e d) (hk : k ≠ .rd) (t : EvK X ρ kws ds) : EvK X ρ (⟨nm, e, kp⟩ :: kws) (d :: ds)
theorem kw {nm : Option Str} {e : Expr} {kp : Pos} {kws : List Keyword} {k : Kd} {d : D} {ds : List D} (h : Ev k X ρ e d) (t : EvK X ρ kws ds) (hk : k ≠ .rd := by exact fun z => nomatch z) : EvK X ρ (⟨nm, e, kp⟩ :: kws) (d :: ds) := .cons h hk t
def wK (X : Cx) (kws : List Keyword) : TA := fun σ H Q => ∀ (pos : Pos) (pins : List (Addr × Obj)) (s : Shared), Inv X pins σ H s → wpAny (model X.prog X.w) X.A (evalAll ((backToKw pos (keywordEach kws X.env)).map (·.2))) (AP X pins σ Q) X.xe s
theorem pk_w {kws : List Keyword} : PK X kws (wK X kws) := ⟨fun pos pins s σ H Q I h => h pos pins s I⟩
theorem wK.of {kws : List Keyword} {σ : L2.St} {H : Hp} {t : TA} {Q : List V → Hp → Prop} (h : PK X kws t) (q : t σ H Q) : wK X kws σ H Q := fun pos pins s I => h.run pos pins s σ H Q I q
theorem EvK.go {kws : List Keyword} {ds : List D} (h : EvK X ρ kws ds) : ∀ {F : Fr} {σ : L2.St} {H : Hp}, EnvAt F H σ ρ → ∀ {Q : List V → Hp → Prop}, (∀ vs H', Same H H' → Ats (Av F ρ) H' vs ds → Q vs H') → wK X kws σ H Q := by
  induction h with
  | nil => intro F σ H E Q q; exact wK.of pk_nil (q [] H (Same.refl H) .nil)
  | cons h hk t ih =>
    intro F σ H E Q q
    exact wK.of (pk_cons pe_w pk_w) (h F σ H E _ fun v H1 s1 r1 => ih (E.same s1) fun vs H2 s2 r2 => q _ H2 (s1.trans s2) (.cons ((r1.stOf hk E.avd).same s2) r2))
/-- f(.., k = v, ..): gV puts them in the parameters' order -/
theorem e_callK {S : List D → D → Prop} {ps ks : List Str} {kws : List Keyword} {j n kk : Nat} {dk : List D} {gV : {α : Type} → List α → List α → List α} (G : FnI X.prog X.w X.K X.mg X.base j x ps (spD n S)) (hr : Room kk X.A) (ha : EvA true X ρ (e :: es) ds) (hkw : EvK X ρ kws dk) (hS : S (gV ds dk) d)
    (hb : ∀ f fd, (∃ (params : Arguments) (body : List Stmt) (scope : Scope), FunD X.K x x params body scope [] [] f fd) → KBinds X.K fd ps ks (gV (α := Value)) (gV (α := V))) (hat : ∀ {Z : Addr → Prop} {H : Hp} {vs zs : List V}, Ats Z H vs ds → Ats Z H zs dk → Ats Z H (gV vs zs) (gV ds dk)) (hj : j ≤ kk := by decide) (hn : (gV ds dk).length = n := by rfl)
    (hg : Gl X x := by rfl) (hall : (backToKw pos (keywordEach kws X.env)).all (·.1.isSome) = true := by rfl) (hks : (backToKw pos (keywordEach kws X.env)).filterMap (·.1) = ks := by rfl)
    (hdb : (x == ("__debug__" : Str)) = false := by decide) (he : starEach (e :: es) X.env = (false, eval e X.env) :: starEach es X.env := by rfl) (hpl : ((backTo pos (starEach (e :: es) X.env)).any (·.1) || (backToKw pos (keywordEach kws X.env)).any (·.1.isNone)) = false := by rfl) :
    Ev .st X ρ (.Call (.Name x p) (e :: es) kws pos) d := .mk fun F σ H E Q q => by
  obtain ⟨f, fd, ok, hm, kp, _, hF⟩ := G.ex
  refine wT.of (pe_callK (ok.mono hj) hr hg hm kp (hb f fd hF) (pass0) pa_w pk_w hall hks hdb he hpl) (ha F σ H E _ fun vs H1 s1 r1 => hkw.go (E.same s1) fun zs H2 s2 r2 => ?_)
  have a := hat (r1.ats.same s2) r2
  exact ⟨Av F ρ, _, d, by rw [a.length]; exact hn, ((E.same s1).same s2).avo, a, hS, fun v H3 s3 a => q v H3 ((s1.trans s2).trans s3) a⟩
theorem pe_callK0 {sp : Sp} {CX : CXT} {kn : Nat} {f : Addr} {fd : FuncData} {ps ks : List Str} {EE : XK} {g : List Value → List Value → List Value} {gV : List V → List V → List V} {kws : List Keyword} {tk : TA} (F : FnOk X.prog X.w X.K X.mg X.base CX kn f fd ps sp) (hr : Room kn X.A) (hg : Gl X x) (hm : X.mg x = some (.ref f)) (hk : PySem.W.keepIn X.K (.ref f) = true) (hb : KBinds X.K fd ps ks g gV) (hx : Passes CX X EE)
    (hkw : PK X kws tk) (hall : (backToKw pos (keywordEach kws X.env)).all (·.1.isSome) = true := by rfl) (hks : (backToKw pos (keywordEach kws X.env)).filterMap (·.1) = ks := by rfl)
    (hdb : (x == ("__debug__" : Str)) = false := by decide) (hpl : ((backTo pos (starEach [] X.env)).any (·.1) || (backToKw pos (keywordEach kws X.env)).any (·.1.isNone)) = false := by rfl) :
    PE X (.Call (.Name x p) [] kws pos) (fun σ H Q => tk σ H fun zs H2 => sp (gV [] zs) H2 Q EE) := by
  refine ⟨fun pins s σ H Q I h => ?_⟩
  refine wpAny_Call_Name_kw (ld_glob I hg hm ?_ hdb)
  refine PySem.W.callWith_KW0 (h₀ := X.base) I.ok.mod.kin hk hall ?_ hpl
  refine thn (hkw.run pos pins s σ H _ I h) fun ws s2 ⟨zs, H2, I2, rz, q2⟩ => ⟨I2.kIn, ?_⟩
  rw [hks, List.append_nil]
  exact run_fnk F hr hb hx I2 .nil rz q2
theorem e_callK0 {S : List D → D → Prop} {ps ks : List Str} {kws : List Keyword} {j n kk : Nat} {dk : List D} {gV : {α : Type} → List α → List α → List α} (G : FnI X.prog X.w X.K X.mg X.base j x ps (spD n S)) (hr : Room kk X.A) (hkw : EvK X ρ kws dk) (hS : S (gV [] dk) d)
    (hb : ∀ f fd, (∃ (params : Arguments) (body : List Stmt) (scope : Scope), FunD X.K x x params body scope [] [] f fd) → KBinds X.K fd ps ks (gV (α := Value)) (gV (α := V))) (hat : ∀ {Z : Addr → Prop} {H : Hp} {zs : List V}, Ats Z H zs dk → Ats Z H (gV [] zs) (gV [] dk)) (hj : j ≤ kk := by decide) (hn : (gV [] dk).length = n := by rfl)
    (hg : Gl X x := by rfl) (hall : (backToKw pos (keywordEach kws X.env)).all (·.1.isSome) = true := by rfl) (hks : (backToKw pos (keywordEach kws X.env)).filterMap (·.1) = ks := by rfl)
    (hdb : (x == ("__debug__" : Str)) = false := by decide) (hpl : ((backTo pos (starEach [] X.env)).any (·.1) || (backToKw pos (keywordEach kws X.env)).any (·.1.isNone)) = false := by rfl) :
    Ev .st X ρ (.Call (.Name x p) [] kws pos) d := .mk fun F σ H E Q q => by
  obtain ⟨f, fd, ok, hm, kp, _, hF⟩ := G.ex
  refine wT.of (pe_callK0 (ok.mono hj) hr hg hm kp (hb f fd hF) (pass0) pk_w hall hks hdb hpl) (hkw.go E fun zs H2 s2 r2 => ?_)
  have a := hat r2
  exact ⟨Av F ρ, _, d, by rw [a.length]; exact hn, (E.same s2).avo, a, hS, fun v H3 s3 a => q v H3 (s2.trans s3) a⟩
end
end TR
/-! ## C19 -/
set_option Elab.async false
set_option linter.all false
set_option maxRecDepth 100000
namespace TR
open PySem L2
section
variable {X : Cx} {ρ : En} {elt tg it tg1 it1 : Expr} {scope : Scope} {own : List (Str × Nat)} {k : Kd} {α β : Type} {l : List α} {f : α → D} {pos : Pos}
def bI (X : Cx) (scope : Scope) (tg e : Expr) : TI := fun σ H R => ∀ s H0 C cl fp, wI (blk X scope s H0 C cl fp) tg e σ H R
def BvI (X : Cx) (scope : Scope) (ρ : En) (tg it : Expr) (ds : List D) : Prop := ∀ s H0 C cl fp, EvI (blk X scope s H0 C cl fp) ρ tg it ds
theorem flat_le {γ : Type} (m : List (List γ)) (i : Nat) : (m.take i).flatten.length ≤ m.flatten.length := by
  conv => rhs; rw [← List.take_append_drop i m]
  rw [List.flatten_append, List.length_append]
  omega
theorem mo_setEs {b : Addr} : ∀ {js : List Nat} {ds : List D} {ρ : En}, Mo (setEs js ds ρ) b → Mo ρ b
  | [], [], _, h => h
  | [], _ :: _, _, h => h
  | _ :: _, [], _, h => h
  | j :: js, d :: ds, ρ, h => mo_set (fun p d => by intro z; cases z) (mo_setEs (js := js) (ds := ds) h)
theorem mo_setE {b : Addr} {T : Tg} {d : D} {ρ : En} (h : Mo (setE T d ρ) b) : Mo ρ b := by
  cases T with
  | one j => exact mo_set (fun p d => by intro z; cases z) h
  | tup js => cases d <;> first | exact mo_setEs h | exact h
theorem lc2_go {m : α → List β} {h : α → β → D} {g : α → β → D} {vs1 : List Nat} (T T1 : Tg) (hc : X.calm = true) (hN : X.N.Nodup) (hi : EvI X ρ tg it (l.map f)) (ok : BlkOk X.N X.env.scope scope own) (hv : ∀ i ∈ vs1, i ∈ own.map (·.2)) (hT : ∀ s H C cl fp, TgOk (blk X scope s H C cl fp) tg T) (hT1 : ∀ s H C cl fp, TgOk (blk X scope s H C cl fp) tg1 T1)
    (hf : ∀ a ∈ l, fitsT T (f a)) (hf1 : ∀ a ∈ l, ∀ b ∈ m a, fitsT T1 (h a b)) (hown : ∀ j ∈ T.js, j ∈ own.map (·.2)) (hown1 : ∀ j ∈ T1.js, j ∈ vs1) (hi1 : ∀ a ∈ l, BvI X scope (setE T (f a) (wipeE ρ (own.map (·.2)))) tg1 it1 ((m a).map (h a)))
    (he : ∀ a ∈ l, ∀ b ∈ m a, Bv k X scope (setE T1 (h a b) (wipeE (setE T (f a) (wipeE ρ (own.map (·.2)))) vs1)) elt (g a b)) (hsz : ((l.map fun a => (m a).map (g a)).flatten).length ≤ sizeLine) (hk : k ≠ .rd)
    {F : Fr} {σ : St} {H : Hp} {Q : VK} (E : EnvAt F H σ ρ) (q : ∀ v H', Same H H' → Res .fr (Av F ρ) H H' v (.lst (l.map fun a => (m a).map (g a)).flatten) → Q v H') :
    tLc2 (wI X tg it) (gOf X.K T) tYes (bI X scope tg1 it1) (gOf X.K T1) tYes (bT X scope elt) (own.map (·.2)) vs1 σ H Q :=
    (hi F σ H E _ fun J H1 s1 wk => by
      intro Dd hD
      obtain ⟨sz, G, g1, gk, wkk⟩ := wk
      have E1 := E.same s1
      have n0 : (l.map f).length = l.length := List.length_map ..
      have bs : ∀ {H' : Hp}, Same H1 H' → Ob H' Dd → EnvAt { F with Y := fun b => Av F ρ b ∨ b = Dd } H' (L2.wipe σ (own.map (·.2))) (wipeE ρ (own.map (·.2))) := fun {H'} s hd =>
        (E1.forbid (Z := fun b => Av F ρ b ∨ b = Dd) (fun b z => z.elim .inl fun z => .inr (by rw [z]; exact hD)) s fun b z => z.elim (fun z => (E1.avo b z).same s) fun z => by rw [z]; exact hd).wipe _
      obtain ⟨Pv, ePv⟩ : ∃ Pv : List D → Hp → Prop, Pv = fun ds H' => Same H1 H' ∧ ∃ acc, H' Dd = some (.lst acc) ∧ Ats (fun b => Av F ρ b ∨ b = Dd) H' acc ds := ⟨_, rfl⟩
      refine ⟨fun i n H => n = l.length - i ∧ i ≤ l.length ∧ Pv ((l.map fun a => (m a).map (g a)).take i).flatten H, ⟨l.length, by simp, Nat.zero_le _, by rw [ePv]; exact ⟨Same.new hD, [], upd_same, .nil⟩⟩, ?_⟩
      rintro i n Ha ⟨rfl, hle, pv⟩
      have pv0 := pv
      rw [ePv] at pv0
      obtain ⟨sa, acc, ea, ta⟩ := pv0
      have gg := gk H1 Ha g1 fun b o _ e => sa b o e
      by_cases hil : i < l.length
      · refine .inr ⟨wkk.goes i Ha (by rw [n0]; exact hil) gg, Pv ((l.map fun a => (m a).map (g a)).take (i + 1)).flatten, fun H' p' => ⟨l.length - (i + 1), by omega, rfl, hil, p'⟩, fun x Hb y => ?_⟩
        obtain ⟨sb, y⟩ := wkk.yields i Ha x Hb (by rw [n0]; exact hil) gg y
        have hdA : ∀ b, (Av F ρ b ∨ b = Dd) → Ob Ha b := fun b z => z.elim (fun z => (E1.avo b z).same sa) fun z => by rw [z]; exact .lst ea
        obtain ⟨d, e1, a1⟩ := y (fun b => Av F ρ b ∨ b = Dd) (fun b z => z.elim .inl fun z => .inr (by rw [z]; exact hD)) hdA
        rw [List.getElem?_map, List.getElem?_eq_getElem hil] at e1
        have ed : f l[i] = d := Option.some.inj e1
        have hmem : l[i] ∈ l := List.getElem_mem hil
        have htk : (l.map fun a => (m a).map (g a)).take (i + 1) = (l.map fun a => (m a).map (g a)).take i ++ [(m l[i]).map (g l[i])] := by rw [List.take_succ, List.getElem?_map, List.getElem?_eq_getElem hil]; rfl
        rw [← ed] at a1
        have eb := sb Dd _ ea
        have Eb := bs (sa.trans sb) (.lst eb)
        refine gOf_ok (K := X.K) Eb (a1.weak fun b z => z.elim (fun z => .inl (.inl z)) fun z => z.elim id fun z => .inl (.inr (.inr (mo_wipe z)))) (hf _ hmem) fun σ2 E2 hw => ⟨(hw _ hown).trans wipe_wipe, ?_⟩
        unfold tYes
        dsimp only
        rw [if_pos rfl]
        intro s0 H0 C cl fp
        refine hi1 _ hmem s0 H0 C cl fp _ σ2 Hb E2 _ fun J1 H4 s4 wk1 => ?_
        obtain ⟨sz1, G1, gg1, gk1, wkk1⟩ := wk1
        have n1 : ((m l[i]).map (h l[i])).length = (m l[i]).length := List.length_map ..
        have E4 := E2.same s4
        refine ⟨fun j n H => n = (m l[i]).length - j ∧ j ≤ (m l[i]).length ∧ Same H4 H4 ∧ (∀ b o, b ≠ Dd → H4 b = some o → H b = some o) ∧ Pv (((l.map fun a => (m a).map (g a)).take i).flatten ++ ((m l[i]).map (g l[i])).take j) H, ⟨(m l[i]).length, by simp, Nat.zero_le _, Same.refl _, fun b o _ e => e, ?_⟩, ?_⟩
        · rw [ePv, List.take_zero, List.append_nil]
          exact ⟨(sa.trans sb).trans s4, acc, s4 _ _ eb, ta.same (sb.trans s4)⟩
        · rintro j n Hc ⟨rfl, hle1, _, kp4, pv1⟩
          have pv2 := pv1
          rw [ePv] at pv2
          obtain ⟨sc, acc1, ec, tc⟩ := pv2
          have gg2 := gk1 H4 Hc gg1 fun b o nz e => kp4 b o (fun z => nz (.inl (by rw [z]; exact .inr (.inl (.inr rfl))))) e
          by_cases hjl : j < (m l[i]).length
          · refine .inr ⟨wkk1.goes j Hc (by rw [n1]; exact hjl) gg2, fun H' => (∀ b o, b ≠ Dd → H4 b = some o → H' b = some o) ∧ Pv (((l.map fun a => (m a).map (g a)).take i).flatten ++ ((m l[i]).map (g l[i])).take (j + 1)) H', fun H' p' => ⟨(m l[i]).length - (j + 1), by omega, rfl, hjl, Same.refl _, p'.1, p'.2⟩, fun x1 Hd y1 => ?_⟩
            obtain ⟨sd, y1⟩ := wkk1.yields j Hc x1 Hd (by rw [n1]; exact hjl) gg2 y1
            obtain ⟨d1, f1, b1⟩ := y1 (fun b => Av F ρ b ∨ b = Dd) (fun b z => .inl (.inr (.inl z))) fun b z => z.elim (fun z => (E1.avo b z).same sc) fun z => by rw [z]; exact .lst ec
            rw [List.getElem?_map, List.getElem?_eq_getElem hjl] at f1
            have ed1 : h l[i] (m l[i])[j] = d1 := Option.some.inj f1
            have hmem1 : (m l[i])[j] ∈ m l[i] := List.getElem_mem hjl
            rw [← ed1] at b1
            have ed2 := sd Dd _ ec
            have E5 : EnvAt { F with Y := fun b => Av F ρ b ∨ b = Dd } Hd σ2 (setE T (f l[i]) (wipeE ρ (own.map (·.2)))) := by
              refine ⟨fun b z => (E1.avo b (.inl z)).same (sc.trans sd), fun b z => z.elim (fun z => (E1.avo b z).same (sc.trans sd)) fun z => by rw [z]; exact .lst ed2, fun b z n => E1.pd b z ((sc.trans sd).free n), fun b o z e => ?_, E4.len, fun i' u hu => ?_, E4.dj⟩
              · exact (sc.trans sd) b o (E1.sm b o z e)
              · have old := E4.ent i' u hu
                have kp : ∀ b o, b ≠ Dd → H4 b = some o → Hd b = some o := fun b o nz e => sd b o (kp4 b o nz e)
                cases u with
                | any => trivial
                | scr l' => obtain ⟨a', o', e', n', f'⟩ := old; exact ⟨a', o', e', n', kp _ _ (fun z => n' (by rw [z]; exact .inr (.inl (.inr rfl)))) f'⟩
                | dat d' => obtain ⟨v', e', a'⟩ := old; exact ⟨v', e', a'.move (fun _ z => .inl z) fun b o nz e => kp b o (fun z => nz (by rw [z]; exact .inr (.inl (.inr rfl)))) e⟩
                | own p' b' d' =>
                  obtain ⟨e', t', f'⟩ := old
                  have nb : b' ≠ Dd := fun z => by
                    have : Av F ρ b' := .inr (.inr (mo_wipe (vs := own.map (·.2)) (mo_setE ⟨p', d', List.mem_of_getElem? hu⟩)))
                    exact E1.avd b' this (by rw [z]; exact hD)
                  exact ⟨e', t'.move (fun _ z => .inl z) (fun b o nz e => kp b o (fun z => nz (by rw [z]; exact .inr (.inl (.inr rfl)))) e) (fun o e => kp b' o nb e), f'⟩
            refine gOf_ok (K := X.K) (E5.wipe vs1) (b1.weak fun b z => ?_) (hf1 _ hmem _ hmem1) fun σ3 E6 hw1 => ⟨(hw1 _ hown1).trans wipe_wipe, ?_⟩
            · rcases z with z | z | z
              · exact .inl (.inl z)
              · exact z
              · refine .inl (.inr (.inr ?_))
                exact mo_wipe (mo_setE (mo_wipe z))
            · dsimp only
              rw [if_pos rfl]
              refine Bv.go (he _ hmem _ hmem1) E6 fun v H7 s7 r7 => ?_
              have e7 := s7 Dd _ ed2
              have av := (r7.stOf hk E6.avd).weak (Z' := fun b => Av F ρ b ∨ b = Dd) fun b z => .inr (.inl z)
              have kp7 : ∀ b o, ¬ (Av F ρ b ∨ b = Dd) → H7 b = some o → upd H7 Dd (.lst (acc1 ++ [v])) b = some o := fun b o n e => by rw [upd_ne fun z => n (.inr z)]; exact e
              have tk1 : ((m l[i]).map (g l[i])).take (j + 1) = ((m l[i]).map (g l[i])).take j ++ [g l[i] (m l[i])[j]] := by rw [List.take_succ, List.getElem?_map, List.getElem?_eq_getElem hjl]; rfl
              refine ⟨acc1, e7, ?_, fun b o nz e => by rw [upd_ne nz]; exact s7 b o (sd b o (kp4 b o nz e)), ?_⟩
              · have len := tc.length
                have le1 := flat_le (l.map fun a => (m a).map (g a)) (i + 1)
                rw [htk, List.flatten_append, List.length_append] at le1
                simp only [List.flatten_cons, List.flatten_nil, List.append_nil, List.length_map] at le1
                rw [len, List.length_append, List.length_take, List.length_map]
                omega
              · rw [ePv]
                refine ⟨fun b o e => by rw [upd_ne (ne_of_none e hD)]; exact s7 b o ((sc.trans sd) b o e), acc1 ++ [v], upd_same, ?_⟩
                rw [tk1, ← List.append_assoc]
                exact (((tc.same (sd.trans s7)).move (fun _ z => .inl z) kp7)).append (.cons (av.move (fun _ z => .inl z) kp7) .nil)
          · have ej : j = (m l[i]).length := by omega
            subst ej
            refine .inl ⟨by have := wkk1.stops Hc gg2; rwa [n1] at this, ?_⟩
            rw [htk, List.flatten_append]
            simp only [List.flatten_cons, List.flatten_nil, List.append_nil]
            rw [List.take_of_length_le (l := (m l[i]).map (g l[i])) (by rw [List.length_map]; exact Nat.le_refl _)] at pv1
            exact pv1
      · have e : i = l.length := by omega
        subst e
        rw [List.take_of_length_le (by rw [List.length_map]; exact Nat.le_refl _)] at ta
        exact .inl ⟨by have := wkk.stops Ha gg; rwa [n0] at this, q _ Ha (s1.trans sa) ⟨Dd, rfl, s1.free hD, acc, ea, ta⟩⟩)
/-- two fors, no ifs -/
theorem e_lc2 {m : α → List β} {h : α → β → D} {g : α → β → D} {vs1 : List Nat} (T T1 : Tg) (hc : X.calm = true) (hN : X.N.Nodup) (hi : EvI X ρ tg it (l.map f)) (ok : BlkOk X.N X.env.scope scope own) (hv : ∀ i ∈ vs1, i ∈ own.map (·.2)) (hT : ∀ s H C cl fp, TgOk (blk X scope s H C cl fp) tg T) (hT1 : ∀ s H C cl fp, TgOk (blk X scope s H C cl fp) tg1 T1)
    (hf : ∀ a ∈ l, fitsT T (f a)) (hf1 : ∀ a ∈ l, ∀ b ∈ m a, fitsT T1 (h a b)) (hown : ∀ j ∈ T.js, j ∈ own.map (·.2)) (hown1 : ∀ j ∈ T1.js, j ∈ vs1) (hi1 : ∀ a ∈ l, BvI X scope (setE T (f a) (wipeE ρ (own.map (·.2)))) tg1 it1 ((m a).map (h a)))
    (he : ∀ a ∈ l, ∀ b ∈ m a, Bv k X scope (setE T1 (h a b) (wipeE (setE T (f a) (wipeE ρ (own.map (·.2)))) vs1)) elt (g a b)) (hsz : ((l.map fun a => (m a).map (g a)).flatten).length ≤ sizeLine) (hk : k ≠ .rd := by exact fun z => nomatch z)
    (hs : ∀ x, foldedSetIterable it X.env x = pure x := by intro _; rfl) (hs1 : ∀ env x, foldedSetIterable it1 env x = pure x := by intro _ _; rfl) : Ev .fr X ρ (.ListComp elt [⟨tg, it, [], 0⟩, ⟨tg1, it1, [], 0⟩] scope pos) (.lst (l.map fun a => (m a).map (g a)).flatten) := .mk fun F σ H E Q q =>
  wT.of (pe_lc2 (vs1 := vs1) (g := gOf X.K T) (g1 := gOf X.K T1) (te := bT X scope elt) (wi1 := bI X scope tg1 it1) hc hN pi_w ok hv (fun s H C cl fp => hT s H C cl fp) (fun s H C cl fp => pts_nil) (fun s H C cl fp => ⟨fun pins s' σ' H' R I w => w s H C cl fp pins s' I⟩) (fun s H C cl fp => hT1 s H C cl fp) (fun s H C cl fp => pts_nil) (fun s H C cl fp => ⟨fun pins s' σ' H' Q' I w => w s H C cl fp pins s' I⟩) hs hs1)
    (lc2_go T T1 hc hN hi ok hv hT hT1 hf hf1 hown hown1 hi1 he hsz hk E q)
/-- y = [e for .. for ..] -/
theorem s_setLc2 {y : Str} {py spos : Pos} {N : En → Prop} {R : D → En → Prop} (jy : Nat) {m : α → List β} {h : α → β → D} {g : α → β → D} {vs1 : List Nat} (T T1 : Tg) (hc : X.calm = true) (hN : X.N.Nodup) (hi : EvI X ρ tg it (l.map f)) (ok : BlkOk X.N X.env.scope scope own) (hv : ∀ i ∈ vs1, i ∈ own.map (·.2)) (hT : ∀ s H C cl fp, TgOk (blk X scope s H C cl fp) tg T) (hT1 : ∀ s H C cl fp, TgOk (blk X scope s H C cl fp) tg1 T1)
    (hf : ∀ a ∈ l, fitsT T (f a)) (hf1 : ∀ a ∈ l, ∀ b ∈ m a, fitsT T1 (h a b)) (hown : ∀ j ∈ T.js, j ∈ own.map (·.2)) (hown1 : ∀ j ∈ T1.js, j ∈ vs1) (hi1 : ∀ a ∈ l, BvI X scope (setE T (f a) (wipeE ρ (own.map (·.2)))) tg1 it1 ((m a).map (h a)))
    (he : ∀ a ∈ l, ∀ b ∈ m a, Bv k X scope (setE T1 (h a b) (wipeE (setE T (f a) (wipeE ρ (own.map (·.2)))) vs1)) elt (g a b)) (hsz : ((l.map fun a => (m a).map (g a)).flatten).length ≤ sizeLine) (hk : k ≠ .rd := by exact fun z => nomatch z)
    (q : ∀ c', N (ρ.set jy (.own false c' (.lst (l.map fun a => (m a).map (g a)).flatten)))) (hsw : swapsWith (.ListComp elt [⟨tg, it, [], 0⟩, ⟨tg1, it1, [], 0⟩] scope pos) (some (.Name y py)) spos.line X.env = pure true := by rfl) (hy : X.N[jy]? = some y := by rfl) (hyl : X.env.scope.names.lookup y = some .local := by rfl)
    (hs : ∀ x, foldedSetIterable it X.env x = pure x := by intro _; rfl) (hs1 : ∀ env x, foldedSetIterable it1 env x = pure x := by intro _ _; rfl) : ExS X ρ (.Assign [.Name y py] (.ListComp elt [⟨tg, it, [], 0⟩, ⟨tg1, it1, [], 0⟩] scope pos) spos) N R := .mk fun F σ H hyy E Dn w =>
  wS.of (ps_setLc2 (own := own) (vs1 := vs1) (g := gOf X.K T) (g1 := gOf X.K T1) (te := bT X scope elt) (wi1 := bI X scope tg1 it1) hc hN hy hyl hsw pi_w ok hv (fun s H C cl fp => hT s H C cl fp) (fun s H C cl fp => pts_nil) (fun s H C cl fp => ⟨fun pins s' σ' H' R I w => w s H C cl fp pins s' I⟩) (fun s H C cl fp => hT1 s H C cl fp) (fun s H C cl fp => pts_nil) (fun s H C cl fp => ⟨fun pins s' σ' H' Q' I w => w s H C cl fp pins s' I⟩) hs hs1)
    (lc2_go T T1 hc hN hi ok hv hT hT1 hf hf1 hown hown1 hi1 he hsz hk E fun v H1 s1 r1 => by
      obtain ⟨c, E1⟩ := E.putNew s1 r1 jy
      exact w.1 _ _ _ E1 (q c))
end
end TR
/-! ## C20 -/
set_option Elab.async false
set_option linter.all false
set_option maxRecDepth 100000
namespace TR
open PySem L2
section
variable {X : Cx} {ρ : En} {elt tg it tg1 it1 kx vx : Expr} {ifs : List Expr} {scope : Scope} {own : List (Str × Nat)} {k : Kd} {α β : Type} {l : List α} {f : α → D} {T T1 : Tg} {pos p p1 p2 : Pos}
theorem wS.here {X : Cx} {st : Stmt} {D : L2.Ends} {σ : St} {H : Hp} (h : Szs H → wS X st D σ H) : wS X st D σ H := fun pins s I => h (szs_of I) pins s I
/-- y = [e for x in an own dict if ..] -/
theorem s_setLcD {x y : Str} {py spos : Pos} {N : En → Prop} {R : D → En → Prop} {pp : Bool} {c : Addr} {kvs : List (List Int × D)} {kf : List Int × D → Bool} {g : List Int × D → D} (i jy : Nat) (T : Tg) (hρ : ρ[i]? = some (.own pp c (.dT kvs))) (hc : X.calm = true) (hN : X.N.Nodup) (ok : BlkOk X.N X.env.scope scope own) (hT : ∀ s H C cl fp, TgOk (blk X scope s H C cl fp) tg T) (hf : ∀ a ∈ kvs, fitsT T (tD a.1)) (hown : ∀ j ∈ T.js, j ∈ own.map (·.2))
    (ht : ∀ a ∈ kvs, BvTs X scope (setE T (tD a.1) (wipeE (ρ.set i .any) (own.map (·.2)))) ifs (kf a)) (he : ∀ a ∈ kvs, kf a = true → Bv k X scope (setE T (tD a.1) (wipeE (ρ.set i .any) (own.map (·.2)))) elt (g a)) (q : ∀ c', N (ρ.set jy (.own false c' (.lst ((kvs.filter kf).map g))))) (hk : k ≠ .rd := by exact fun z => nomatch z)
    (hsw : swapsWith (.ListComp elt [⟨tg, .Name x p, ifs, 0⟩] scope pos) (some (.Name y py)) spos.line X.env = pure true := by rfl) (hy : X.N[jy]? = some y := by rfl) (hyl : X.env.scope.names.lookup y = some .local := by rfl)
    (hNi : X.N[i]? = some x := by rfl) (hv : Vis X.env.scope x := by first | exact Or.inl rfl | exact Or.inr (Or.inl rfl) | exact Or.inr (Or.inr rfl)) (hd : (x == ("__debug__" : Str)) = false := by decide) (hcd : (x == ("__classdict__" : Str)) = false := by decide)
    (hs : ∀ v, foldedSetIterable (.Name x p) X.env v = pure v := by intro _; rfl) : ExS X ρ (.Assign [.Name y py] (.ListComp elt [⟨tg, .Name x p, ifs, 0⟩] scope pos) spos) N R := .mk fun F σ H hyy E Dn w => by
  obtain ⟨e1, ⟨ks, ec, at_⟩, _⟩ := E.own hρ
  refine wS.here fun sz0 => wS.of (ps_lock (ps_setLc (own := own) (g := gOf X.K T) (tt := bTs X scope ifs) (te := bT X scope elt) hc hN hy hyl hsw pi_w ok (fun s H C cl fp => hT s H C cl fp) (fun s H C cl fp => ⟨fun pins s' σ' H' Q' I h => h s H C cl fp pins s' I⟩) (fun s H C cl fp => ⟨fun pins s' σ' H' Q' I h => h s H C cl fp pins s' I⟩) hs)) ?_
  refine ⟨c, _, ec, True.intro, fun od => ?_⟩
  have mc : Mo ρ c := ⟨pp, _, List.mem_of_getElem? hρ⟩
  have avc : Av F ρ c := .inr (.inr mc)
  have mo' : ∀ b, Mo (ρ.set i .any) b → Mo ρ b := fun b => mo_set fun p d => by intro z; cases z
  have keep : ∀ b o, b ≠ c → H b = some o → upd H c (.frz od (.dT ks)) b = some o := fun b o n e => by rw [upd_ne n]; exact e
  have obk : ∀ b, Ob H b → Ob (upd H c (.frz od (.dT ks))) b := fun b ⟨o, e, n⟩ => by
    by_cases z : b = c
    · rw [z]; exact ⟨_, upd_same, fun _ z => nomatch z⟩
    · exact ⟨o, keep b o z e, n⟩
  obtain ⟨F2, eF⟩ : ∃ F2 : Fr, F2 = { Z := F.Z, Y := Av F ρ, P := fun _ => False, H0 := fun _ => none } := ⟨_, rfl⟩
  have av2 : ∀ b, Av F2 (ρ.set i .any) b → Av F ρ b := fun b z => by
    rw [eF] at z
    exact z.elim .inl fun z => z.elim id fun z => .inr (.inr (mo' b z))
  have av3 : ∀ b, Av F ρ b → Av F2 (ρ.set i .any) b := fun b z => by rw [eF]; exact .inr (.inl z)
  have E2 : EnvAt F2 (upd H c (.frz od (.dT ks))) σ (ρ.set i .any) := by
    refine ⟨fun b h => obk b (E.zd b (by rw [eF] at h; exact h)), fun b h => obk b (E.avo b (by rw [eF] at h; exact h)), fun b h => (by rw [eF] at h; exact h.elim), fun b o _ e => (by rw [eF] at e; cases e), by rw [List.length_set]; exact E.len, fun j u hj => ?_, fun j m p q' b d1 d2 h1 h2 => ?_⟩
    · by_cases hj2 : j = i
      · subst hj2
        rw [List.getElem?_set_self (List.getElem?_eq_some_iff.mp hρ).1] at hj
        cases hj
        trivial
      · have hj3 : ρ[j]? = some u := by rwa [List.getElem?_set_ne (Ne.symm hj2)] at hj
        have kp : ∀ b o, ¬ Av F ρ b → H b = some o → upd H c (.frz od (.dT ks)) b = some o := fun b o n e => keep b o (fun z => n (by rw [z]; exact avc)) e
        cases u with
        | any => trivial
        | scr l => obtain ⟨a, o, e1, n, e2⟩ := E.ent j _ hj3; exact ⟨a, o, e1, fun z => n (av2 a z), kp _ _ n e2⟩
        | dat d =>
          obtain ⟨v, e2, a2⟩ := E.ent j _ hj3
          exact ⟨v, e2, a2.move (fun b z => .inl (av2 b z)) kp⟩
        | own p b d =>
          obtain ⟨e2, t2, f2⟩ := E.ent j _ hj3
          have nb : b ≠ c := fun z => hj2 (E.dj j i p pp c d _ (by rw [← z]; exact hj3) hρ)
          exact ⟨e2, t2.move (fun b z => .inl (av2 b z)) kp (fun o e => keep b o nb e), .inr (by rw [eF]), fun z => by rw [eF]; exact f2.2 z⟩
    · have old : ∀ {j : Nat} {p : Bool} {b : Addr} {d1 : D}, (ρ.set i .any)[j]? = some (.own p b d1) → ρ[j]? = some (.own p b d1) := fun {j p b d1} hj => by
        by_cases hij : i = j
        · subst hij
          rw [List.getElem?_set_self (List.getElem?_eq_some_iff.mp hρ).1] at hj
          cases hj
        · rwa [List.getElem?_set_ne hij] at hj
      exact E.dj j m p q' b d1 d2 (old h1) (old h2)
  have n0 : (kvs.map fun a => tD a.1).length = ks.length := by rw [List.length_map, at_.length]
  have ia : ∀ (Z : Addr → Prop) (H' : Hp) (l : List Int), Ats Z H' ((l.map (Sum.inl : Int → Key)).map kV) (l.map .int) := fun Z H' l => by
    induction l with
    | nil => exact .nil
    | cons i l ih => exact .cons (.int i) ih
  refine lc_go (f := fun a : List Int × D => tD a.1) (g := g) (p := kf) (k := k) E2 (fun R r => ?_) hf hown ht he hk fun v H' s r => ?_
  · refine wI.of (pi_keys (pe_var hNi hv hd hcd)) ⟨_, e1, c, od, rfl, .inr ⟨ks, upd_same, r _ _ (Same.refl _) ⟨by rw [n0]; exact sz0.2.2.1 c ks ec, fun H' => H' c = some (.frz od (.dT ks)), upd_same, fun H1 H2 g s => s c _ g, ?_⟩⟩⟩
    rw [n0]
    refine walk_keysT.mono (fun _ g => g) fun j H1 x H2 hj g y => ?_
    obtain ⟨rfl, kk, v, q', hk', rfl, hq⟩ := y
    refine ⟨Same.refl _, fun Z hz ho => ?_⟩
    have hj' : j < kvs.length := by rw [← at_.length]; exact hj
    refine ⟨tD kvs[j].1, by rw [List.getElem?_map, List.getElem?_eq_getElem hj']; rfl, ?_⟩
    have ek : kk = kvs[j].1.map Sum.inl := by
      have e := at_.keys
      have e3 := congrArg (fun l => l[j]?) e
      simp only [List.getElem?_map, hk', List.getElem?_eq_getElem hj', Option.map_some] at e3
      exact Option.some.inj e3
    subst ek
    exact .tup (fun z => (ho _ z).no hq) hq (ia Z _ _)
  · have hc' := s c _ upd_same
    have s1 : Same H (upd H' c (.dT ks)) := fun b o e => by
      by_cases z : b = c
      · rw [z] at e ⊢
        rw [ec] at e
        rw [upd_same]; exact e
      · rw [upd_ne z]; exact s b o (keep b o z e)
    have r1 : Res .fr (Av F ρ) H (upd H' c (.dT ks)) v (.lst ((kvs.filter kf).map g)) := by
      obtain ⟨b, rfl, nb, t⟩ := r
      have nbc : b ≠ c := fun z => by rw [z, upd_same] at nb; cases nb
      refine ⟨b, rfl, by rw [← nb, upd_ne nbc], t.move (fun b' z => .inl (z.imp (av3 b') id)) (fun b' o n e => ?_) fun o e => by rw [upd_ne nbc]; exact e⟩
      rw [upd_ne fun z => n (.inl (by rw [z]; exact av3 c avc))]
      exact e
    obtain ⟨c', E1⟩ := E.putNew s1 r1 jy
    exact ⟨hc', w.1 _ _ _ E1 (q c')⟩
end
end TR
/-! ## C21 -/
set_option Elab.async false
set_option linter.all false
set_option maxRecDepth 100000
namespace TR
open PySem L2 PySem.Spec PyProof.Rows
/-! ### set of a list of ints -/
section
variable {P : Program} {w : World} {A : Around} {E : Value → Shared → Prop} {s : Shared}
set_option maxHeartbeats 3200000 in
theorem make_setI {l : Addr} {items : Array Value} (ns : List Int) {Q : Value → Shared → Prop} (hh : A.handled = none) (hl : s.heap.IsList l items) (hit : IntsAre items.toList ns) (few : ns.length + 1 < scanBound)
    (fin : ∀ (h2 : Heap) (tk c : Nat), SetR w h2 s.heap.objs.size (fun j => decide (j ∈ ns)) c → c ≤ ns.length → (∀ b o, s.heap.get? b = some o → h2.get? b = some o) → Q (.ref s.heap.objs.size) { s with heap := h2, toks := tk }) :
    wpAny (model P w) A (call (.type "set") [.ref l]) Q E s := by
  have many : items.size = ns.length := by simpa using IntsAre.length hit
  obtain ⟨cc, tl, hmro⟩ := F.called_set.mro
  have f1 := F.called_set.made
  have f2 := F.called_set.sub
  have f3 := F.called_set.notType
  have f4 := F.called_set.canCreate
  have f5 := F.typeCall_set_1 (.ref l)
  have gone : ∀ b, s.heap.objs.size ≤ b → s.heap.get? b = none := fun b hb => Option.eq_none_iff_forall_ne_some.mpr fun o e => absurd (Heap.lt_size e) (Nat.not_lt.mpr hb)
  refine wpAny_call (codeAny_of_tree ?_)
  show wpAny _ _ (callAny (.type "set") _) _ _ _
  refine wpAny_pure ⟨Code.quiet_builtin _ (by decide +kernel), codeAny_builtin F.entry_type_call ?_⟩
  rw [Around.under_plain (weight_type_call_type "set" [.ref l] []) rfl]
  repeat (any_goals (first | assumption | wp_step))
  refine codeAny_mono (code_set_led1 (.ref l) (E := E) (Q₁ := fun obj s₁ => obj = .ref s.heap.objs.size ∧ s₁ = { s with heap := s.heap.push (blankO w) }) ⟨rfl, rfl⟩) fun r s₁ hr => ?_
  match r, hr with
  | .error _, hr => exact hr
  | .ok (.ret obj), hr =>
    obtain ⟨rfl, rfl⟩ := hr
    have hS : (s.heap.push (blankO w)).get? s.heap.objs.size = some (blankO w) := Heap.get?_push_size _ rfl
    have hT : Shared.TypeIs { s with heap := s.heap.push (blankO w) } (.ref s.heap.objs.size) "set" := ⟨_, hS, rfl⟩
    have g1 := F.called_set.init.lookup
    have g2 := F.called_set.init.bind (.ref s.heap.objs.size)
    repeat (any_goals (first | assumption | wp_step))
    refine codeAny_mono (codeAny_call_builtin (R := wants (fun r s₂ => r = .none ∧ ∃ h2 tk c, s₂ = { s with heap := h2, toks := tk } ∧ SetR w h2 s.heap.objs.size (fun j => decide (j ∈ ns)) c ∧ c ≤ ns.length ∧ (∀ b o, s.heap.get? b = some o → h2.get? b = some o)) E) F.called_set.init.plain F.entry_set_init (check_set_init_1 hT ?_)) fun r₂ s₂ hr₂ => ?_
    · obtain ⟨⟨ocls, odict, odata, oslots⟩, hol, hcl, nl, hdl⟩ := hl
      simp only at hcl hdl
      subst hcl; subst hdl
      have hol2 : (s.heap.push (blankO w)).get? l = some { cls := .type "list", dict := odict, data := .seq items nl, slots := oslots } := Heap.get?_push_of_some _ hol
      have d1 := F.sub_list_set
      have d2 := F.sub_list_frozenset
      have d3 : (Value.type "list" == Value.type "dict") = false := by decide
      have lst1 : (s.heap.push (blankO w)).IsList l items := ⟨_, hol2, rfl, nl, rfl⟩
      unfold Builtin.«set.__init__» noKeywords Builtin.Frozenset.updateFrom
      generalize hPI : pyIter = PI
      wp_walk
      subst hPI
      refine wpAny_pyIter_list lst1 ?_
      refine wpAny_bind (wpAny_runValue ?_)
      have ls : l < s.heap.objs.size := Heap.lt_size hol
      have hh3 : A.in1.in1.in1.handled = none := by simp [hh]
      have z1 : (s.heap.push (blankO w)).objs.size = s.heap.objs.size + 1 := Heap.size_push ..
      have apart : l ≠ (s.heap.push (blankO w)).objs.size := by rw [z1]; exact Nat.ne_of_lt (Nat.lt_succ_of_lt ls)
      have hval : ∀ (i : Nat) (v : Value), items[i]? = some v → ∃ k t, ns[i]? = some k ∧ v = .int k t := fun i v hv => by
        have hi : i < ns.length := by rw [← many]; exact (Array.getElem?_eq_some_iff.mp hv).1
        obtain ⟨t, e⟩ := IntsAre.int_at hit i v (by rw [Array.getElem?_toList]; exact hv)
        exact ⟨ns[i], t, List.getElem?_eq_getElem hi, by rw [e, List.getD_eq_getElem?_getD, List.getElem?_eq_getElem hi]; rfl⟩
      refine set_update_ints ((Walks.list hh3 _ l apart items).toS) s.heap.objs.size (by
        rw [z1, List.mem_cons, List.mem_singleton]
        exact fun z => z.elim (fun z => Nat.ne_of_lt (Nat.lt_succ_self _) z) fun z => Nat.ne_of_gt ls z) ns many few hval (items.size - 0) 0 _ (by omega) (Nat.zero_le _)
        ⟨⟨_, Heap.get?_push_size _ rfl, rfl, rfl⟩, (lst1.push _)⟩ ⟨0, Nat.le_refl _, setR_new_at (Heap.get?_push_of_some _ hS)⟩ fun s3 c m hc q => ?_
      have kp : ∀ b o, s.heap.get? b = some o → s3.heap.get? b = some o := fun b o e => m.heap b o (fun hb => by
        have lt := Heap.lt_size e
        rw [List.mem_cons, List.mem_singleton] at hb
        rcases hb with hb | hb
        · rw [hb] at lt; exact Nat.lt_irrefl _ lt
        · rw [hb, z1] at lt; exact Nat.lt_irrefl _ (Nat.lt_trans (Nat.lt_succ_self _) lt)) (Heap.get?_push_of_some _ (Heap.get?_push_of_some _ e))
      obtain ⟨h3, gg, dd, tt, os3⟩ := s3
      obtain rfl : gg = s.gens := m.gens
      obtain rfl : dd = s.drawn := m.drawn
      obtain rfl : os3 = s.os := m.os
      show wpAny _ _ _ _ _ _
      refine wpAny_pure ?_
      show wpAny _ _ (ret Value.none) _ _ _
      rw [many] at hc
      exact wpAny_pure ⟨rfl, h3, tt, c, rfl, q, hc, kp⟩
    · match r₂, hr₂ with
      | .error _, hr₂ => exact hr₂
      | .ok (.ret r), hr₂ =>
        obtain ⟨rfl, h2, tk, c, rfl, q, hc, kp⟩ := hr₂
        repeat (any_goals (first | assumption | wp_step))
        exact fin _ _ _ q hc kp
end
end TR
/-! ## C22 -/
set_option Elab.async false
set_option linter.all false
set_option maxRecDepth 100000
namespace TR
open PySem L2 PySem.Spec PyProof.Rows
/-! ### min of a tuple of ints -/
section
variable {X : Cx}
def rMinT (K : PySem.W.Frag) : List V → Hp → VK → Prop := fun vs H Q => ∃ (a : Addr) (n : Int) (ns : List Int), vs = [V.ref a] ∧ SqT K H a ((n :: ns).map V.int) ∧ ns.length ≤ 8 ∧ Q (.int (ns.foldl min n)) H
theorem alikeInts (ns : List Int) : PySem.W.AlikeAll (ns.map PyData.int) := by
  refine ⟨fun x hx y hy => ?_, fun x hx => ?_⟩
  · obtain ⟨a, _, rfl⟩ := List.mem_map.mp hx
    obtain ⟨b, _, rfl⟩ := List.mem_map.mp hy
    show PySem.W.alike (.int a) (.int b) = true
    simp only [PySem.W.alike]
  · obtain ⟨a, _, rfl⟩ := List.mem_map.mp hx
    exact fun e => by cases e
theorem depthInts : ∀ ns : List Int, PyData.depthAll (ns.map PyData.int) = 0
  | [] => rfl
  | n :: ns => by rw [List.map_cons, PyData.depthAll, depthInts ns]; rfl
theorem cr_minT (hc : X.calm = true) (hu : X.A.units + 1 < cLine) : CallR X (.builtin "min") (rMinT X.K) := by
  intro pins s σ H vs us Q I r h
  obtain ⟨a, n, ns, rfl, hs, _, q⟩ := h
  obtain ⟨its, rv, hl, _⟩ := I.tuple hs
  rw [Vals.ref1 r]
  have hr := rv.ints.reads s.heap
  have hr : ReadsAll s.heap its.toArray.toList (PyData.int n :: ns.map PyData.int) [] := by simpa using hr
  refine PySem.W.min_tuple_data (I.ok.hd hc) hl hr (alikeInts (n :: ns)) (by rw [show PyData.depthAll (PyData.int n :: ns.map PyData.int) = 0 from depthInts (n :: ns)]; exact hu) fun i v h' tk bs hi rd hk => ?_
  rw [PySem.W.minD_ints] at rd
  cases rd
  exact ⟨.int _, H, I.kept hk, ⟨_, rfl⟩, q⟩
end
section
variable {X : Cx} {ρ : En} {a : Expr} {k : Kd} {p pos : Pos}
theorem e_minT {n : Int} {ns : List Int} (hc : X.calm = true) (hu : X.A.units + 1 < cLine) (hm : X.mg "min" = none) (ha : Ev k X ρ a (.tup ((n :: ns).map .int))) (h8 : ns.length ≤ 8) (hg : Gl X "min" := by rfl) (h1 : starEach [a] X.env = (false, eval a X.env) :: starEach [] X.env := by rfl) : Ev .st X ρ (.Call (.Name "min" p) [a] [] pos) (.int (ns.foldl min n)) :=
  e_callB (cr_minT hc hu) hm PyProof.Rows.boot_min (a_cons ha a_nil (fun z => nomatch z) h1) (fun Z H vs hz r Q q => by
    obtain ⟨v, rfl, r1⟩ := r.one
    obtain ⟨a, xs, rfl, _, e1, t⟩ := r1.tup
    rw [t.ints] at e1
    exact ⟨a, n, ns, rfl, SqT.of e1, h8, q _ H (Same.refl H) (.int _)⟩) hg (by decide) (by decide) h1 rfl
end
/-- sorted(set(ns)) -/
def iDup : List Int → List Int
  | [] => []
  | [x] => [x]
  | x :: y :: l => if x = y then iDup (y :: l) else x :: iDup (y :: l)
def iSet (l : List Int) : List Int := iDup (iSort l)
theorem iDup_mem (z : Int) : ∀ l, z ∈ iDup l ↔ z ∈ l
  | [] => Iff.rfl
  | [x] => Iff.rfl
  | x :: y :: l => by
    unfold iDup
    split
    · rename_i e
      rw [iDup_mem z (y :: l), e]
      simp
    · rw [List.mem_cons, iDup_mem z (y :: l), List.mem_cons (a := z) (b := x)]
theorem iDup_up : ∀ {l : List Int}, l.Pairwise (· ≤ ·) → (iDup l).Pairwise (· < ·)
  | [], _ => .nil
  | [x], _ => List.pairwise_singleton _ _
  | x :: y :: l, h => by
    unfold iDup
    obtain ⟨h1, h2⟩ := List.pairwise_cons.mp h
    split
    · exact iDup_up h2
    · rename_i ne
      refine List.pairwise_cons.mpr ⟨fun z hz => ?_, iDup_up h2⟩
      have hz := (iDup_mem z (y :: l)).mp hz
      have c1 := h1 y List.mem_cons_self
      rcases List.mem_cons.mp hz with e | hz
      · omega
      · have := (List.pairwise_cons.mp h2).1 z hz; omega
theorem iSet_mem {z : Int} {l : List Int} : z ∈ iSet l ↔ z ∈ l := (iDup_mem z _).trans (iSort_perm l).mem_iff
theorem iSet_up (l : List Int) : (iSet l).Pairwise (· < ·) := iDup_up (iSort_up l)
theorem upI_eq {l m : List Int} (h1 : l.Pairwise (· < ·)) (h2 : m.Pairwise (· < ·)) (e : ∀ z, z ∈ l ↔ z ∈ m) : l = m := by
  have n1 : l.Nodup := h1.imp fun {a b} q e => by omega
  have n2 : m.Nodup := h2.imp fun {a b} q e => by omega
  exact ((List.perm_ext_iff_of_nodup n1 n2).mpr e).eq_of_pairwise (fun a b _ _ p q => by omega) h1 h2
section
variable {X : Cx} {ρ ρ1 : En} {a : Expr} {k : Kd} {p p2 q pos : Pos}
def rSetI (K : PySem.W.Frag) (w : World) : List V → Hp → VK → Prop := fun xs H Q => ∃ (l : Addr) (ns : List Int), xs = [V.ref l] ∧ SqL K H l (ns.map V.int) ∧ ns.length < 63 ∧ ∀ a c, H a = none → c ≤ ns.length → Q (.ref a) (upd H a (SetO w a (fun j => decide (j ∈ ns)) c))
theorem cr_setI (hc : X.calm = true) : CallR X (.type "set") (rSetI X.K X.w) := by
  intro pins s σ H xs us Q I r h
  obtain ⟨l, ns, rfl, hl, few, q⟩ := h
  rw [Vals.ref1 r]
  obtain ⟨its, rv, pl, hz⟩ := I.list hl
  refine make_setI (P := X.prog) (w := X.w) ns (I.ok.hd hc) pl.isList (by simpa using rv.ints) (Nat.lt_of_lt_of_le (Nat.succ_lt_succ few) (by decide)) fun h2 tk c R hc kp => ?_
  exact ⟨.ref s.heap.objs.size, upd H s.heap.objs.size (SetO X.w s.heap.objs.size (fun j => decide (j ∈ ns)) c), I.laid (t' := tk) kp (Nat.le_refl _) (setO_new R), rfl, q _ c (I.hok.fresh (Nat.le_refl _)) hc⟩
/-- sorted(set(l)), l a list of ints that changes others -/
theorem m_sortSetI {ns : List Int} (hc : X.calm = true) (hm : X.mg "sorted" = none) (hm2 : X.mg "set" = none) (ha : EvM k X ρ a (.lst (ns.map .int)) ρ1) (few : ns.length < 63) (hk : k ≠ .rd := by exact fun z => nomatch z) (hg : Gl X "sorted" := by rfl) (hg2 : Gl X "set" := by rfl)
    (h1 : starEach [a] X.env = (false, eval a X.env) :: starEach [] X.env := by rfl) (h2 : starEach [.Call (.Name "set" p2) [a] [] q] X.env = (false, eval (.Call (.Name "set" p2) [a] [] q) X.env) :: starEach [] X.env := by rfl) :
    EvM .fr X ρ (.Call (.Name "sorted" p) [.Call (.Name "set" p2) [a] [] q] [] pos) (.lst ((iSet ns).map .int)) ρ1 := ⟨ha.mo, fun F σ H E Q qq =>
  wT.of (pe_callB (cr_sortedSet hc) hg hm PyProof.Rows.boot_sorted (pa_cons (pe_callTy (cr_setI hc) hg2 hm2 PyProof.Rows.boot_set pa_w (by decide) (by decide) h1 rfl) pa_nil h2) (by decide) (by decide) h2 rfl)
    ((ma_cons ha ma_nil hk h1).go F σ H E _ fun vs H1 c1 E1 r1 => by
      cases r1 with
      | cons r rr =>
        cases rr
        obtain ⟨a, xs, rfl, e1, t⟩ := Rd.lst (.inl r)
        rw [t.ints] at e1
        refine ⟨a, ns, rfl, SqL.of e1, few, fun s c hn hcn => ⟨s, _, c, rfl, upd_same, by omega, fun ms pp up mem len hn2 => ?_⟩⟩
        have em : ms = iSet ns := upI_eq up (iSet_up ns) fun z => (mem z).trans (decide_eq_true_iff.trans iSet_mem.symm)
        have sm : Same H1 (upd H1 s (SetO X.w s (fun j => decide (j ∈ ns)) c)) := Same.new hn
        have hn3 : H1 pp = none := by
          by_cases e : pp = s
          · rw [e]; exact hn
          · rw [upd_ne e] at hn2; exact hn2
        have ia : ∀ (Z : Addr → Prop) (H : Hp) (l : List Int), Ats Z H (l.map V.int) (l.map .int) := fun Z H l => by
          induction l with
          | nil => exact .nil
          | cons i l ih => exact .cons (.int i) ih
        rw [em]
        have sm2 := sm.trans (Same.new (o := .lst ((iSet ns).map V.int)) hn2)
        exact qq _ _ (c1.trans ha.mo (Same.chg sm2)) (E1.same sm2) ((((ia (Av F ρ1) _ (iSet ns)).newLst hn2).back sm).backC c1))⟩
end
end TR
/-! ## C23 -/
set_option Elab.async false
set_option linter.all false
set_option maxRecDepth 100000
namespace TR
open PySem L2 PySem.Spec PyProof.Rows
section
variable {X : Cx} {ρ ρ1 ρ2 : En} {a b c e elt tg it : Expr} {es rest : List Expr} {k k1 k2 : Kd} {d d1 d2 : D} {pos p p' spos pt : Pos} {N : NK} {R : RK} {x y : Str} {scope : Scope} {F : Fr} {σ : L2.St} {H H' : Hp}
/-- a and b, a true, both with effects -/
theorem m_and (ha : EvM k1 X ρ a (.bl true) ρ1) (hb : EvM k2 X ρ1 (.BoolOp .And (b :: rest) pos) (.bl true) ρ2) (hk : k1 ≠ .rd := by exact fun z => nomatch z) (hk2 : k2 ≠ .rd := by exact fun z => nomatch z) : EvM .st X ρ (.BoolOp .And (a :: b :: rest) pos) (.bl true) ρ2 := ⟨ha.mo.trans hb.mo, fun F σ H E Q q =>
  wT.of (pe_and pe_w pe_w) (ha.go F σ H E _ fun v H1 c1 E1 r1 => by
    cases r1.rdOf.bl
    exact ⟨true, rfl, hb.go F σ H1 E1 _ fun v H2 c2 E2 r2 => q v H2 (c1.trans ha.mo c2) E2 ((r2.backC c1).stOf hk2 fun b z => E.avd b (((ha.mo.trans hb.mo).av F b).1 z))⟩)⟩
theorem m_one {op : BoolOp} (h : EvM k X ρ a d ρ1) : EvM k X ρ (.BoolOp op [a] pos) d ρ1 := ⟨h.mo, fun F σ H E Q q => wT.of (pe_one pe_w) (h.go F σ H E Q q)⟩
/-- sorted(l) of tuples of ints, with effects -/
theorem m_sortL {ks : List (List Int)} (hc : X.calm = true) (hu : X.A.units + 64 < cLine) (hm : X.mg "sorted" = none) (ha : EvM k X ρ a (.lst (ks.map tD)) ρ1) (ne : 2 ≤ ks.length → ∀ r ∈ ks, r ≠ []) (hk : k ≠ .rd := by exact fun z => nomatch z) (hg : Gl X "sorted" := by rfl) (h1 : starEach [a] X.env = (false, eval a X.env) :: starEach [] X.env := by rfl) : EvM .fr X ρ (.Call (.Name "sorted" p) [a] [] pos) (.lst ((rSort ks).map tD)) ρ1 :=
  m_callB (cr_sortR hc hu) hm PyProof.Rows.boot_sorted (ma_cons ha ma_nil hk h1) (fun Z H vs hz r Q q => by
    obtain ⟨v, rfl, r1⟩ := r.one
    obtain ⟨a, xs, rfl, e1, t⟩ := r1.lst
    obtain ⟨ps, rfl, rfl, hp⟩ := t.rows
    refine ⟨a, ps, rfl, .inr (SqL.of e1), fun p hm => SqT.of (hp p hm).2, fun h2 p hm => ne (by simpa using h2) p.2 (List.mem_map.mpr ⟨p, hm, rfl⟩), fun L2 pp pm pw hn => ?_⟩
    rw [rSort_eq (l := ps.map (·.2)) (m := L2.map (·.2)) (List.pairwise_map.mpr pw) (pm.map _)] at q
    exact q _ _ (Same.new hn) ((rows_ats fun p hm => (hp p (pm.mem_iff.mp hm)).1).newLst hn)) hg (by decide) (by decide) h1 rfl
/-- min(i, j) -/
theorem e_min2 {i j : Int} (hc : X.calm = true) (hm : X.mg "min" = none) (ha : Ev k1 X ρ a (.int i)) (hb : Ev k2 X ρ b (.int j)) (hg : Gl X "min" := by rfl) (h1 : starEach [a, b] X.env = (false, eval a X.env) :: starEach [b] X.env := by rfl) (h2 : starEach [b] X.env = (false, eval b X.env) :: starEach [] X.env := by rfl) (hpl : (backTo pos (starEach [b] X.env)).any (·.1) = false := by rfl) : Ev .st X ρ (.Call (.Name "min" p) [a, b] [] pos) (.int (if j < i then j else i)) :=
  e_callB (call_min2 hc) hm PyProof.Rows.boot_min (a_cons ha (a_cons hb a_nil (fun z => nomatch z) h2) (fun z => nomatch z) h1) (fun Z H vs hz r Q q => by
    cases r with
    | cons r1 rr =>
      cases rr with
      | cons r2 rr =>
        cases rr
        rw [r1.rdOf.int, r2.rdOf.int]
        exact ⟨i, j, rfl, q _ H (Same.refl H) (.int _)⟩) hg (by decide) (by decide) h1 hpl
/-! ### a comprehension over a range whose element changes own objects -/
def BvM (k : Kd) (X : Cx) (scope : Scope) (ρ : En) (e : Expr) (d : D) (ρ' : En) : Prop := ∀ s H0 C cl fp, EvM k (blk X scope s H0 C cl fp) ρ e d ρ'
theorem set_none {σ : L2.St} {j : Nat} {x : Option V} (h : σ[j]? = some x) : (σ.set j none).set j x = σ := by
  rw [List.set_set]
  obtain ⟨hj, e⟩ := List.getElem?_eq_some_iff.mp h
  rw [← e]; exact List.set_getElem_self hj
theorem EnvAt.unset (E : EnvAt F H (σ.set j none) ρ) (h : ρ[j]? = some .any) : EnvAt F H σ ρ := by
  have hj : j < σ.length := by
    have := (List.getElem?_eq_some_iff.mp h).1
    rw [← E.len, List.length_set] at this; exact this
  have e1 := E.putAny j σ[j]
  rw [set_none (List.getElem?_eq_getElem hj)] at e1
  obtain ⟨hr, e⟩ := List.getElem?_eq_some_iff.mp h
  rw [show ρ.set j .any = ρ by rw [← e]; exact List.set_getElem_self hr] at e1
  exact e1
/-- fewer forbidden -/
theorem EnvAt.free {Y : Addr → Prop} (E : EnvAt { F with Y := Y } H σ ρ) (hy : ∀ b, F.Y b → Y b) : EnvAt F H σ ρ where
  zd := E.zd
  yd := fun b h => E.yd b (hy b h)
  pd := E.pd
  sm := E.sm
  len := E.len
  ent := fun i e h => by
    have q := E.ent i e h
    have av : ∀ b, Av F ρ b → Av { F with Y := Y } ρ b := fun b z => z.imp id fun z => z.imp (hy b) id
    cases e with
    | any => trivial
    | scr l => obtain ⟨a, o, e1, n, e2⟩ := q; exact ⟨a, o, e1, fun z => n (av a z), e2⟩
    | dat d => obtain ⟨v, e1, a⟩ := q; exact ⟨v, e1, a.weak av⟩
    | own p b d => obtain ⟨e1, t, f⟩ := q; exact ⟨e1, t.move (fun c z => .inl (av c z)) (fun c o _ e => e) (fun o e => e), f⟩
  dj := E.dj
/-- a forbidden new object changes -/
theorem EnvAt.updY (E : EnvAt F H σ ρ) {c : Addr} {o : HO} (hc : F.Y c) (hm : ¬ Mo ρ c) (h0 : F.H0 c = none) (ho : ∀ xs, o ≠ .tup xs) : EnvAt F (upd H c o) σ ρ where
  zd := fun b h => by
    by_cases e : b = c
    · rw [e]; exact ⟨o, upd_same, ho⟩
    · obtain ⟨u, e1, n⟩ := E.zd b h; exact ⟨u, by rw [upd_ne e]; exact e1, n⟩
  yd := fun b h => by
    by_cases e : b = c
    · rw [e]; exact ⟨o, upd_same, ho⟩
    · obtain ⟨u, e1, n⟩ := E.yd b h; exact ⟨u, by rw [upd_ne e]; exact e1, n⟩
  pd := fun b h => by
    by_cases e : b = c
    · rw [e, upd_same]; exact fun z => nomatch z
    · rw [upd_ne e]; exact E.pd b h
  sm := fun b u h e => by
    by_cases z : b = c
    · rw [z, h0] at e; cases e
    · rw [upd_ne z]; exact E.sm b u h e
  len := E.len
  ent := fun i e h => by
    have q := E.ent i e h
    have kp : ∀ b u, ¬ Av F ρ b → H b = some u → upd H c o b = some u := fun b u n e => by rw [upd_ne fun z => n (by rw [z]; exact .inr (.inl hc))]; exact e
    cases e with
    | any => trivial
    | scr l => obtain ⟨a, o, e1, n, e2⟩ := q; exact ⟨a, o, e1, n, kp _ _ n e2⟩
    | dat d => obtain ⟨v, e1, a⟩ := q; exact ⟨v, e1, a.move (fun _ z => .inl z) kp⟩
    | own p b d =>
      obtain ⟨e1, t, f⟩ := q
      have nb : b ≠ c := fun z => hm (by rw [← z]; exact ⟨p, d, List.mem_of_getElem? h⟩)
      exact ⟨e1, t.move (fun _ z => .inl z) kp fun u e => by rw [upd_ne nb]; exact e, f⟩
  dj := E.dj
theorem lcM_go {n : Nat} {ρM : Nat → En} {g : Nat → D} {j : Nat} {Q : VK} (E : EnvAt F H σ ρ) (hi : ∀ R : It → Hp → Prop, (∀ J H1, Same H H1 → Wk (fun b => Av F ρ b ∨ H1 b = none) J ((List.range n).map fun i : Nat => D.int (i : Nat)) H1 → R J H1) → wI X tg it σ H R)
    (h0 : ρM 0 = ρ) (hmo : ∀ i, MoEq ρ (ρM i)) (hany : ∀ i, (ρM i)[j]? = some .any) (he : ∀ i, i < n → BvM k X scope ((ρM i).set j (.dat (.int (i : Nat)))) elt (g i) ((ρM (i + 1)).set j (.dat (.int (i : Nat))))) (hk : k ≠ .rd)
    (q : ∀ v H', Chg ρ H H' → EnvAt F H' σ (ρM n) → Res .fr (Av F (ρM n)) H H' v (.lst ((List.range n).map g)) → Q v H') : tLc (wI X tg it) (gOf X.K (.one j)) (bTs X scope []) (bT X scope elt) [j] σ H Q := by
  refine hi _ fun J H1 s1 wk => ?_
  intro Dd hD
  obtain ⟨sz, G, g1, gk, wkk⟩ := wk
  have E1 := E.same s1
  have nDm : ¬ Mo ρ Dd := fun z => E1.avd Dd (.inr (.inr z)) hD
  have h0D : F.H0 Dd = none := E1.fresh hD
  have lenR : ((List.range n).map fun i : Nat => D.int (i : Nat)).length = n := by rw [List.length_map, List.length_range]
  rw [lenR] at sz wkk
  obtain ⟨F', hF'⟩ : ∃ F' : Fr, F' = { F with Y := fun b => Av F ρ b ∨ b = Dd } := ⟨_, rfl⟩
  have av : ∀ i b, Av F' (ρM i) b ↔ (Av F ρ b ∨ b = Dd) := fun i b => by
    rw [hF']
    constructor
    · rintro (z | z | z)
      · exact .inl (.inl z)
      · exact z
      · exact .inl (.inr (.inr ((hmo i b).1 z)))
    · exact fun z => .inr (.inl z)
  have E2 : EnvAt F' (upd H1 Dd (.lst [])) (L2.wipe σ [j]) (ρM 0) := by
    rw [hF', h0]
    have e1 := (E1.forbid (Z := fun b => Av F ρ b ∨ b = Dd) (H' := upd H1 Dd (.lst [])) (fun b z => z.elim .inl fun z => .inr (by rw [z]; exact hD)) (Same.new hD) fun b z => z.elim (fun z => (E1.avo b z).same (Same.new hD)) fun z => by rw [z]; exact .lst upd_same).wipe [j]
    have e2 : wipeE ρ [j] = ρ := by
      have := hany 0
      rw [h0] at this
      obtain ⟨hr, e⟩ := List.getElem?_eq_some_iff.mp this
      show ρ.set j .any = ρ
      rw [← e]; exact List.set_getElem_self hr
    rw [e2] at e1; exact e1
  refine lc_it wkk (fun i H' => (∀ b o, ¬ Mo ρ b → H1 b = some o → H' b = some o) ∧ (∀ b, H' b = none → H1 b = none) ∧ EnvAt F' H' (L2.wipe σ [j]) (ρM i) ∧ ∃ acc, H' Dd = some (.lst acc) ∧ Ats (fun b => Av F ρ b ∨ b = Dd) H' acc ((List.range i).map g)) ⟨fun b o _ e => Same.new hD b o e, fun b e => (Same.new hD).free e, E2, [], upd_same, .nil⟩ (fun i H' _ pv => gk H1 H' g1 fun b o nb e => pv.1 b o (fun z => nb (.inl (.inr (.inr z)))) e) ?_ ?_
  · rintro i x Ha Hb hi ⟨k1, k2, Ea, acc, ea, ta⟩ ⟨sb, y⟩
    obtain ⟨d, e1, a1⟩ := y (fun b => Av F ρ b ∨ b = Dd) (fun b z => z.elim .inl fun z => .inr (by rw [z]; exact hD)) fun b z => Ea.avo b ((av i b).mpr z)
    rw [List.getElem?_map, List.getElem?_range hi] at e1
    have ed : D.int (i : Nat) = d := Option.some.inj e1
    rw [← ed] at a1
    have eb := sb Dd _ ea
    have Eb := Ea.same sb
    refine gOf_ok (T := .one j) Eb (a1.weak fun b z => (av i b).mp z) trivial fun σ2 E2 hw => ⟨(hw [j] (by simp [Tg.js])).trans wipe_wipe, ?_⟩
    intro t0 T00 C0 cl0 fp0 pins s I
    refine pts_nil.run pins s σ2 Hb _ I ?_
    unfold tYes
    dsimp only
    rw [if_pos rfl]
    intro s0 H00 C cl fp
    refine (he i hi s0 H00 C cl fp).go F' σ2 Hb E2 _ fun v H4 c4 E4 r4 => ?_
    have mo2 : ∀ b, Mo ((ρM i).set j (.dat (.int (i : Nat)))) b → Mo ρ b := fun b z => (hmo i b).1 (mo_set (fun p d => by intro z; cases z) z)
    have e4 := c4.1 Dd _ (fun z => nDm (mo2 _ z)) eb
    have E5 : EnvAt F' H4 (L2.wipe σ [j]) (ρM (i + 1)) := by
      have e5 := E4.putAny j none
      have w1 : σ2.set j none = L2.wipe σ [j] := (hw [j] (by simp [Tg.js])).trans wipe_wipe
      rw [w1, List.set_set] at e5
      obtain ⟨hr, e⟩ := List.getElem?_eq_some_iff.mp (hany (i + 1))
      rw [show (ρM (i + 1)).set j .any = ρM (i + 1) by rw [← e]; exact List.set_getElem_self hr] at e5
      exact e5
    have avs : ∀ b, (Av F ρ b ∨ b = Dd) → Av F' ((ρM (i + 1)).set j (.dat (.int (i : Nat)))) b := fun b z => by rw [hF']; exact .inr (.inl z)
    have vat := (r4.stOf hk fun b z => E2.avd b (by
      rcases z with z | z | z
      · exact .inl z
      · exact .inr (.inl z)
      · rw [hF']; exact .inr (.inl (.inl (.inr (.inr ((hmo (i + 1) b).1 (mo_set (fun p d => by intro z; cases z) z))))))) ).weak (Z' := fun b => Av F ρ b ∨ b = Dd) avs
    have kp1 : ∀ b o, ¬ (Av F ρ b ∨ b = Dd) → Hb b = some o → H4 b = some o := fun b o n e => c4.1 b o (fun z => n (.inl (.inr (.inr (mo2 b z))))) e
    have kp2 : ∀ b o, ¬ (Av F ρ b ∨ b = Dd) → H4 b = some o → upd H4 Dd (.lst (acc ++ [v])) b = some o := fun b o n e => by rw [upd_ne fun z => n (.inr z)]; exact e
    refine ⟨acc, e4, ?_, ?_, ?_, ?_, acc ++ [v], upd_same, ?_⟩
    · rw [ta.length, List.length_map, List.length_range]; omega
    · intro b o nb e
      rw [upd_ne (ne_of_none e hD)]
      exact c4.1 b o (fun z => nb (mo2 b z)) (sb b o (k1 b o nb e))
    · intro b e
      by_cases z : b = Dd
      · rw [z]; exact hD
      · rw [upd_ne z] at e; exact k2 b (sb.free (c4.2 b e))
    · refine E5.updY (by rw [hF']; exact .inr rfl) (fun z => nDm ((hmo _ _).1 z)) (by rw [hF']; exact h0D) fun xs z => by cases z
    · rw [List.range_succ, List.map_append, List.map_singleton]
      exact ((ta.same sb).move (fun _ z => .inl z) fun b o n e => kp2 b o n (kp1 b o n e)).append (.cons (vat.move (fun _ z => .inl z) kp2) .nil)
  · rintro H' ⟨k1, k2, Ea, acc, ea, ta⟩
    have Ee : EnvAt F H' σ (ρM n) := by
      have := EnvAt.unset (j := j) (show EnvAt F' H' (σ.set j none) (ρM n) from Ea) (hany n)
      rw [hF'] at this
      exact this.free fun b z => .inl (.inr (.inl z))
    refine q _ H' (Chg.trans (.refl ρ) (Same.chg s1) ⟨k1, k2⟩) Ee ⟨Dd, rfl, s1.free hD, acc, ea, ta.weak fun b z => z.imp (fun z => ((hmo n).av F b).1 z) id⟩
theorem m_lc {n : Nat} (j : Nat) (ρM : Nat → En) (g : Nat → D) (hc : X.calm = true) (hN : X.N.Nodup) (hi : EvI X ρ tg it ((List.range n).map fun i : Nat => D.int (i : Nat))) (ok : BlkOk X.N X.env.scope scope [(y, j)]) (hT : ∀ s H C cl fp, TgOk (blk X scope s H C cl fp) tg (.one j))
    (h0 : ρM 0 = ρ) (hmo : ∀ i, MoEq ρ (ρM i)) (hany : ∀ i, (ρM i)[j]? = some .any) (he : ∀ i, i < n → BvM k X scope ((ρM i).set j (.dat (.int (i : Nat)))) elt (g i) ((ρM (i + 1)).set j (.dat (.int (i : Nat))))) (hk : k ≠ .rd := by exact fun z => nomatch z)
    (hs : ∀ x, foldedSetIterable it X.env x = pure x := by intro _; rfl) : EvM .fr X ρ (.ListComp elt [⟨tg, it, [], 0⟩] scope pos) (.lst ((List.range n).map g)) (ρM n) := ⟨hmo n, fun F σ H E Q q =>
  wT.of (pe_lc hc hN pi_w ok (fun s H C cl fp => hT s H C cl fp) (fun s H C cl fp => ⟨fun pins s' σ' H' Q' I h => h s H C cl fp pins s' I⟩) (fun s H C cl fp => ⟨fun pins s' σ' H' Q' I h => h s H C cl fp pins s' I⟩) hs)
    (lcM_go E (fun R r => hi F σ H E R r) h0 hmo hany he hk q)⟩
theorem s_setLcM {x : Str} {px : Pos} {n : Nat} (i j : Nat) (ρM : Nat → En) (g : Nat → D) (hc : X.calm = true) (hN : X.N.Nodup) (hi : EvI X ρ tg it ((List.range n).map fun i : Nat => D.int (i : Nat))) (ok : BlkOk X.N X.env.scope scope [(y, j)]) (hT : ∀ s H C cl fp, TgOk (blk X scope s H C cl fp) tg (.one j))
    (h0 : ρM 0 = ρ) (hmo : ∀ i, MoEq ρ (ρM i)) (hany : ∀ i, (ρM i)[j]? = some .any) (he : ∀ i, i < n → BvM k X scope ((ρM i).set j (.dat (.int (i : Nat)))) elt (g i) ((ρM (i + 1)).set j (.dat (.int (i : Nat))))) (qq : N ((ρM n).set i (.dat (.lst ((List.range n).map g))))) (hk : k ≠ .rd := by exact fun z => nomatch z)
    (hsw : swapsWith (.ListComp elt [⟨tg, it, [], 0⟩] scope pt) (some (.Name x px)) spos.line X.env = pure true := by rfl) (hy : X.N[i]? = some x := by rfl) (hyl : X.env.scope.names.lookup x = some .local := by rfl)
    (hs : ∀ x, foldedSetIterable it X.env x = pure x := by intro _; rfl) : ExS X ρ (.Assign [.Name x px] (.ListComp elt [⟨tg, it, [], 0⟩] scope pt) spos) N R := .mk fun F σ H hyy E D w =>
  wS.of (ps_setLc (own := [(y, j)]) hc hN hy hyl hsw pi_w ok (fun s H C cl fp => hT s H C cl fp) (fun s H C cl fp => ⟨fun pins s' σ' H' Q' I h => h s H C cl fp pins s' I⟩) (fun s H C cl fp => ⟨fun pins s' σ' H' Q' I h => h s H C cl fp pins s' I⟩) hs)
    (lcM_go E (fun R r => hi F σ H E R r) h0 hmo hany he hk fun v H1 c1 E1 r1 => w.1 _ _ _ (E1.putDat i (r1.stOf (by exact fun z => nomatch z) fun b z => E.avd b (((hmo n).av F b).1 z))) qq)
end
end TR
/-! ## C24 -/
set_option Elab.async false
set_option linter.all false
set_option maxRecDepth 100000
namespace TR
open PySem L2
/-! ### the script: a list that stands unchanged -/
def spS (n : Nat) (S : List Int → List D → D → Prop) : Sp := fun vs H Q _ => ∃ (a : Addr) (o : Obj) (l : List Int) (vs' : List V) (Z : Addr → Prop) (ds : List D) (d : D), vs = .ref a :: vs' ∧ vs'.length + 1 = n ∧ (∀ b, Z b → Ob H b) ∧ ¬ Z a ∧ H a = some (.frz o (.lst (l.map V.int))) ∧ Ats Z H vs' ds ∧ S l ds d ∧ ∀ v H', Same H H' → At Z H' v d → Q v H'
def envS (N : List Str) (l : List Int) (ds : List D) : En := .scr l :: (ds.map .dat ++ List.replicate (N.length - (ds.length + 1)) .any)
theorem envS_at {Nm : List Str} {a : Addr} {o : Obj} {l : List Int} {ds : List D} {Z : Addr → Prop} {H : Hp} {vs : List V} (zd : ∀ b, Z b → Ob H b) (nz : ¬ Z a) (e : H a = some (.frz o (.lst (l.map V.int)))) (at_ : Ats Z H vs ds) : EnvAt { Z := Z, Y := fun _ => False, P := fun _ => False, H0 := H } H (L2.start Nm (.ref a :: vs)) (envS Nm l ds) := by
  have E := env0_at (N := Nm) zd (.cons .non at_)
  have ns : ∀ p b d, Ent.scr l ≠ .own p b d := fun _ _ _ z => nomatch z
  have nomo : ∀ b, ¬ Mo (env0 Nm (.non :: ds)) b := fun b ⟨p, d, h⟩ => by
    rcases List.mem_append.mp h with h | h
    · obtain ⟨_, _, z⟩ := List.mem_map.mp h; cases z
    · have := List.eq_of_mem_replicate h; cases this
  exact E.put (j := 0) (x := some (.ref a)) (e := .scr l) ⟨a, o, rfl, fun z => z.elim nz fun z => z.elim False.elim fun z => nomo a (mo_set (fun p d => ns p a d) z), e⟩ (fun b z => mo_set (fun p d => ns p b d) z) fun p _ b d _ _ z => absurd z (ns p b d)
section
variable {P : Program} {w : World} {K : PySem.W.Frag} {mg : Str → Option Value} {bs : Heap} {x : Str} {st : Stmt} {Nm ps : List Str} {k : Nat}
theorem fn_scr {S : List Int → List D → D → Prop} (T : FnT K mg x st) (sc : FnScope Nm ps (defScope st))
    (hb : ∀ (kV doc pm : Value) (an : Option Addr) (cdv ct : Value) (us : List Value), us.length = ps.length → bindArgs (PySem.W.fnOf x x (defArgs st) (defBody st) (defScope st) .none kV doc pm an cdv ct) ⟨us, []⟩ = pure (ps.zip us))
    (body : ∀ f cdv A outer s H E, Room k (CxD P w K mg bs Nm x st f cdv A outer s H E).A → ∀ l ds d, ds.length + 1 = ps.length → S l ds d → Ex (CxD P w K mg bs Nm x st f cdv A outer s H E) (envS Nm l ds) (defBody st) (fun _ => d = .non) (fun d' _ => d' = d)) :
    FnI P w K mg bs (k + 1) x ps (spS ps.length S) := by
  obtain ⟨f, fd, F, hm⟩ := T.ex
  refine ⟨f, fd, ?_, hm, F.kp, F.bindsN hb, _, _, _, F⟩
  refine F.ok sc (fun vs H Q E h => ?_) (fun cdv A outer s H vs Q E hr h => ?_)
  · obtain ⟨a, o, l, vs', Z, ds, d, rfl, hl, _⟩ := h
    exact hl
  · obtain ⟨a, o, l, vs', Z, ds, d, rfl, hl, zd, nz, e, at_, hS, q⟩ := h
    refine ⟨_, PSs.nox pss_w, ?_⟩
    have b := body f cdv A outer s H E hr l ds d (by rw [← at_.length]; exact hl) hS
    refine b { Z := Z, Y := fun _ => False, P := fun _ => False, H0 := H } (L2.start Nm (.ref a :: vs')) H (fun _ h => h) (envS_at zd nz e at_) _ ⟨fun σ' H' ρ' E' e => ?_, fun v H' σ' ρ' d' E' a' e => ?_⟩
    · show Q .non H'
      exact q _ H' (fun b o e => E'.sm b o (fun h => h) e) (by rw [show d = .non from e]; exact .non)
    · rw [show d' = d from e] at a'
      exact q v H' (fun b o e => E'.sm b o (fun h => h) e) (a'.weak fun b z => .inl z)
end
section
variable {X : Cx} {ρ : En} {es : List Expr} {d : D} {pos p p1 p2 : Pos} {ds : List D} {l : List Int} {x t : Str} {ps : List Str} {j n kk : Nat}
theorem EnvAt.scr {F : Fr} {H : Hp} {σ : St} {i : Nat} (E : EnvAt F H σ ρ) (h : ρ[i]? = some (.scr l)) : ∃ a o, σ[i]? = some (some (.ref a)) ∧ ¬ Av F ρ a ∧ H a = some (.frz o (.lst (l.map V.int))) := by
  obtain ⟨a, o, e, n, f⟩ := E.ent i _ h
  refine ⟨a, o, ?_, n, f⟩
  cases q : σ[i]? with
  | none => rw [q] at e; cases e
  | some x => rw [q] at e; rw [show x = some (.ref a) from e]
theorem ats_ints {Z : Addr → Prop} {H : Hp} : ∀ l : List Int, Ats Z H (l.map V.int) (l.map D.int)
  | [] => .nil
  | i :: l => .cons (.int i) (ats_ints l)
theorem e_sliceS {lo hi : Option Expr} {a b : Option Int} (i : Nat) (hρ : ρ[i]? = some (.scr l)) (h1 : EvO X ρ lo a) (h2 : EvO X ρ hi b) (hN : X.N[i]? = some x := by rfl) (hv : Vis X.env.scope x := by first | exact Or.inl rfl | exact Or.inr (Or.inl rfl) | exact Or.inr (Or.inr rfl)) (hd : (x == ("__debug__" : Str)) = false := by decide) (hcd : (x == ("__classdict__" : Str)) = false := by decide) :
    Ev .fr X ρ (.Subscript (.Name x p) (.Slice lo hi none p2) pos) (.lst (cutD (l.map .int) a b)) := .mk fun F σ H E Q q => by
  obtain ⟨ad, o, e1, n, e2⟩ := E.scr hρ
  refine wT.of (pe_slice sl_list (pe_var hN hv hd hcd) po_w po_w) ⟨_, e1, h1.go E fun H2 s2 => h2.go (E.same s2) fun H3 s3 => ?_⟩
  exact ⟨ad, l.map V.int, rfl, .inl (.inr ⟨o, (s2.trans s3) _ _ e2⟩), fun p hp => q _ _ ((s2.trans s3).trans (Same.new hp)) ((((ats_ints l).cut a b).newLst hp).back (s2.trans s3))⟩
theorem e_callS {S : List Int → List D → D → Prop} (i : Nat) (G : FnI X.prog X.w X.K X.mg X.base j x ps (spS n S)) (hr : Room kk X.A) (hρ : ρ[i]? = some (.scr l)) (ha : EvA true X ρ es ds) (hS : S l ds d) (hj : j ≤ kk := by decide) (hn : ds.length + 1 = n := by rfl)
    (hN : X.N[i]? = some t := by rfl) (hv : Vis X.env.scope t := by first | exact Or.inl rfl | exact Or.inr (Or.inl rfl) | exact Or.inr (Or.inr rfl)) (hd1 : (t == ("__debug__" : Str)) = false := by decide) (hcd : (t == ("__classdict__" : Str)) = false := by decide) (hg : Gl X x := by rfl)
    (hdb : (x == ("__debug__" : Str)) = false := by decide) (he : starEach (.Name t p1 :: es) X.env = (false, eval (.Name t p1) X.env) :: starEach es X.env := by rfl) (hpl : (backTo pos (starEach es X.env)).any (·.1) = false := by rfl) :
    Ev .st X ρ (.Call (.Name x p) (.Name t p1 :: es) [] pos) d := .mk fun F σ H E Q q => by
  obtain ⟨f, fd, ok, hm, kp, b, _⟩ := G.ex
  obtain ⟨ad, o, e1, nz, e2⟩ := E.scr hρ
  refine wT.of (pe_call (ok.mono hj) hr hg hm kp b .nil (pass0) (pa_cons (pe_var hN hv hd1 hcd) pa_w he) hdb he hpl) ⟨_, e1, ha F σ H E _ fun vs H1 s1 r1 => ?_⟩
  show spS n S ((V.ref ad :: vs) ++ []) H1 Q _
  rw [List.append_nil]
  exact ⟨ad, o, l, vs, Av F ρ, ds, d, rfl, by rw [r1.ats.length]; exact hn, (E.same s1).avo, nz, s1 _ _ e2, r1.ats, hS, fun v H2 s2 a => q v H2 (s1.trans s2) a⟩
end
end TR
/-! ## D0 -/
set_option Elab.async false
set_option linter.all false
set_option maxRecDepth 100000
namespace TR
open PySem L2
/-- an int of the module -/
abbrev GInt (mg : Str → Option Value) (x : Str) (i : Int) : Prop := ∃ u, mg x = some u ∧ L2.RelV (.int i) u
/-- what stands at the top -/
structure Tp (K : PySem.W.Frag) (mg : Str → Option Value) : Prop where
  abs : mg "abs" = none
  all : mg "all" = none
  any : mg "any" = none
  bool : mg "bool" = none
  dict : mg "dict" = none
  enumerate : mg "enumerate" = none
  int : mg "int" = none
  isinstance : mg "isinstance" = none
  len : mg "len" = none
  list : mg "list" = none
  max : mg "max" = none
  min : mg "min" = none
  range : mg "range" = none
  set : mg "set" = none
  sorted : mg "sorted" = none
  str : mg "str" = none
  tuple : mg "tuple" = none
  zip : mg "zip" = none
  HALF : GInt mg "HALF" 0
  EAST : GInt mg "EAST" 1
  SOUTH : GInt mg "SOUTH" 2
  WEST : GInt mg "WEST" 3
  NORTH : GInt mg "NORTH" 4
  HIGH : GInt mg "MOST_HIGH" 7
  KINDS : KInts K mg "KINDS" [0, 1, 2, 3, 4]
  FAR : KRows K mg "FAR" [[0, 0], [1, 0], [0, 1], [-1, 0], [0, -1]]
  is_number : FnT K mg "is_number" (topS 4)
  is_within : FnT K mg "is_within" (topS 5)
  is_long : FnT K mg "is_long" (topS 6)
  tupled : FnT K mg "tupled" (topS 7)
  ascends : FnT K mg "ascends" (topS 8)
  set_of : FnT K mg "set_of" (topS 9)
  are_numbers : FnT K mg "are_numbers" (topS 10)
  is_pair : FnT K mg "is_pair" (topS 12)
  is_any_square : FnT K mg "is_any_square" (topS 13)
  is_room : FnT K mg "is_room" (topS 14)
  sure_room : FnT K mg "sure_room" (topS 15)
  four_of : FnT K mg "four_of" (topS 16)
  known_of : FnT K mg "known_of" (topS 17)
  is_kind : FnT K mg "is_kind" (topS 26)
  are_kinds : FnT K mg "are_kinds" (topS 27)
  led_by : FnT K mg "led_by" (topS 28)
  alone_in : FnT K mg "alone_in" (topS 29)
  kinds_in : FnT K mg "kinds_in" (topS 30)
  fits_across : FnT K mg "fits_across" (topS 31)
  fits_about : FnT K mg "fits_about" (topS 32)
  is_kind_set : FnT K mg "is_kind_set" (topS 34)
  are_lets_in : FnT K mg "are_lets_in" (topS 35)
  sure_lets : FnT K mg "sure_lets" (topS 36)
  sure_x : FnT K mg "sure_x" (topS 39)
  column_at : FnT K mg "column_at" (topS 40)
  sure_row : FnT K mg "sure_row" (topS 41)
  columns_in : FnT K mg "columns_in" (topS 42)
  refuse_wide : FnT K mg "refuse_wide" (topS 43)
  kinds_let : FnT K mg "kinds_let" (topS 44)
  rows_by : FnT K mg "rows_by" (topS 45)
  is_let_behind : FnT K mg "is_let_behind" (topS 46)
  rows_behind : FnT K mg "rows_behind" (topS 47)
  key_of : FnT K mg "key_of" (topS 48)
  reaches_in : FnT K mg "reaches_in" (topS 49)
  is_shut_in : FnT K mg "is_shut_in" (topS 50)
  row_fits : FnT K mg "row_fits" (topS 51)
  lefts_in : FnT K mg "lefts_in" (topS 52)
  fit_lets : FnT K mg "fit_lets" (topS 53)
  fit_lets_at : FnT K mg "fit_lets_at" (topS 54)
  column : FnT K mg "column" (topS 55)
  rows_at : FnT K mg "rows_at" (topS 56)
  fit_behind : FnT K mg "fit_behind" (topS 57)
  reaches : FnT K mg "reaches" (topS 58)
  are_rows : FnT K mg "are_rows" (topS 59)
  is_reaches : FnT K mg "is_reaches" (topS 60)
  is_shut : FnT K mg "is_shut" (topS 61)
  how_far : FnT K mg "how_far" (topS 62)
  rows_left : FnT K mg "rows_left" (topS 63)
  law_box : FnT K mg "_law_box" (topS 65)
  law_take : FnT K mg "_law_take" (topS 66)
  law_cells : FnT K mg "_law_cells" (topS 67)
  law_of : FnT K mg "_law_of" (topS 68)
  law_pick : FnT K mg "_law_pick" (topS 69)
  law_lists : FnT K mg "_law_lists" (topS 70)
  law_same : FnT K mg "_law_same" (topS 71)
  law_over : FnT K mg "_law_over" (topS 72)
  law_beside : FnT K mg "_law_beside" (topS 73)
  law_four : FnT K mg "_law_four" (topS 74)
  law_plan : FnT K mg "_law_plan" (topS 75)
  law_kinds_next : FnT K mg "_law_kinds_next" (topS 76)
  law_moved_on : FnT K mg "_law_moved_on" (topS 77)
  law_lets_of : FnT K mg "_law_lets_of" (topS 78)
  law_floors : FnT K mg "_law_floors" (topS 79)
  law_boxed : FnT K mg "_law_boxed" (topS 80)
  law_room : FnT K mg "_law_room" (topS 81)
  law_column : FnT K mg "_law_column" (topS 82)
  law_rows : FnT K mg "_law_rows" (topS 83)
  law_row_fits : FnT K mg "_law_row_fits" (topS 84)
  law_reaches : FnT K mg "_law_reaches" (topS 85)
  law_some_lets : FnT K mg "_law_some_lets" (topS 86)
  law_told_lets : FnT K mg "_law_told_lets" (topS 87)
  law_lets_drawn : FnT K mg "_law_lets_drawn" (topS 88)
  law_keeps : FnT K mg "_law_keeps" (topS 89)
  law_by_hand_right : FnT K mg "_law_by_hand_right" (topS 90)
  law_bent : FnT K mg "_law_bent" (topS 91)
  law_is_own : FnT K mg "_law_is_own" (topS 92)
  law_right : FnT K mg "_law_right" (topS 93)
theorem e_globX {X : Cx} {ρ : En} {pos : Pos} {x : Str} {i : Int} (hm : GInt X.mg x i) (hg : Gl X x := by rfl) (hd : (x == ("__debug__" : Str)) = false := by decide) : Ev .st X ρ (.Name x pos) (.int i) := hm.elim fun u h => e_glob h.1 h.2 hg hd
/-! ### the data -/
abbrev Sq := Int × Int
def sqK (p : Sq) : List Int := [p.1, p.2]
abbrev sqD (p : Sq) : D := tD (sqK p)
def roomD (r : List Sq) : D := .tup (r.map sqD)
abbrev rowD (r : List Int) : D := tD r
/-- tuples of ints compared -/
theorem op2_ltT {K : PySem.W.Frag} {k1 k2 : List Int} : Op2 .st (rLtT K) (tD k1) (tD k2) (.bl (HT.lexLt k1 k2)) := fun Z H x y _ hx hy Q q => by
  obtain ⟨a, xs, rfl, _, e1, t1⟩ := hx.tup
  obtain ⟨b, ys, rfl, _, e2, t2⟩ := hy.tup
  rw [t1.ints] at e1
  rw [t2.ints] at e2
  exact ⟨a, b, k1, k2, rfl, rfl, SqT.of e1, SqT.of e2, q _ H (Same.refl H) (.bl _)⟩
theorem c_ltT {X : Cx} {ρ : En} {a b : Expr} {u v : Kd} {k1 k2 : List Int} (hu : X.A.units < cLine) (ha : Ev u X ρ a (tD k1)) (hb : Ev v X ρ b (tD k2)) : EvC X ρ .Lt a b (HT.lexLt k1 k2) := c_op (op_ltT hu) ha hb op2_ltT
section
variable {X : Cx} {ρ : En} {elt tg it a : Expr} {scope : Scope} {own : List (Str × Nat)} {k : Kd} {α : Type} {l : List α} {f : α → D} {g : α → D} {φ : α → Bool} {ψ : α → Int} {pos p : Pos}
/-- [e for ..], no if -/
theorem e_lc0 (T : Tg) (hc : X.calm = true) (hN : X.N.Nodup) (hi : EvI X ρ tg it (l.map f)) (ok : BlkOk X.N X.env.scope scope own) (hT : ∀ s H C cl fp, TgOk (blk X scope s H C cl fp) tg T) (he : ∀ a ∈ l, Bv k X scope (setE T (f a) (wipeE ρ (own.map (·.2)))) elt (g a)) (hf : ∀ a ∈ l, fitsT T (f a) := by intro _ _; trivial) (hown : ∀ j ∈ T.js, j ∈ own.map (·.2) := by decide) (hk : k ≠ .rd := by exact fun z => nomatch z)
    (hs : ∀ x, foldedSetIterable it X.env x = pure x := by intro _; rfl) : Ev .fr X ρ (.ListComp elt [⟨tg, it, [], 0⟩] scope pos) (.lst (l.map g)) :=
  (e_lc (p := fun _ => true) (g := g) T hc hN hi ok hT hf hown (fun _ _ _ _ _ _ _ => ts_nil) (fun a ha _ => he a ha) hk hs).cast (by rw [List.filter_eq_self.mpr fun _ _ => rfl])
theorem i_seq {d : D} {ds : List D} (ha : Ev .st X ρ it d) (hs : IsSeq d ds) : EvI X ρ tg it (ds.map id) := by
  rw [List.map_id]
  cases hs with
  | lst => exact i_list ha
  | tup => exact i_tup ha
  | stp => exact i_stp ha
theorem EvI.cast {ds ds' : List D} (h : EvI X ρ tg it ds) (e : ds = ds') : EvI X ρ tg it ds' := by rw [← e]; exact h
theorem i_rangeN {n : Nat} {i : Int} (hm : X.mg "range" = none) (ha : Ev k X ρ a (.int i)) (e : i = (n : Int)) (h : n ≤ 1000000) (hg : Gl X "range" := by rfl) (hs : starEach [a] X.env = [(false, eval a X.env)] := by rfl) (hs' : starEach [a] X.env = (false, eval a X.env) :: starEach [] X.env := by rfl) :
    EvI X ρ tg (.Call (.Name "range" p) [a] [] pos) ((List.range n).map fun i : Nat => D.int (i : Nat)) := (i_range1 hm ha (by omega) (by omega) hg hs hs').cast (by
  unfold rangeD
  rw [e, Int.toNat_natCast]
  exact List.map_congr_left fun x _ => by rw [Int.zero_add])
theorem i_rangeB {b : Expr} {k2 : Kd} {n : Nat} {lo i : Int} (hm : X.mg "range" = none) (ha : Ev k X ρ a (.int lo)) (hb : Ev k2 X ρ b (.int i)) (e : i = lo + (n : Int)) (h : n ≤ 900000) (hl : -1000 ≤ lo ∧ lo ≤ 1000) (hg : Gl X "range" := by rfl)
    (hs : starEach [a, b] X.env = [(false, eval a X.env), (false, eval b X.env)] := by rfl) (hs2 : starEach [b] X.env = [(false, eval b X.env)] := by rfl) (hs' : starEach [a, b] X.env = (false, eval a X.env) :: starEach [b] X.env := by rfl) (hs3 : starEach [b] X.env = (false, eval b X.env) :: starEach [] X.env := by rfl) :
    EvI X ρ tg (.Call (.Name "range" p) [a, b] [] pos) ((List.range n).map fun i : Nat => D.int (lo + (i : Nat))) := (i_range2 hm ha hb (by omega) (by omega) hg hs hs2 hs' hs3).cast (by
  unfold rangeD
  rw [e, show (lo + (n : Int) - lo).toNat = n by omega])
theorem e_allM (hc : X.calm = true) (hm : X.mg "all" = none) (ha : Ev k X ρ a (.lst (l.map fun x => .bl (φ x)))) (hg : Gl X "all" := by rfl) (h1 : starEach [a] X.env = (false, eval a X.env) :: starEach [] X.env := by rfl) : Ev .st X ρ (.Call (.Name "all" p) [a] [] pos) (.bl (l.all φ)) :=
  (e_all (bs := l.map φ) hc hm (ha.cast (by rw [List.map_map]; rfl)) hg h1).cast (by rw [List.all_map]; rfl)
theorem e_anyM (hc : X.calm = true) (hm : X.mg "any" = none) (ha : Ev k X ρ a (.lst (l.map fun x => .bl (φ x)))) (hg : Gl X "any" := by rfl) (h1 : starEach [a] X.env = (false, eval a X.env) :: starEach [] X.env := by rfl) : Ev .st X ρ (.Call (.Name "any" p) [a] [] pos) (.bl (l.any φ)) :=
  (e_any (bs := l.map φ) hc hm (ha.cast (by rw [List.map_map]; rfl)) hg h1).cast (by rw [List.any_map]; rfl)
theorem e_minM {m : Int} (hc : X.calm = true) (hm : X.mg "min" = none) (ha : Ev k X ρ a (.lst (l.map fun x => .int (ψ x)))) (h0 : ∃ x ∈ l, ψ x = m) (hle : ∀ y ∈ l, m ≤ ψ y) (hg : Gl X "min" := by rfl) (h1 : starEach [a] X.env = (false, eval a X.env) :: starEach [] X.env := by rfl) : Ev .st X ρ (.Call (.Name "min" p) [a] [] pos) (.int m) :=
  e_min (ns := l.map ψ) hc hm (ha.cast (by rw [List.map_map]; rfl)) (by obtain ⟨x, hx, e⟩ := h0; exact List.mem_map.mpr ⟨x, hx, e⟩) (by intro y hy; obtain ⟨x, hx, e⟩ := List.mem_map.mp hy; rw [← e]; exact hle x hx) hg h1
theorem e_maxM {m : Int} (hc : X.calm = true) (hm : X.mg "max" = none) (ha : Ev k X ρ a (.lst (l.map fun x => .int (ψ x)))) (h0 : ∃ x ∈ l, ψ x = m) (hle : ∀ y ∈ l, ψ y ≤ m) (hg : Gl X "max" := by rfl) (h1 : starEach [a] X.env = (false, eval a X.env) :: starEach [] X.env := by rfl) : Ev .st X ρ (.Call (.Name "max" p) [a] [] pos) (.int m) :=
  e_max (ns := l.map ψ) hc hm (ha.cast (by rw [List.map_map]; rfl)) (by obtain ⟨x, hx, e⟩ := h0; exact List.mem_map.mpr ⟨x, hx, e⟩) (by intro y hy; obtain ⟨x, hx, e⟩ := List.mem_map.mp hy; rw [← e]; exact hle x hx) hg h1
end
theorem rm0 {A : Around} {k : Nat} (r : Room k A) : A.units < cLine := r.units0
theorem rm1 {A : Around} {k : Nat} (r : Room k A) : A.units + 1 < cLine := by have := r.un; omega
theorem rm64 {A : Around} {k : Nat} (r : Room k A) : A.units + 64 < cLine := r.units
theorem rm65 {A : Around} {k : Nat} (r : Room k A) : A.units + 65 < cLine := by have := r.un; omega
end TR
/-! ## D1 -/
set_option Elab.async false
set_option linter.all false
set_option maxRecDepth 100000
namespace TR
open PySem L2
section
variable {P : Program} {w : World} {K : PySem.W.Frag} {mg : Str → Option Value} {bs : Heap}
def isNum (d : D) : Bool := isInt d && !isBool d
theorem is_number_ok (T : Tp K mg) : FnI P w K mg bs 1 "is_number" ["thing"] (spD 1 fun ds d => ∃ t, ds = [t] ∧ d = .bl (isNum t)) := by
  have sc : FnScope ["thing"] ["thing"] (defScope (topS 4)) := ⟨rfl, rfl, rfl, by decide +kernel, rfl, by decide +kernel, by decide +kernel⟩
  refine fn_pure T.is_number sc (fun _ _ _ _ _ _ us hl => match us, hl with | [_], _ => rfl) ?_
  rintro f cdv A outer s H E hr ds d hl ⟨t, rfl, rfl⟩
  exact x_one (s_ret (e_and (e_isi (e_var 0 rfl) T.isinstance T.int PyProof.Rows.boot_int (kit_int _)) fun _ => (e_one (e_not (e_isi (e_var 0 rfl) T.isinstance T.bool PyProof.Rows.boot_bool (kit_bool _))))) rfl)
theorem is_within_ok (T : Tp K mg) : FnI P w K mg bs 2 "is_within" ["thing", "least", "most"] (spD 3 fun ds d => ∃ i a b : Int, ds = [.int i, .int a, .int b] ∧ d = .bl (decide (a ≤ i) && decide (i ≤ b))) := by
  have sc : FnScope ["thing", "least", "most"] ["thing", "least", "most"] (defScope (topS 5)) := ⟨rfl, rfl, rfl, by decide +kernel, rfl, by decide +kernel, by decide +kernel⟩
  refine fn_pure T.is_within sc (fun _ _ _ _ _ _ us hl => match us, hl with | [_, _, _], _ => rfl) ?_
  rintro f cdv A outer s H E hr ds d hl ⟨i, a, b, rfl, rfl⟩
  exact x_one (s_ret (e_and (e_call (is_number_ok T) hr (a_cons (e_var 0 rfl) a_nil) ⟨_, rfl, rfl⟩) fun _ => (e_one (e_chain (e_var 1 rfl) (e_var 0 rfl) (e_var 2 rfl)))) rfl)
theorem is_long_ok (T : Tp K mg) : FnI P w K mg bs 1 "is_long" ["thing", "length"] (spD 2 fun ds d => ∃ (l : List D) (n : Int), ds = [.tup l, .int n] ∧ d = .bl (decide ((l.length : Int) = n))) := by
  have sc : FnScope ["thing", "length"] ["thing", "length"] (defScope (topS 6)) := ⟨rfl, rfl, rfl, by decide +kernel, rfl, by decide +kernel, by decide +kernel⟩
  refine fn_pure T.is_long sc (fun _ _ _ _ _ _ us hl => match us, hl with | [_, _], _ => rfl) ?_
  rintro f cdv A outer s H E hr ds d hl ⟨l, n, rfl, rfl⟩
  exact x_one (s_ret (e_and (e_isi (e_var 0 rfl) T.isinstance T.tuple PyProof.Rows.boot_tuple (kit_tuple _)) fun _ => (e_one (e_c (c_eqI (e_len T.len (e_var 0 rfl)) (e_var 1 rfl))))) rfl)
/-! ascending squares -/
def sqLt (a b : Sq) : Bool := HT.lexLt (sqK a) (sqK b)
def asc : List Sq → Bool
  | a :: b :: r => sqLt a b && asc (b :: r)
  | _ => true
def ascR (r : List Sq) : Bool := (List.range (r.length - 1)).all fun k => sqLt (r.getD k (0, 0)) (r.getD (k + 1) (0, 0))
theorem atI_nat {α : Type} {l : List α} {i : Nat} {x : α} (h : l[i]? = some x) : atI l (i : Int) = some x := by
  have hi := (List.getElem?_eq_some_iff.mp h).1
  unfold atI ixN
  rw [if_pos (by omega), if_pos (by omega)]
  simpa using h
theorem atI_add {α : Type} {l : List α} {i : Nat} {j : Int} {x : α} (h : l[i]? = some x) (e : j = (i : Int)) : atI l j = some x := by rw [e]; exact atI_nat h
theorem ascends_ok (T : Tp K mg) : FnI P w K mg bs 1 "ascends" ["row"] (spD 1 fun ds d => ∃ r : List Sq, r ≠ [] ∧ r.length ≤ 1000 ∧ ds = [roomD r] ∧ d = .bl (ascR r)) := by
  have sc : FnScope ["row", "k"] ["row"] (defScope (topS 8)) := ⟨rfl, rfl, rfl, by decide +kernel, rfl, by decide +kernel, by decide +kernel⟩
  refine fn_pure T.ascends sc (fun _ _ _ _ _ _ us hl => match us, hl with | [_], _ => rfl) ?_
  rintro f cdv A outer s H E hr ds d hl ⟨r, ne, big, rfl, rfl⟩
  have len : 0 < r.length := List.length_pos_iff.mpr ne
  have at_ : ∀ k, k < r.length → (r.map sqD)[k]? = some (sqD (r.getD k (0, 0))) := fun k hk => by rw [List.getElem?_map, List.getElem?_eq_getElem hk]; simp [List.getD, List.getElem?_eq_getElem hk]
  refine x_one (s_ret (e_allM (φ := fun k => sqLt (r.getD k (0, 0)) (r.getD (k + 1) (0, 0))) rfl T.all (e_lc0 (own := [("k", 1)]) (g := fun k => .bl (sqLt (r.getD k (0, 0)) (r.getD (k + 1) (0, 0)))) (.one 1) rfl sc.nd (i_rangeN (n := r.length - 1) T.range (e_sub (e_len T.len (e_var 0 rfl) (.tup _)) e_int) ?_ ?_) (blkOk_by (by kernel_rfl)) (fun _ _ _ _ _ => t_one 1 sc.nd) fun k hk _ _ _ _ _ => e_c (c_ltT (rm0 hr) (e_ix (e_var 0 rfl) (e_var 1 rfl) (atI_nat (at_ k ?_))) (e_ix (e_var 0 rfl) (e_add (e_var 1 rfl) e_int) (atI_add (at_ (k + 1) ?_) ?_))))) rfl)
  · rw [List.length_map]; omega
  · omega
  · have := List.mem_range.mp hk; omega
  · have := List.mem_range.mp hk; omega
  · omega
/-! tupled -/
mutual
def tupD : D → D
  | .tup l => .tup (tupDs l)
  | .stp l => .tup (tupDs l)
  | .lst l => .tup (tupDs l)
  | d => d
def tupDs : List D → List D
  | [] => []
  | d :: l => tupD d :: tupDs l
end
def tupS : D → D
  | .tup l => .stp (tupDs l)
  | .stp l => .stp (tupDs l)
  | .lst l => .stp (tupDs l)
  | d => d
mutual
def dep : D → Nat
  | .tup l => deps l + 1
  | .stp l => deps l + 1
  | .lst l => deps l + 1
  | _ => 0
def deps : List D → Nat
  | [] => 0
  | d :: l => max (dep d) (deps l)
end
theorem tupDs_map : ∀ l : List D, tupDs l = l.map tupD
  | [] => rfl
  | d :: l => by rw [tupDs, List.map_cons, tupDs_map l]
theorem deps_le {n : Nat} : ∀ {l : List D}, deps l ≤ n → ∀ d ∈ l, dep d ≤ n
  | [], _, d, h => by cases h
  | e :: l, h, d, hd => by
    rw [deps] at h
    rcases List.mem_cons.mp hd with rfl | hd
    · omega
    · exact deps_le (by omega) d hd
theorem seq_of {t : D} (h : (isLst t || isTup t) = true) : ∃ l, IsSeq t l ∧ tupD t = .tup (tupDs l) ∧ tupS t = .stp (tupDs l) ∧ dep t = deps l + 1 := by
  cases t with
  | tup l => exact ⟨l, .tup l, rfl, rfl, rfl⟩
  | stp l => exact ⟨l, .stp l, rfl, rfl, rfl⟩
  | lst l => exact ⟨l, .lst l, rfl, rfl, rfl⟩
  | _ => cases h
theorem flat_of {t : D} (h : ¬ (isLst t || isTup t) = true) : tupD t = t ∧ tupS t = t := by
  cases t <;> first | exact ⟨rfl, rfl⟩ | exact absurd rfl h
theorem tupled_ok (T : Tp K mg) : ∀ n : Nat, FnI P w K mg bs (n + 1) "tupled" ["value"] (spD 1 fun ds d => ∃ t, ds = [t] ∧ dep t ≤ n ∧ (d = tupD t ∨ d = tupS t)) := by
  have sc : FnScope ["value", "own"] ["value"] (defScope (topS 7)) := ⟨rfl, rfl, rfl, by decide +kernel, rfl, by decide +kernel, by decide +kernel⟩
  intro n
  induction n with
  | zero =>
    refine fn_pure T.tupled sc (fun _ _ _ _ _ _ us hl => match us, hl with | [_], _ => rfl) ?_
    rintro f cdv A outer s H E hr ds d hl ⟨t, rfl, hd, hS⟩
    have nt : ¬ (isLst t || isTup t) = true := fun h => by obtain ⟨l, _, _, _, e⟩ := seq_of h; omega
    obtain ⟨e1, e2⟩ := flat_of nt
    have e3 : d = t := by rcases hS with rfl | rfl <;> assumption
    subst e3
    exact x_one (s_ret (e_if (EvB.cast (b_v (e_isi2 (e_var 0 rfl) T.isinstance T.list T.tuple PyProof.Rows.boot_list PyProof.Rows.boot_tuple (kit_list _) (kit_tuple _))) (Bool.eq_false_iff.mpr nt)) (fun h => by cases h) fun _ => (e_var 0 rfl)) rfl)
  | succ n ih =>
    refine fn_pure T.tupled sc (fun _ _ _ _ _ _ us hl => match us, hl with | [_], _ => rfl) ?_
    rintro f cdv A outer s H E hr ds d hl ⟨t, rfl, hd, hS⟩
    by_cases ht : (isLst t || isTup t) = true
    · obtain ⟨l, hs, e1, e2, e3⟩ := seq_of ht
      rw [e1, e2] at hS
      refine x_one (s_ret (k := .st) (d := d) (e_if (EvB.cast (b_v (e_isi2 (e_var 0 rfl) T.isinstance T.list T.tuple PyProof.Rows.boot_list PyProof.Rows.boot_tuple (kit_list _) (kit_tuple _))) ht) (fun _ => ?_) (fun h => by cases h)) rfl)
      have L : ∀ {dd : D}, dd = .lst (tupDs l) → .lst (l.map tupD) = dd := fun e => by rw [e, tupDs_map]
      rcases hS with rfl | rfl
      · exact e_tupleOf T.tuple (Ev.cast (e_lc0 (own := [("own", 1)]) (f := id) (g := tupD) (.one 1) rfl sc.nd (i_seq (e_var 0 rfl) hs) (blkOk_by (by kernel_rfl)) (fun _ _ _ _ _ => t_one 1 sc.nd) fun a ha _ _ _ _ _ => e_call ih hr (a_cons (e_var 1 rfl) a_nil) ⟨_, rfl, deps_le (by omega) a ha, .inl rfl⟩ (Nat.le_refl _)) (L rfl))
      · exact e_tupleOfS T.tuple (Ev.cast (e_lc0 (own := [("own", 1)]) (f := id) (g := tupD) (.one 1) rfl sc.nd (i_seq (e_var 0 rfl) hs) (blkOk_by (by kernel_rfl)) (fun _ _ _ _ _ => t_one 1 sc.nd) fun a ha _ _ _ _ _ => e_call ih hr (a_cons (e_var 1 rfl) a_nil) ⟨_, rfl, deps_le (by omega) a ha, .inl rfl⟩ (Nat.le_refl _)) (L rfl))
    · obtain ⟨e1, e2⟩ := flat_of ht
      have e3 : d = t := by rcases hS with rfl | rfl <;> assumption
      subst e3
      exact x_one (s_ret (e_if (EvB.cast (b_v (e_isi2 (e_var 0 rfl) T.isinstance T.list T.tuple PyProof.Rows.boot_list PyProof.Rows.boot_tuple (kit_list _) (kit_tuple _))) (Bool.eq_false_iff.mpr ht)) (fun h => by cases h) fun _ => (e_var 0 rfl)) rfl)
theorem set_of_ok (T : Tp K mg) : FnI P w K mg bs 1 "set_of" ["row"] (spD 1 fun ds d => ∃ ks C : List (List Int), (∀ r ∈ ks, r ∈ C) ∧ C.length ≤ 1227 ∧ ((∀ r ∈ ks, r ≠ []) ∨ ∀ r ∈ ks, r = []) ∧ ds = [.lst (ks.map tD)] ∧ d = .tup ((setOf ks).map tD)) := by
  have sc : FnScope ["row"] ["row"] (defScope (topS 9)) := ⟨rfl, rfl, rfl, by decide +kernel, rfl, by decide +kernel, by decide +kernel⟩
  refine fn_pure T.set_of sc (fun _ _ _ _ _ _ us hl => match us, hl with | [_], _ => rfl) ?_
  rintro f cdv A outer s H E hr ds d hl ⟨ks, C, h1, h2, h3, rfl, rfl⟩
  exact x_one (s_ret (e_tupleOf T.tuple (e_sortSet C rfl (rm64 hr) T.sorted T.set (e_var 0 rfl) h1 h2 h3)) rfl)
theorem are_numbers_ok (T : Tp K mg) : FnI P w K mg bs 2 "are_numbers" ["thing"] (spD 1 fun ds d => ∃ ns : List Int, ds = [tD ns] ∧ d = .bl true) := by
  have sc : FnScope ["thing", "own"] ["thing"] (defScope (topS 10)) := ⟨rfl, rfl, rfl, by decide +kernel, rfl, by decide +kernel, by decide +kernel⟩
  refine fn_pure T.are_numbers sc (fun _ _ _ _ _ _ us hl => match us, hl with | [_], _ => rfl) ?_
  rintro f cdv A outer s H E hr ds d hl ⟨ns, rfl, rfl⟩
  exact x_one (s_ret (Ev.cast (e_and (e_isi (e_var 0 rfl) T.isinstance T.tuple PyProof.Rows.boot_tuple (kit_tuple _)) fun _ => (e_one (e_allM (l := ns) (φ := fun _ => true) rfl T.all (e_lc0 (own := [("own", 1)]) (g := fun _ => .bl true) (.one 1) rfl sc.nd (i_tup (e_var 0 rfl)) (blkOk_by (by kernel_rfl)) (fun _ _ _ _ _ => t_one 1 sc.nd) fun a ha _ _ _ _ _ => e_call (is_number_ok T) hr (a_cons (e_var 1 rfl) a_nil) ⟨_, rfl, rfl⟩)))) (by simp [isTup, tD])) rfl)
theorem is_pair_ok (T : Tp K mg) : FnI P w K mg bs 3 "is_pair" ["thing"] (spD 1 fun ds d => ∃ p : Sq, ds = [sqD p] ∧ d = .bl true) := by
  have sc : FnScope ["thing"] ["thing"] (defScope (topS 12)) := ⟨rfl, rfl, rfl, by decide +kernel, rfl, by decide +kernel, by decide +kernel⟩
  refine fn_pure T.is_pair sc (fun _ _ _ _ _ _ us hl => match us, hl with | [_], _ => rfl) ?_
  rintro f cdv A outer s H E hr ds d hl ⟨p, rfl, rfl⟩
  exact x_one (s_ret (Ev.cast (e_and (e_call (is_long_ok T) hr (a_cons (e_var 0 rfl) (a_cons e_int a_nil)) ⟨_, _, rfl, rfl⟩) fun _ => (e_one (e_call (are_numbers_ok T) hr (a_cons (e_var 0 rfl) a_nil) ⟨_, rfl, rfl⟩))) (by simp [sqK])) rfl)
theorem is_any_square_ok (T : Tp K mg) : FnI P w K mg bs 4 "is_any_square" ["thing"] (spD 1 fun ds d => ∃ p : Sq, 0 ≤ p.1 ∧ 0 ≤ p.2 ∧ ds = [sqD p] ∧ d = .bl true) := by
  have sc : FnScope ["thing"] ["thing"] (defScope (topS 13)) := ⟨rfl, rfl, rfl, by decide +kernel, rfl, by decide +kernel, by decide +kernel⟩
  refine fn_pure T.is_any_square sc (fun _ _ _ _ _ _ us hl => match us, hl with | [_], _ => rfl) ?_
  rintro f cdv A outer s H E hr ds d hl ⟨p, h1, h2, rfl, rfl⟩
  exact x_one (s_ret (Ev.cast (e_and (e_call (is_pair_ok T) hr (a_cons (e_var 0 rfl) a_nil) ⟨_, rfl, rfl⟩) fun _ => (e_and (e_c (c_ge (i := p.1) (e_ix (e_var 0 rfl) e_int rfl) e_int)) fun _ => (e_one (e_c (c_ge (i := p.2) (e_ix (e_var 0 rfl) e_int rfl) e_int))))) (by simp [h1, h2])) rfl)
/-- a room as the program takes it -/
def okR (r : List Sq) : Prop := r ≠ [] ∧ r.length ≤ 1000 ∧ (∀ p ∈ r, 0 ≤ p.1 ∧ 0 ≤ p.2) ∧ ascR r = true
theorem is_room_ok (T : Tp K mg) : FnI P w K mg bs 5 "is_room" ["thing"] (spD 1 fun ds d => ∃ r : List Sq, okR r ∧ ds = [roomD r] ∧ d = .bl true) := by
  have sc : FnScope ["thing", "own"] ["thing"] (defScope (topS 14)) := ⟨rfl, rfl, rfl, by decide +kernel, rfl, by decide +kernel, by decide +kernel⟩
  refine fn_pure T.is_room sc (fun _ _ _ _ _ _ us hl => match us, hl with | [_], _ => rfl) ?_
  rintro f cdv A outer s H E hr ds d hl ⟨r, ⟨h1, h2, h3, h4⟩, rfl, rfl⟩
  refine x_cons (s_if (p := false) (EvB.cast (EvW.toB (w_or (b_not (b_v (e_isi (e_var 0 rfl) T.isinstance T.tuple PyProof.Rows.boot_tuple (kit_tuple _)))) fun _ => (w_or (b_c (c_eqI (e_len T.len (e_var 0 rfl) (.tup _)) e_int)) fun _ => (w_or1 (b_not (b_v (e_allM (l := r) (φ := fun _ => true) rfl T.all (e_lc0 (own := [("own", 1)]) (g := fun _ => .bl true) (.one 1) rfl sc.nd (i_tup (e_var 0 rfl)) (blkOk_by (by kernel_rfl)) (fun _ _ _ _ _ => t_one 1 sc.nd) fun a ha _ _ _ _ _ => e_call (is_any_square_ok T) hr (a_cons (e_var 1 rfl) a_nil) ⟨a, (h3 a ha).1, (h3 a ha).2, rfl, rfl⟩)))))))) ?_) (fun z => by cases z) fun _ => ?_)
  · have : 0 < r.length := List.length_pos_iff.mpr h1
    simp [isTup, roomD]
    omega
  · exact x_nil (x_one (s_ret (Ev.cast (e_call (ascends_ok T) hr (a_cons (e_var 0 rfl) a_nil) ⟨r, h1, h2, rfl, rfl⟩) (by rw [h4])) rfl))
theorem sure_room_ok (T : Tp K mg) : FnI P w K mg bs 6 "sure_room" ["room"] (spD 1 fun ds d => ∃ (r : List Sq) (t : D), okR r ∧ ds = [t] ∧ dep t ≤ 4 ∧ tupD t = roomD r ∧ d = roomD r) := by
  have sc : FnScope ["room", "own"] ["room"] (defScope (topS 15)) := ⟨rfl, rfl, rfl, by decide +kernel, rfl, by decide +kernel, by decide +kernel⟩
  refine fn_pure T.sure_room sc (fun _ _ _ _ _ _ us hl => match us, hl with | [_], _ => rfl) ?_
  rintro f cdv A outer s H E hr ds d hl ⟨r, t, h1, rfl, h2, h3, rfl⟩
  refine x_cons (s_asg 1 sc.nd (e_call (tupled_ok T 4) hr (a_cons (e_var 0 rfl) a_nil) ⟨t, rfl, h2, .inl h3.symm⟩) ?_)
  exact x_cons (s_if (p := false) (b_not (b_v (e_call (is_room_ok T) hr (a_cons (e_var 1 rfl) a_nil) ⟨r, h1, rfl, rfl⟩))) (fun z => by cases z) fun _ => x_nil (x_one (s_ret (e_var 1 rfl) rfl)))
end
end TR
/-! ## D2 -/
set_option Elab.async false
set_option linter.all false
set_option maxRecDepth 100000
namespace TR
open PySem L2
/-! ### data compared -/
theorem lay_map {α : Type} {f : α → D} (h : ∀ a, (toPy (f a)).canLay0 = true) : ∀ l : List α, PyData.canLayAll0 (toPys (l.map f)) = true
  | [] => rfl
  | a :: l => by
    show PyData.canLayAll0 (toPy (f a) :: toPys (l.map f)) = true
    rw [PyData.canLayAll0, h a, lay_map h l]; rfl
theorem depth_map {α : Type} {f : α → D} {n : Nat} (h : ∀ a, (toPy (f a)).depth ≤ n) : ∀ l : List α, PyData.depthAll (toPys (l.map f)) ≤ n
  | [] => Nat.zero_le _
  | a :: l => by
    show PyData.depthAll (toPy (f a) :: toPys (l.map f)) ≤ n
    rw [PyData.depthAll]
    exact Nat.max_le.mpr ⟨h a, depth_map h l⟩
/-- data of a depth that can be compared -/
def Pl (n : Nat) (d : D) : Prop := (toPy d).canLay0 = true ∧ (toPy d).depth ≤ n
theorem Pl.shp {n : Nat} {d : D} (h : Pl n d) (hn : n ≤ 64 := by decide) : shp d = true := by
  show SeqAt.shaped (toPy d) = true
  unfold SeqAt.shaped
  rw [h.1, Bool.true_and]
  exact decide_eq_true (Nat.le_trans h.2 hn)
theorem pl_int (i : Int) : Pl 0 (.int i) := ⟨rfl, Nat.le_refl _⟩
theorem pl_bl (i : Bool) : Pl 0 (.bl i) := ⟨rfl, Nat.le_refl _⟩
theorem pl_non : Pl 0 .non := ⟨rfl, Nat.le_refl _⟩
theorem Pl.mono {n m : Nat} {d : D} (h : Pl n d) (q : n ≤ m) : Pl m d := ⟨h.1, Nat.le_trans h.2 q⟩
theorem pl_tup {α : Type} {f : α → D} {n : Nat} (h : ∀ a, Pl n (f a)) (l : List α) : Pl (n + 1) (.tup (l.map f)) := ⟨lay_map (fun a => (h a).1) l, Nat.succ_le_succ (depth_map (fun a => (h a).2) l)⟩
theorem pl_lst {α : Type} {f : α → D} {n : Nat} (h : ∀ a, Pl n (f a)) (l : List α) : Pl (n + 1) (.lst (l.map f)) := ⟨lay_map (fun a => (h a).1) l, Nat.succ_le_succ (depth_map (fun a => (h a).2) l)⟩
theorem pl_tD (r : List Int) : Pl 1 (tD r) := pl_tup pl_int r
theorem lay_ts {α : Type} {f : α → D} {n : Nat} (h : ∀ a, Pl n (f a)) (l : List α) : PyData.canLayAll0 (toPys (l.map f)) = true := lay_map (fun a => (h a).1) l
theorem eqv_all {α : Type} [DecidableEq α] {f : α → D} (h : ∀ a b, eqD (f a) (f b) = decide (a = b)) : ∀ l m : List α, PyData.eqvAll (toPys (l.map f)) (toPys (m.map f)) = decide (l = m)
  | [], [] => by simp [toPys, PyData.eqvAll]
  | [], b :: m => by simp [toPys, PyData.eqvAll]
  | a :: l, [] => by simp [toPys, PyData.eqvAll]
  | a :: l, b :: m => by
    show PyData.eqvAll (toPy (f a) :: toPys (l.map f)) (toPy (f b) :: toPys (m.map f)) = _
    rw [PyData.eqvAll, eqv_all h l m, show (toPy (f a)).eqv (toPy (f b)) = decide (a = b) from h a b]
    by_cases e : a = b <;> by_cases e2 : l = m <;> simp [e, e2]
theorem eq_tup {α : Type} [DecidableEq α] {f : α → D} (h : ∀ a b, eqD (f a) (f b) = decide (a = b)) (l m : List α) : eqD (.tup (l.map f)) (.tup (m.map f)) = decide (l = m) := by
  show PyData.eqv (.tuple _) (.tuple _) = _
  rw [PyData.eqv]; exact eqv_all h l m
theorem eq_lst {α : Type} [DecidableEq α] {f : α → D} (h : ∀ a b, eqD (f a) (f b) = decide (a = b)) (l m : List α) : eqD (.lst (l.map f)) (.lst (m.map f)) = decide (l = m) := by
  show PyData.eqv (.list _) (.list _) = _
  rw [PyData.eqv]; exact eqv_all h l m
theorem eq_int (a b : Int) : eqD (.int a) (.int b) = decide (a = b) := by
  show (a == b) = _
  exact Bool.beq_eq_decide_eq a b
theorem eq_tD (a b : List Int) : eqD (tD a) (tD b) = decide (a = b) := eq_tup eq_int a b
theorem in_map {α : Type} [DecidableEq α] {f : α → D} (h : ∀ a b, eqD (f a) (f b) = decide (a = b)) (a : α) (l : List α) : inD (f a) (l.map f) = decide (a ∈ l) := by
  unfold inD
  rw [List.any_map]
  by_cases e : a ∈ l
  · rw [decide_eq_true e]
    exact List.any_eq_true.mpr ⟨a, e, by show eqD (f a) (f a) = true; rw [h]; simp⟩
  · rw [decide_eq_false e]
    refine Bool.eq_false_iff.mpr fun z => ?_
    obtain ⟨b, hb, z⟩ := List.any_eq_true.mp z
    have z : eqD (f b) (f a) = true := z
    rw [h] at z
    exact e (by rw [← of_decide_eq_true z]; exact hb)
/-! ### dicts of squares -/
theorem sqK_inj {a b : Sq} (h : sqK a = sqK b) : a = b := by
  obtain ⟨x, y⟩ := a
  obtain ⟨u, v⟩ := b
  simp only [sqK, List.cons.injEq, and_true] at h
  rw [h.1, h.2]
theorem getT_some {κ : Type} {kf : κ → List Int} {vf : κ → D} {k : List Int} : ∀ l : List κ, getT (l.map fun a => (kf a, vf a)) k = (l.find? fun a => decide (kf a = k)).map vf
  | [] => rfl
  | a :: l => by
    have ih := getT_some (kf := kf) (vf := vf) (k := k) l
    unfold getT at ih ⊢
    rw [List.map_cons, List.find?_cons, List.find?_cons]
    by_cases e : kf a = k
    · simp [e]
    · simp only [e, decide_false]
      exact ih
def knownD (r : List Sq) : D := .dT (((List.range r.length).zip r).map fun q => (sqK q.2, .int (q.1 : Nat)))
theorem zip_snd (r : List Sq) : ((List.range r.length).zip r).map (·.2) = r := by
  rw [List.map_snd_zip (by rw [List.length_range]; exact Nat.le_refl _)]
theorem known_in (r : List Sq) (p : Sq) : (getT (((List.range r.length).zip r).map fun q => (sqK q.2, D.int (q.1 : Nat))) (sqK p)).isSome = decide (p ∈ r) := by
  rw [getT_some (kf := fun q : Nat × Sq => sqK q.2) (vf := fun q : Nat × Sq => D.int (q.1 : Nat)), Option.isSome_map]
  by_cases e : p ∈ r
  · rw [decide_eq_true e, List.find?_isSome]
    rw [← zip_snd r] at e
    obtain ⟨q, hq, rfl⟩ := List.mem_map.mp e
    exact ⟨q, hq, by simp⟩
  · rw [decide_eq_false e, Option.isSome_eq_false_iff, Option.isNone_iff_eq_none, List.find?_eq_none]
    intro q hq z
    apply e
    rw [← sqK_inj (of_decide_eq_true z), ← zip_snd r]
    exact List.mem_map.mpr ⟨q, hq, rfl⟩
abbrev Lets := List (Sq × List Int)
def lotsD (ls : Lets) : D := .dT (ls.map fun q => (sqK q.1, tD q.2))
def look (ls : Lets) (p : Sq) : Option (List Int) := (ls.find? fun q => decide (q.1 = p)).map (·.2)
theorem lots_get (ls : Lets) (p : Sq) : getT (ls.map fun q => (sqK q.1, tD q.2)) (sqK p) = (look ls p).map tD := by
  rw [getT_some (kf := fun q : Sq × List Int => sqK q.1) (vf := fun q : Sq × List Int => tD q.2)]
  unfold look
  rw [Option.map_map]
  have e : (fun q : Sq × List Int => decide (sqK q.1 = sqK p)) = fun q => decide (q.1 = p) := by
    funext q
    by_cases h : q.1 = p
    · simp [h]
    · have n : ¬ sqK q.1 = sqK p := fun z => h (sqK_inj z)
      simp [h, n]
  rw [e]; rfl
/-! ### mirrors -/
def led (p : Sq) (k : Int) : Sq := (p.1 + (if k = 1 then 1 else if k = 3 then -1 else 0), p.2 + (if k = 2 then 1 else if k = 4 then -1 else 0))
def five : List Int := [0, 1, 2, 3, 4]
def kinds (r : List Sq) (p : Sq) : List Int := five.filter fun k => decide (led p k ∈ r)
def across (a b : Int) : Bool := decide (a = 1) == decide (b = 3)
def about (nw sw ne se : Int) : Bool := (decide (nw = 1) && decide (ne = 3)) || (decide (sw = 1) && decide (se = 3)) || (decide (nw = 2) && decide (sw = 4)) || (decide (ne = 2) && decide (se = 4))
def allow (ls : Lets) (p : Sq) (k : Int) : Bool := match look ls p with
  | none => true
  | some ks => decide (k ∈ ks)
def kindsLet (r : List Sq) (ls : Lets) (p : Sq) : List Int := (kinds r p).filter (allow ls p)
def joined (row : List Int) : Bool := decide (row.getLast? = some 2)
def stepBy (ks : List Int) (rows : List (List Int)) : List (List Int) := rows.flatMap fun row => (ks.filter fun k => decide (k = 4) == joined row).map fun k => row ++ [k]
def rowsBy (r : List Sq) (ls : Lets) (sqs : List Sq) : List (List Int) := sqs.foldl (fun rows p => stepBy (kindsLet r ls p) rows) [[]]
def col (r : List Sq) (x : Int) : List Sq := r.filter fun p => decide (p.1 = x)
section
variable {P : Program} {w : World} {K : PySem.W.Frag} {mg : Str → Option Value} {bs : Heap}
theorem four_of_ok (T : Tp K mg) : FnI P w K mg bs 1 "four_of" ["point"] (spD 1 fun ds d => ∃ p : Sq, ds = [sqD p] ∧ d = .tup [sqD (p.1 - 1, p.2 - 1), sqD (p.1 - 1, p.2), sqD (p.1, p.2 - 1), sqD (p.1, p.2)]) := by
  have sc : FnScope ["point", "x", "y"] ["point"] (defScope (topS 16)) := ⟨rfl, rfl, rfl, by decide +kernel, rfl, by decide +kernel, by decide +kernel⟩
  refine fn_pure T.four_of sc (fun _ _ _ _ _ _ us hl => match us, hl with | [_], _ => rfl) ?_
  rintro f cdv A outer s H E hr ds d hl ⟨p, rfl, rfl⟩
  refine x_cons (s_unp (js := [1, 2]) (t_two 1 2 rfl sc.nd) (e_var 0 rfl) ?_)
  exact x_one (s_ret (e_tup (a_cons (e_tup (a_cons (e_sub (e_var 1 rfl) e_int) (a_cons (e_sub (e_var 2 rfl) e_int) a_nil))) (a_cons (e_tup (a_cons (e_sub (e_var 1 rfl) e_int) (a_cons (e_var 2 rfl) a_nil)))
    (a_cons (e_tup (a_cons (e_var 1 rfl) (a_cons (e_sub (e_var 2 rfl) e_int) a_nil))) (a_cons (e_tup (a_cons (e_var 1 rfl) (a_cons (e_var 2 rfl) a_nil))) a_nil))))) rfl)
theorem enum_map {α : Type} (f : α → D) (l : List α) : enumD (l.map f) = ((List.range l.length).zip l).map fun q => .tup [.int (q.1 : Nat), f q.2] := by
  unfold enumD zipD
  rw [List.length_map, List.zip_map, List.map_map]
  rfl
theorem known_of_ok (T : Tp K mg) : FnI P w K mg bs 1 "known_of" ["room"] (spD 1 fun ds d => ∃ r : List Sq, r.Nodup ∧ ds = [roomD r] ∧ d = knownD r) := by
  have sc : FnScope ["room", "place", "square"] ["room"] (defScope (topS 17)) := ⟨rfl, rfl, rfl, by decide +kernel, rfl, by decide +kernel, by decide +kernel⟩
  refine fn_pure T.known_of sc (fun _ _ _ _ _ _ us hl => match us, hl with | [_], _ => rfl) ?_
  rintro f cdv A outer s H E hr ds d hl ⟨r, nd, rfl, rfl⟩
  refine x_one (s_ret (e_dc (own := [("place", 1), ("square", 2)]) (l := (List.range r.length).zip r) (f := fun q => .tup [.int (q.1 : Nat), sqD q.2]) (kf := fun q => sqK q.2) (vf := fun q => .int (q.1 : Nat)) (.tup [1, 2]) (rm64 hr) rfl sc.nd (EvI.cast (i_enumT T.enumerate (e_var 0 rfl)) (enum_map sqD r)) (blkOk_by (by kernel_rfl)) (fun _ _ _ _ _ => t_two 1 2 rfl sc.nd) (fun _ _ => rfl) (by decide) (fun q _ _ _ _ _ _ => e_var 2 rfl) (fun q _ _ _ _ _ _ => e_var 1 rfl) ?_) rfl)
  have e : ((List.range r.length).zip r).map (fun q => sqK q.2) = r.map sqK := by
    conv => rhs; rw [← zip_snd r, List.map_map]
    rfl
  rw [e]
  exact List.pairwise_map.mpr (nd.imp fun n z => n (sqK_inj z))
theorem is_kind_ok (T : Tp K mg) : FnI P w K mg bs 3 "is_kind" ["thing"] (spD 1 fun ds d => ∃ k : Int, ds = [.int k] ∧ d = .bl (decide (0 ≤ k) && decide (k ≤ 4))) := by
  have sc : FnScope ["thing"] ["thing"] (defScope (topS 26)) := ⟨rfl, rfl, rfl, by decide +kernel, rfl, by decide +kernel, by decide +kernel⟩
  refine fn_pure T.is_kind sc (fun _ _ _ _ _ _ us hl => match us, hl with | [_], _ => rfl) ?_
  rintro f cdv A outer s H E hr ds d hl ⟨k, rfl, rfl⟩
  exact x_one (s_ret (e_call (is_within_ok T) hr (a_cons (e_var 0 rfl) (a_cons e_int (a_cons e_int a_nil))) ⟨_, _, _, rfl, rfl⟩) rfl)
def okK (k : Int) : Bool := decide (0 ≤ k) && decide (k ≤ 4)
theorem are_kinds_ok (T : Tp K mg) : FnI P w K mg bs 4 "are_kinds" ["thing", "many"] (spD 2 fun ds d => ∃ ks : List Int, (∀ k ∈ ks, okK k = true) ∧ ds = [tD ks, .int (ks.length : Nat)] ∧ d = .bl true) := by
  have sc : FnScope ["thing", "many", "own"] ["thing", "many"] (defScope (topS 27)) := ⟨rfl, rfl, rfl, by decide +kernel, rfl, by decide +kernel, by decide +kernel⟩
  refine fn_pure T.are_kinds sc (fun _ _ _ _ _ _ us hl => match us, hl with | [_, _], _ => rfl) ?_
  rintro f cdv A outer s H E hr ds d hl ⟨ks, hk, rfl, rfl⟩
  refine x_one (s_ret (Ev.cast (e_and (e_call (is_long_ok T) hr (a_cons (e_var 0 rfl) (a_cons (e_var 1 rfl) a_nil)) ⟨_, _, rfl, rfl⟩) fun _ => (e_one (e_allM (φ := okK) rfl T.all (e_lc0 (own := [("own", 2)]) (g := fun k => .bl (okK k)) (.one 2) rfl sc.nd (i_tup (e_var 0 rfl)) (blkOk_by (by kernel_rfl)) (fun _ _ _ _ _ => t_one 2 sc.nd) fun k _ _ _ _ _ _ => e_call (is_kind_ok T) hr (a_cons (e_var 2 rfl) a_nil) ⟨k, rfl, rfl⟩)))) ?_) rfl)
  rw [List.all_eq_true.mpr hk, List.length_map]
  simp
theorem far_at {k : Int} (h : k ∈ five) (p : Sq) : ∃ a b : Int, atI [[0, 0], [1, 0], [0, 1], [-1, 0], [0, -1]] k = some [a, b] ∧ led p k = (p.1 + a, p.2 + b) := by
  simp only [five, List.mem_cons, List.not_mem_nil, or_false] at h
  rcases h with rfl | rfl | rfl | rfl | rfl
  · exact ⟨0, 0, rfl, rfl⟩
  · exact ⟨1, 0, rfl, rfl⟩
  · exact ⟨0, 1, rfl, rfl⟩
  · exact ⟨-1, 0, rfl, rfl⟩
  · exact ⟨0, -1, rfl, rfl⟩
theorem led_by_ok (T : Tp K mg) : FnI P w K mg bs 1 "led_by" ["square", "kind"] (spD 2 fun ds d => ∃ (p : Sq) (k : Int), k ∈ five ∧ ds = [sqD p, .int k] ∧ d = sqD (led p k)) := by
  have sc : FnScope ["square", "kind"] ["square", "kind"] (defScope (topS 28)) := ⟨rfl, rfl, rfl, by decide +kernel, rfl, by decide +kernel, by decide +kernel⟩
  refine fn_pure T.led_by sc (fun _ _ _ _ _ _ us hl => match us, hl with | [_, _], _ => rfl) ?_
  rintro f cdv A outer s H E hr ds d hl ⟨p, k, hk, rfl, rfl⟩
  obtain ⟨a, b, h1, h2⟩ := far_at hk p
  rw [h2]
  exact x_one (s_ret (e_tup (a_cons (e_add (i := p.1) (e_ix (e_var 0 rfl) e_int rfl) (e_KRow T.FAR (e_var 1 rfl) e_int h1 rfl)) (a_cons (e_add (i := p.2) (e_ix (e_var 0 rfl) e_int rfl) (e_KRow T.FAR (e_var 1 rfl) e_int h1 rfl)) a_nil))) rfl)
theorem alone_in_ok (T : Tp K mg) : FnI P w K mg bs 2 "alone_in" ["known", "square", "kind"] (spD 3 fun ds d => ∃ (r : List Sq) (p : Sq) (k : Int), k ∈ five ∧ ds = [knownD r, sqD p, .int k] ∧ d = .bl (decide (led p k ∈ r))) := by
  have sc : FnScope ["known", "square", "kind"] ["known", "square", "kind"] (defScope (topS 29)) := ⟨rfl, rfl, rfl, by decide +kernel, rfl, by decide +kernel, by decide +kernel⟩
  refine fn_pure T.alone_in sc (fun _ _ _ _ _ _ us hl => match us, hl with | [_, _, _], _ => rfl) ?_
  rintro f cdv A outer s H E hr ds d hl ⟨r, p, k, hk, rfl, rfl⟩
  exact x_one (s_ret (Ev.cast (e_c (c_inD (rm1 hr) (e_call (led_by_ok T) hr (a_cons (e_var 1 rfl) (a_cons (e_var 2 rfl) a_nil)) ⟨p, k, hk, rfl, rfl⟩) (e_var 0 rfl))) (by rw [known_in])) rfl)
theorem kinds_in_ok (T : Tp K mg) : FnI P w K mg bs 3 "kinds_in" ["known", "square"] (spD 2 fun ds d => ∃ (r : List Sq) (p : Sq), ds = [knownD r, sqD p] ∧ d = .lst ((kinds r p).map .int)) := by
  have sc : FnScope ["known", "square", "kind"] ["known", "square"] (defScope (topS 30)) := ⟨rfl, rfl, rfl, by decide +kernel, rfl, by decide +kernel, by decide +kernel⟩
  refine fn_pure T.kinds_in sc (fun _ _ _ _ _ _ us hl => match us, hl with | [_, _], _ => rfl) ?_
  rintro f cdv A outer s H E hr ds d hl ⟨r, p, rfl, rfl⟩
  exact x_one (s_ret (e_lc (own := [("kind", 2)]) (l := five) (f := .int) (p := fun k => decide (led p k ∈ r)) (g := .int) (.one 2) rfl sc.nd (i_K T.KINDS) (blkOk_by (by kernel_rfl)) (fun _ _ _ _ _ => t_one 2 sc.nd) (fun _ _ => trivial) (by decide) (fun k hk _ _ _ _ _ => ts_one (b_v (e_call (alone_in_ok T) hr (a_cons (e_var 0 rfl) (a_cons (e_var 1 rfl) (a_cons (e_var 2 rfl) a_nil))) ⟨r, p, k, hk, rfl, rfl⟩))) (fun k _ _ _ _ _ _ _ => (e_var 2 rfl))) rfl)
theorem fits_across_ok (T : Tp K mg) : FnI P w K mg bs 1 "fits_across" ["kind", "other"] (spD 2 fun ds d => ∃ x y : Int, ds = [.int x, .int y] ∧ d = .bl (across x y)) := by
  have sc : FnScope ["kind", "other"] ["kind", "other"] (defScope (topS 31)) := ⟨rfl, rfl, rfl, by decide +kernel, rfl, by decide +kernel, by decide +kernel⟩
  refine fn_pure T.fits_across sc (fun _ _ _ _ _ _ us hl => match us, hl with | [_, _], _ => rfl) ?_
  rintro f cdv A outer s H E hr ds d hl ⟨x, y, rfl, rfl⟩
  exact x_one (s_ret (e_c (c_eqB (e_c (c_eqI (e_var 0 rfl) (e_globX T.EAST))) (e_c (c_eqI (e_var 1 rfl) (e_globX T.WEST))))) rfl)
theorem t_four {X : Cx} {x y z u : Str} {k : Nat} {p1 p2 p3 p4 pos : Pos} (i j m n : Nat) (hc : X.calm = true) (hN : X.N.Nodup) (hi : X.N[i]? = some x := by rfl) (hx : Loc X.env.scope x := by first | exact Or.inl rfl | exact Or.inr rfl) (hf : X.fn x = true ∨ X.env.scope.names.lookup x = some .local := by first | exact .inl rfl | exact .inr rfl | assumption)
    (hj : X.N[j]? = some y := by rfl) (hy : Loc X.env.scope y := by first | exact Or.inl rfl | exact Or.inr rfl) (hf2 : X.fn y = true ∨ X.env.scope.names.lookup y = some .local := by first | exact .inl rfl | exact .inr rfl | assumption)
    (hm : X.N[m]? = some z := by rfl) (hz : Loc X.env.scope z := by first | exact Or.inl rfl | exact Or.inr rfl) (hf3 : X.fn z = true ∨ X.env.scope.names.lookup z = some .local := by first | exact .inl rfl | exact .inr rfl | assumption)
    (hn : X.N[n]? = some u := by rfl) (hu : Loc X.env.scope u := by first | exact Or.inl rfl | exact Or.inr rfl) (hf4 : X.fn u = true ∨ X.env.scope.names.lookup u = some .local := by first | exact .inl rfl | exact .inr rfl | assumption) : TgOk X (.Tuple [.Name x p1, .Name y p2, .Name z p3, .Name u p4] k pos) (.tup [i, j, m, n]) :=
  pg_tup hc (pgs_cons (pg_name hN hi hx hf) (pgs_cons (pg_name hN hj hy hf2) (pgs_cons (pg_name hN hm hz hf3) (pgs_cons (pg_name hN hn hu hf4) pgs_nil))))
theorem dec2 (a b x y : Int) : decide ([a, b] = [x, y]) = (decide (a = x) && decide (b = y)) := by
  by_cases h1 : a = x <;> by_cases h2 : b = y <;> simp [h1, h2]
theorem fits_about_ok (T : Tp K mg) : FnI P w K mg bs 1 "fits_about" ["kinds"] (spD 1 fun ds d => ∃ a b c e : Int, ds = [tD [a, b, c, e]] ∧ d = .bl (about a b c e)) := by
  have sc : FnScope ["kinds", "northwest", "southwest", "northeast", "southeast"] ["kinds"] (defScope (topS 32)) := ⟨rfl, rfl, rfl, by decide +kernel, rfl, by decide +kernel, by decide +kernel⟩
  refine fn_pure T.fits_about sc (fun _ _ _ _ _ _ us hl => match us, hl with | [_], _ => rfl) ?_
  rintro f cdv A outer s H E hr ds d hl ⟨a, b, c, e, rfl, rfl⟩
  have two : ∀ x y : Int, Pl 1 (.tup [.int x, .int y]) := fun x y => pl_tD [x, y]
  have eq2 : ∀ x y u v : Int, eqD (.tup [.int x, .int y]) (.tup [.int u, .int v]) = (decide (x = u) && decide (y = v)) := fun x y u v => (eq_tD [x, y] [u, v]).trans (dec2 x y u v)
  refine x_cons (s_unp (js := [1, 2, 3, 4]) (t_four 1 2 3 4 rfl sc.nd) (e_var 0 rfl) ?_)
  refine x_cons (s_if (EvW.toB (w_or (b_c (c_eqD (rm64 hr) (e_tup (a_cons (e_var 1 rfl) (a_cons (e_var 3 rfl) a_nil))) (e_tup (a_cons (e_globX T.EAST) (a_cons (e_globX T.WEST) a_nil))) (two _ _).shp (two _ _).shp)) fun _ => (w_or1 (b_c (c_eqD (rm64 hr) (e_tup (a_cons (e_var 2 rfl) (a_cons (e_var 4 rfl) a_nil))) (e_tup (a_cons (e_globX T.EAST) (a_cons (e_globX T.WEST) a_nil))) (two _ _).shp (two _ _).shp))))) (fun h => ?_) fun h => ?_)
  · refine x_one (s_ret e_bl ?_)
    rw [eq2, eq2] at h
    unfold about
    rw [h]; rfl
  · refine x_nil (x_one (s_ret (Ev.cast (e_or (e_c (c_eqD (rm64 hr) (e_tup (a_cons (e_var 1 rfl) (a_cons (e_var 2 rfl) a_nil))) (e_tup (a_cons (e_globX T.SOUTH) (a_cons (e_globX T.NORTH) a_nil))) (two _ _).shp (two _ _).shp)) fun _ => (e_one (e_c (c_eqD (rm64 hr) (e_tup (a_cons (e_var 3 rfl) (a_cons (e_var 4 rfl) a_nil))) (e_tup (a_cons (e_globX T.SOUTH) (a_cons (e_globX T.NORTH) a_nil))) (two _ _).shp (two _ _).shp)))) ?_) rfl))
    rw [eq2, eq2] at h ⊢
    unfold about
    rw [h]; rfl
end
end TR
/-! ## D3 -/
set_option Elab.async false
set_option linter.all false
set_option maxRecDepth 100000
namespace TR
open PySem L2
theorem cut1 (l : List D) : cutD l (some 1) none = l.drop 1 := by
  unfold cutD HT.sIx
  cases l with
  | nil => rfl
  | cons a l => simp
def upI (ks : List Int) : Bool := (ks.zip (ks.drop 1)).all fun q => decide (q.1 < q.2)
def upS (ps : List Sq) : Bool := (ps.zip (ps.drop 1)).all fun q => sqLt q.1 q.2
theorem zip_map2 {α : Type} (f : α → D) (l : List α) : zipD (l.map f) (cutD (l.map f) (some 1) none) = (l.zip (l.drop 1)).map fun q => .tup [f q.1, f q.2] := by
  rw [cut1]
  unfold zipD
  rw [← List.map_drop, List.zip_map, List.map_map]
  rfl
def sqsOf (ls : Lets) : List Sq := ls.map (·.1)
def stairs (l : List Sq) : List (Sq × Sq) := l.zip (l.drop 1)
abbrev letD (q : Sq × List Int) : D := prD (sqK q.1, tD q.2)
def letsS (ls : Lets) : D := .stp (ls.map letD)
structure okL (r : List Sq) (ls : Lets) : Prop where
  sq : ∀ q ∈ ls, q.1 ∈ r
  kd : ∀ q ∈ ls, ∀ k ∈ q.2, okK k = true
  up : ∀ q ∈ ls, upI q.2 = true
  asc : upS (ls.map (·.1)) = true
section
variable {X : Cx} {ρ : En} {elt tg it : Expr} {scope : Scope} {own : List (Str × Nat)} {k : Kd} {α : Type} {l : List α} {f : α → D} {g : α → D} {pos pt py : Pos} {N : En → Prop} {R : D → En → Prop} {y : Str}
/-- y = [e for ..], where y is changed no more -/
theorem s_lc0 {rest : List Stmt} (i : Nat) (T : Tg) (hc : X.calm = true) (hN : X.N.Nodup) (hi : EvI X ρ tg it (l.map f)) (ok : BlkOk X.N X.env.scope scope own) (hT : ∀ s H C cl fp, TgOk (blk X scope s H C cl fp) tg T) (he : ∀ a ∈ l, Bv k X scope (setE T (f a) (wipeE ρ (own.map (·.2)))) elt (g a)) (q : Ex X (ρ.set i (.dat (.lst (l.map g)))) rest N R) (hf : ∀ a ∈ l, fitsT T (f a) := by intro _ _; trivial) (hown : ∀ j ∈ T.js, j ∈ own.map (·.2) := by decide) (hil : i < ρ.length := by exact Nat.le_of_ble_eq_true rfl) (hk : k ≠ .rd := by exact fun z => nomatch z)
    (hsw : swapsWith (.ListComp elt [⟨tg, it, [], 0⟩] scope pt) (some (.Name y py)) pos.line X.env = pure true := by rfl) (hy : X.N[i]? = some y := by rfl) (hyl : X.env.scope.names.lookup y = some .local := by rfl) (hs : ∀ x, foldedSetIterable it X.env x = pure x := by intro _; rfl) : Ex X ρ (.Assign [.Name y py] (.ListComp elt [⟨tg, it, [], 0⟩] scope pt) pos :: rest) N R := by
  exact x_cons (s_setLc (p := fun _ => true) (g := g) i T hc hN hi ok hT hf hown (fun _ _ _ _ _ _ _ => ts_nil) (fun a ha _ => he a ha) (fun c => by
    rw [List.filter_eq_self.mpr fun _ _ => rfl]
    exact x_freeze i (List.getElem?_set_self hil) (by rw [List.set_set]; exact q)) hsw hk hy hyl hs)
end
section
variable {P : Program} {w : World} {K : PySem.W.Frag} {mg : Str → Option Value} {bs : Heap}
theorem is_kind_set_ok (T : Tp K mg) : FnI P w K mg bs 4 "is_kind_set" ["thing"] (spD 1 fun ds d => ∃ ks : List Int, (∀ k ∈ ks, okK k = true) ∧ ds = [tD ks] ∧ d = .bl (upI ks)) := by
  have sc : FnScope ["thing", "own", "one", "other"] ["thing"] (defScope (topS 34)) := ⟨rfl, rfl, rfl, by decide +kernel, rfl, by decide +kernel, by decide +kernel⟩
  refine fn_pure T.is_kind_set sc (fun _ _ _ _ _ _ us hl => match us, hl with | [_], _ => rfl) ?_
  rintro f cdv A outer s H E hr ds d hl ⟨ks, hk, rfl, rfl⟩
  refine x_cons (s_if (p := false) (EvB.cast (EvW.toB (w_or (b_not (b_v (e_isi (e_var 0 rfl) T.isinstance T.tuple PyProof.Rows.boot_tuple (kit_tuple _)))) fun _ => (w_or1 (b_not (b_v (e_allM (φ := okK) rfl T.all (e_lc0 (own := [("own", 1)]) (g := fun k => .bl (okK k)) (.one 1) rfl sc.nd (i_tup (e_var 0 rfl)) (blkOk_by (by kernel_rfl)) (fun _ _ _ _ _ => t_one 1 sc.nd) fun k _ _ _ _ _ _ => e_call (is_kind_ok T) hr (a_cons (e_var 1 rfl) a_nil) ⟨k, rfl, rfl⟩))))))) ?_) (fun z => by cases z) fun _ => x_nil ?_)
  · rw [List.all_eq_true.mpr hk]; rfl
  · exact x_one (s_ret (e_allM (l := ks.zip (ks.drop 1)) (φ := fun q => decide (q.1 < q.2)) rfl T.all (e_lc0 (own := [("one", 2), ("other", 3)]) (l := ks.zip (ks.drop 1)) (f := fun q => .tup [.int q.1, .int q.2]) (g := fun q => .bl (decide (q.1 < q.2))) (.tup [2, 3]) rfl sc.nd (EvI.cast (i_zipT T.zip (e_var 0 rfl) (e_sliceT (e_var 0 rfl) (.some e_int) .none)) (zip_map2 .int ks)) (blkOk_by (by kernel_rfl)) (fun _ _ _ _ _ => t_two 2 3 rfl sc.nd) (fun q _ _ _ _ _ _ => (e_c (c_lt (e_var 2 rfl) (e_var 3 rfl)))) (fun _ _ => rfl))) rfl)
theorem are_lets_in_ok (T : Tp K mg) : FnI P w K mg bs 5 "are_lets_in" ["room", "thing"] (spD 2 fun ds d => ∃ (r : List Sq) (ls : Lets), r.Nodup ∧ okL r ls ∧ ds = [roomD r, letsS ls] ∧ d = .bl true) := by
  have sc : FnScope ["room", "thing", "known", "squares", "own", "square", "kinds", "_", "one", "other"] ["room", "thing"] (defScope (topS 35)) := ⟨rfl, rfl, rfl, by decide +kernel, rfl, by decide +kernel, by decide +kernel⟩
  refine fn_pure T.are_lets_in sc (fun _ _ _ _ _ _ us hl => match us, hl with | [_, _], _ => rfl) ?_
  rintro f cdv A outer s H E hr ds d hl ⟨r, ls, nd, ok, rfl, rfl⟩
  refine x_cons (s_if (p := false) (EvB.cast (EvW.toB (w_or (b_not (b_v (e_isi (e_var 1 rfl) T.isinstance T.tuple PyProof.Rows.boot_tuple (kit_tuple _)))) fun _ => (w_or1 (b_not (b_v (e_allM (l := ls) (φ := fun _ => true) rfl T.all (e_lc0 (own := [("own", 4)]) (l := ls) (f := letD) (g := fun _ => .bl true) (.one 4) rfl sc.nd (i_stp (e_var 1 rfl)) (blkOk_by (by kernel_rfl)) (fun _ _ _ _ _ => t_one 4 sc.nd) fun q _ _ _ _ _ _ => Ev.cast (e_and (e_isi (e_var 4 rfl) T.isinstance T.tuple PyProof.Rows.boot_tuple (kit_tuple _)) fun _ => (e_one (e_c (c_eqI (e_len T.len (e_var 4 rfl)) e_int)))) rfl))))))) ?_) (fun z => by cases z) fun _ => x_nil ?_)
  · simp [isTup, letsS]
  refine x_cons (s_asg 2 sc.nd (e_call (known_of_ok T) hr (a_cons (e_var 0 rfl) a_nil) ⟨r, nd, rfl, rfl⟩) ?_)
  refine x_cons (s_if (p := false) (EvB.cast (b_not (b_v (e_allM (l := ls) (φ := fun _ => true) rfl T.all (e_lc0 (own := [("square", 5), ("kinds", 6)]) (l := ls) (f := letD) (g := fun _ => .bl true) (.tup [5, 6]) rfl sc.nd (i_stp (e_var 1 rfl)) (blkOk_by (by kernel_rfl)) (fun _ _ _ _ _ => t_two 5 6 rfl sc.nd) (fun q hq _ _ _ _ _ => Ev.cast (e_and (e_call (is_pair_ok T) hr (a_cons (e_var 5 rfl) a_nil) ⟨q.1, rfl, rfl⟩) fun _ => (e_and (e_c (c_inD (rm1 hr) (e_var 5 rfl) (e_var 2 rfl))) fun _ => (e_one (e_call (is_kind_set_ok T) hr (a_cons (e_var 6 rfl) a_nil) ⟨q.2, ok.kd q hq, rfl, rfl⟩)))) (by rw [known_in, decide_eq_true (ok.sq q hq), ok.up q hq]; rfl)) (fun _ _ => rfl))))) ?_) (fun z => by cases z) fun _ => x_nil ?_)
  · simp
  refine s_lc0 (own := [("square", 5), ("_", 7)]) (l := ls) (f := letD) (g := fun q => sqD q.1) 3 (.tup [5, 7]) rfl sc.nd (i_stp (e_var 1 rfl)) (blkOk_by (by kernel_rfl)) (fun _ _ _ _ _ => t_two 5 7 rfl sc.nd) (fun q _ _ _ _ _ _ => e_var 5 rfl) ?_ (fun _ _ => rfl)
  have e0 : (ls.map fun q => sqD q.1) = (sqsOf ls).map sqD := by unfold sqsOf; rw [List.map_map]; rfl
  have asc : (stairs (sqsOf ls)).all (fun q => sqLt q.1 q.2) = true := ok.asc
  rw [e0]
  refine x_one (s_ret (Ev.cast (e_allM (l := stairs (sqsOf ls)) (φ := fun q => sqLt q.1 q.2) rfl T.all (e_lc0 (own := [("one", 8), ("other", 9)]) (l := stairs (sqsOf ls)) (f := fun q => .tup [sqD q.1, sqD q.2]) (g := fun q => .bl (sqLt q.1 q.2)) (.tup [8, 9]) rfl sc.nd (EvI.cast (i_zipL T.zip (e_var 3 rfl) (e_sliceL (e_var 3 rfl) (.some e_int) .none)) (zip_map2 sqD (sqsOf ls))) (blkOk_by (by kernel_rfl)) (fun _ _ _ _ _ => t_two 8 9 rfl sc.nd) (fun q _ _ _ _ _ _ => (e_c (c_ltT (rm0 hr) (e_var 8 rfl) (e_var 9 rfl)))) (fun _ _ => rfl))) (congrArg D.bl asc)) rfl)
theorem sure_lets_ok (T : Tp K mg) : FnI P w K mg bs 6 "sure_lets" ["room", "lets"] (spD 2 fun ds d => ∃ (r : List Sq) (ls : Lets) (t : D), r.Nodup ∧ okL r ls ∧ ds = [roomD r, t] ∧ dep t ≤ 4 ∧ tupS t = letsS ls ∧ d = letsS ls) := by
  have sc : FnScope ["room", "lets", "own"] ["room", "lets"] (defScope (topS 36)) := ⟨rfl, rfl, rfl, by decide +kernel, rfl, by decide +kernel, by decide +kernel⟩
  refine fn_pure T.sure_lets sc (fun _ _ _ _ _ _ us hl => match us, hl with | [_, _], _ => rfl) ?_
  rintro f cdv A outer s H E hr ds d hl ⟨r, ls, t, nd, ok, rfl, h2, h3, rfl⟩
  refine x_cons (s_asg 2 sc.nd (e_call (tupled_ok T 4) hr (a_cons (e_var 1 rfl) a_nil) ⟨t, rfl, h2, .inr h3.symm⟩) ?_)
  exact x_cons (s_if (p := false) (b_not (b_v (e_call (are_lets_in_ok T) hr (a_cons (e_var 0 rfl) (a_cons (e_var 2 rfl) a_nil)) ⟨r, ls, nd, ok, rfl, rfl⟩))) (fun z => by cases z) fun _ => x_nil (x_one (s_ret (e_var 2 rfl) rfl)))
theorem sure_x_ok (T : Tp K mg) : FnI P w K mg bs 2 "sure_x" ["x"] (spD 1 fun ds d => ∃ x : Int, ds = [.int x] ∧ d = .int x) := by
  have sc : FnScope ["x"] ["x"] (defScope (topS 39)) := ⟨rfl, rfl, rfl, by decide +kernel, rfl, by decide +kernel, by decide +kernel⟩
  refine fn_pure T.sure_x sc (fun _ _ _ _ _ _ us hl => match us, hl with | [_], _ => rfl) ?_
  rintro f cdv A outer s H E hr ds d hl ⟨x, rfl, rfl⟩
  exact x_cons (s_if (p := false) (b_not (b_v (e_call (is_number_ok T) hr (a_cons (e_var 0 rfl) a_nil) ⟨.int x, rfl, rfl⟩))) (fun z => by cases z) fun _ => x_nil (x_one (s_ret (e_var 0 rfl) rfl)))
theorem column_at_ok (T : Tp K mg) : FnI P w K mg bs 1 "column_at" ["room", "x"] (spD 2 fun ds d => ∃ (r : List Sq) (x : Int), ds = [roomD r, .int x] ∧ d = roomD (col r x)) := by
  have sc : FnScope ["room", "x", "square"] ["room", "x"] (defScope (topS 40)) := ⟨rfl, rfl, rfl, by decide +kernel, rfl, by decide +kernel, by decide +kernel⟩
  refine fn_pure T.column_at sc (fun _ _ _ _ _ _ us hl => match us, hl with | [_, _], _ => rfl) ?_
  rintro f cdv A outer s H E hr ds d hl ⟨r, x, rfl, rfl⟩
  exact x_one (s_ret (e_tupleOf T.tuple (e_lc (own := [("square", 2)]) (l := r) (f := sqD) (p := fun p => decide (p.1 = x)) (g := sqD) (.one 2) rfl sc.nd (i_tup (e_var 0 rfl)) (blkOk_by (by kernel_rfl)) (fun _ _ _ _ _ => t_one 2 sc.nd) (fun _ _ => trivial) (by decide) (fun p _ _ _ _ _ _ => ts_one (b_c (c_eqI (i := p.1) (e_ix (e_var 2 rfl) e_int rfl) (e_var 1 rfl)))) (fun p _ _ _ _ _ _ _ => (e_var 2 rfl)))) rfl)
theorem sure_row_ok (T : Tp K mg) : FnI P w K mg bs 5 "sure_row" ["room", "x", "row"] (spD 3 fun ds d => ∃ (r : List Sq) (x : Int) (ks : List Int) (t : D), ks.length = (col r x).length ∧ (∀ k ∈ ks, okK k = true) ∧ ds = [roomD r, .int x, t] ∧ dep t ≤ 3 ∧ tupD t = tD ks ∧ d = tD ks) := by
  have sc : FnScope ["room", "x", "row", "own"] ["room", "x", "row"] (defScope (topS 41)) := ⟨rfl, rfl, rfl, by decide +kernel, rfl, by decide +kernel, by decide +kernel⟩
  refine fn_pure T.sure_row sc (fun _ _ _ _ _ _ us hl => match us, hl with | [_, _, _], _ => rfl) ?_
  rintro f cdv A outer s H E hr ds d hl ⟨r, x, ks, t, h1, h2, rfl, h3, h4, rfl⟩
  refine x_cons (s_asg 3 sc.nd (e_call (tupled_ok T 3) hr (a_cons (e_var 2 rfl) a_nil) ⟨t, rfl, h3, .inl h4.symm⟩) ?_)
  exact x_cons (s_if (p := false) (b_not (b_v (e_call (are_kinds_ok T) hr (a_cons (e_var 3 rfl) (a_cons (e_len T.len (e_call (column_at_ok T) hr (a_cons (e_var 0 rfl) (a_cons (e_var 1 rfl) a_nil)) ⟨r, x, rfl, rfl⟩) (.tup _)) a_nil)) ⟨ks, h2, by rw [h1, List.length_map], rfl⟩))) (fun z => by cases z) fun _ => x_nil (x_one (s_ret (e_var 3 rfl) rfl)))
/-! the columns -/
def loX (r : List Sq) : Int := (r.map (·.1)).foldl min ((r.map (·.1)).headD 0)
def hiX (r : List Sq) : Int := (r.map (·.1)).foldl max ((r.map (·.1)).headD 0)
theorem fold_min : ∀ (l : List Int) (a : Int), (l.foldl min a ≤ a ∧ (∀ x ∈ l, l.foldl min a ≤ x)) ∧ (l.foldl min a = a ∨ l.foldl min a ∈ l)
  | [], a => ⟨⟨Int.le_refl a, by simp⟩, .inl rfl⟩
  | y :: l, a => by
    obtain ⟨⟨h1, h2⟩, h3⟩ := fold_min l (min a y)
    show ((l.foldl min (min a y) ≤ a ∧ _) ∧ _)
    refine ⟨⟨by omega, fun x hx => ?_⟩, ?_⟩
    · rcases List.mem_cons.mp hx with rfl | hx
      · show l.foldl min (min a x) ≤ x; omega
      · exact h2 x hx
    · rcases h3 with h3 | h3
      · by_cases c : a ≤ y
        · left; show l.foldl min (min a y) = a; omega
        · right; show l.foldl min (min a y) ∈ y :: l; rw [h3, show min a y = y by omega]; exact List.mem_cons_self
      · right; exact List.mem_cons_of_mem _ h3
theorem fold_max : ∀ (l : List Int) (a : Int), (a ≤ l.foldl max a ∧ (∀ x ∈ l, x ≤ l.foldl max a)) ∧ (l.foldl max a = a ∨ l.foldl max a ∈ l)
  | [], a => ⟨⟨Int.le_refl a, by simp⟩, .inl rfl⟩
  | y :: l, a => by
    obtain ⟨⟨h1, h2⟩, h3⟩ := fold_max l (max a y)
    show ((a ≤ l.foldl max (max a y) ∧ _) ∧ _)
    refine ⟨⟨by omega, fun x hx => ?_⟩, ?_⟩
    · rcases List.mem_cons.mp hx with rfl | hx
      · show x ≤ l.foldl max (max a x); omega
      · exact h2 x hx
    · rcases h3 with h3 | h3
      · by_cases c : y ≤ a
        · left; show l.foldl max (max a y) = a; omega
        · right; show l.foldl max (max a y) ∈ y :: l; rw [h3, show max a y = y by omega]; exact List.mem_cons_self
      · right; exact List.mem_cons_of_mem _ h3
theorem loX_le {r : List Sq} {p : Sq} (h : p ∈ r) : loX r ≤ p.1 := (fold_min _ _).1.2 p.1 (List.mem_map.mpr ⟨p, h, rfl⟩)
theorem hiX_ge {r : List Sq} {p : Sq} (h : p ∈ r) : p.1 ≤ hiX r := (fold_max _ _).1.2 p.1 (List.mem_map.mpr ⟨p, h, rfl⟩)
theorem loX_mem {r : List Sq} (h : r ≠ []) : ∃ p ∈ r, p.1 = loX r := by
  cases r with
  | nil => exact absurd rfl h
  | cons q r =>
    rcases (fold_min ((q :: r).map (·.1)) (((q :: r).map (·.1)).headD 0)).2 with e | e
    · exact ⟨q, List.mem_cons_self, e.symm⟩
    · obtain ⟨p, hp, e⟩ := List.mem_map.mp e; exact ⟨p, hp, e⟩
theorem hiX_mem {r : List Sq} (h : r ≠ []) : ∃ p ∈ r, p.1 = hiX r := by
  cases r with
  | nil => exact absurd rfl h
  | cons q r =>
    rcases (fold_max ((q :: r).map (·.1)) (((q :: r).map (·.1)).headD 0)).2 with e | e
    · exact ⟨q, List.mem_cons_self, e.symm⟩
    · obtain ⟨p, hp, e⟩ := List.mem_map.mp e; exact ⟨p, hp, e⟩
/-- the x of the columns -/
def xs (r : List Sq) : List Int := (List.range (hiX r + 1 - loX r).toNat).map fun i : Nat => loX r + (i : Int)
def cols (r : List Sq) : List (List Sq) := (xs r).map (col r)
/-- wide, but not too far -/
def okX (r : List Sq) : Prop := r ≠ [] ∧ 0 ≤ loX r ∧ loX r ≤ 1000 ∧ hiX r ≤ 100000
theorem columns_in_ok (T : Tp K mg) : FnI P w K mg bs 2 "columns_in" ["room"] (spD 1 fun ds d => ∃ r : List Sq, okX r ∧ ds = [roomD r] ∧ d = .lst ((cols r).map roomD)) := by
  have sc : FnScope ["room", "numbers", "square", "x"] ["room"] (defScope (topS 42)) := ⟨rfl, rfl, rfl, by decide +kernel, rfl, by decide +kernel, by decide +kernel⟩
  refine fn_pure T.columns_in sc (fun _ _ _ _ _ _ us hl => match us, hl with | [_], _ => rfl) ?_
  rintro f cdv A outer s H E hr ds d hl ⟨r, ⟨ne, x0, x1, x2⟩, rfl, rfl⟩
  have lh : loX r ≤ hiX r := by obtain ⟨p, hp, e⟩ := loX_mem ne; rw [← e]; exact hiX_ge hp
  refine s_lc0 (own := [("square", 2)]) (l := r) (f := sqD) (g := fun p => .int p.1) 1 (.one 2) rfl sc.nd (i_tup (e_var 0 rfl)) (blkOk_by (by kernel_rfl)) (fun _ _ _ _ _ => t_one 2 sc.nd) (fun p _ _ _ _ _ _ => (e_ix (e_var 2 rfl) e_int rfl)) ?_
  refine x_one (s_ret (Ev.cast (e_lc0 (own := [("x", 3)]) (l := List.range (hiX r + 1 - loX r).toNat) (f := fun i : Nat => .int (loX r + (i : Int))) (g := fun i : Nat => roomD (col r (loX r + (i : Int)))) (.one 3) rfl sc.nd (i_rangeB T.range (e_minM (m := loX r) (ψ := fun p : Sq => p.1) rfl T.min (e_var 1 rfl) (loX_mem ne) (fun p hp => loX_le hp)) (e_add (e_maxM (m := hiX r) (ψ := fun p : Sq => p.1) rfl T.max (e_var 1 rfl) (hiX_mem ne) (fun p hp => hiX_ge hp)) e_int) ?_ ?_ ?_) (blkOk_by (by kernel_rfl)) (fun _ _ _ _ _ => t_one 3 sc.nd) fun i _ _ _ _ _ _ => (e_call (column_at_ok T) hr (a_cons (e_var 0 rfl) (a_cons (e_var 3 rfl) a_nil)) ⟨r, _, rfl, rfl⟩)) ?_) rfl)
  · omega
  · omega
  · omega
  · unfold cols xs
    rw [List.map_map, List.map_map]; rfl
def narrow (r : List Sq) : Prop := ∀ c ∈ cols r, c.length ≤ 7
theorem refuse_wide_ok (T : Tp K mg) : FnI P w K mg bs 3 "refuse_wide" ["room"] (spD 1 fun ds d => ∃ r : List Sq, okX r ∧ narrow r ∧ ds = [roomD r] ∧ d = .non) := by
  have sc : FnScope ["room", "squares"] ["room"] (defScope (topS 43)) := ⟨rfl, rfl, rfl, by decide +kernel, rfl, by decide +kernel, by decide +kernel⟩
  refine fn_pure T.refuse_wide sc (fun _ _ _ _ _ _ us hl => match us, hl with | [_], _ => rfl) ?_
  rintro f cdv A outer s H E hr ds d hl ⟨r, ok, nw, rfl, rfl⟩
  have lh : loX r ≤ hiX r := by obtain ⟨p, hp, e⟩ := loX_mem ok.1; rw [← e]; exact hiX_ge hp
  have ne : cols r ≠ [] := by
    unfold cols xs
    intro z
    have := congrArg List.length z
    simp at this
    omega
  obtain ⟨m, hm1, hm2, hm3⟩ : ∃ m : Int, (∃ c ∈ cols r, ((c.length : Nat) : Int) = m) ∧ (∀ c ∈ cols r, ((c.length : Nat) : Int) ≤ m) ∧ m ≤ 7 := by
    have q := fold_max ((cols r).map fun c => ((c.length : Nat) : Int)) (((cols r).map fun c => ((c.length : Nat) : Int)).headD 0)
    obtain ⟨c0, cs, ec⟩ : ∃ c0 cs, cols r = c0 :: cs := by cases h : cols r with | nil => exact absurd h ne | cons a b => exact ⟨a, b, rfl⟩
    have w1 : ∃ c ∈ cols r, ((c.length : Nat) : Int) = ((cols r).map fun c => ((c.length : Nat) : Int)).foldl max (((cols r).map fun c => ((c.length : Nat) : Int)).headD 0) := by
      rcases q.2 with e | e
      · refine ⟨c0, by rw [ec]; exact List.mem_cons_self, ?_⟩
        rw [e, ec]; rfl
      · obtain ⟨c, hc, e⟩ := List.mem_map.mp e
        exact ⟨c, hc, e⟩
    refine ⟨_, w1, fun c hc => q.1.2 _ (List.mem_map.mpr ⟨c, hc, rfl⟩), ?_⟩
    obtain ⟨c, hc, e⟩ := w1
    rw [← e]
    have := nw c hc
    omega
  refine x_one (s_if (p := false) (EvB.cast (b_c (c_gt (e_maxM (l := cols r) (ψ := fun c : List Sq => ((c.length : Nat) : Int)) (m := m) rfl T.max (e_lc0 (own := [("squares", 1)]) (l := cols r) (f := roomD) (g := fun c => .int ((c.length : Nat) : Int)) (.one 1) rfl sc.nd (i_list (e_call (columns_in_ok T) hr (a_cons (e_var 0 rfl) a_nil) ⟨r, ok, rfl, rfl⟩)) (blkOk_by (by kernel_rfl)) (fun _ _ _ _ _ => t_one 1 sc.nd) fun c _ _ _ _ _ _ => Ev.cast (e_len T.len (e_var 1 rfl) (.tup _)) (by rw [List.length_map])) hm1 hm2) (e_globX T.HIGH))) ?_) (fun z => by cases z) fun _ => x_nil rfl)
  exact decide_eq_false (by omega)
end
end TR
/-! ## D4 -/
set_option Elab.async false
set_option linter.all false
set_option maxRecDepth 100000
namespace TR
open PySem L2
section
variable {X : Cx} {ρ : En} {elt tg it : Expr} {ifs : List Expr} {scope : Scope} {own : List (Str × Nat)} {k : Kd} {α : Type} {l : List α} {f : α → D} {p : α → Bool} {g : α → D} {pos pt py : Pos} {N : En → Prop} {R : D → En → Prop} {y : Str}
/-- y = [e for .. if ..], where y is changed no more -/
theorem s_lcF {rest : List Stmt} (i : Nat) (T : Tg) (hc : X.calm = true) (hN : X.N.Nodup) (hi : EvI X ρ tg it (l.map f)) (ok : BlkOk X.N X.env.scope scope own) (hT : ∀ s H C cl fp, TgOk (blk X scope s H C cl fp) tg T) (ht : ∀ a ∈ l, BvTs X scope (setE T (f a) (wipeE ρ (own.map (·.2)))) ifs (p a)) (he : ∀ a ∈ l, p a = true → Bv k X scope (setE T (f a) (wipeE ρ (own.map (·.2)))) elt (g a)) (q : Ex X (ρ.set i (.dat (.lst ((l.filter p).map g)))) rest N R) (hf : ∀ a ∈ l, fitsT T (f a) := by intro _ _; trivial) (hown : ∀ j ∈ T.js, j ∈ own.map (·.2) := by decide) (hil : i < ρ.length := by exact Nat.le_of_ble_eq_true rfl) (hk : k ≠ .rd := by exact fun z => nomatch z)
    (hsw : swapsWith (.ListComp elt [⟨tg, it, ifs, 0⟩] scope pt) (some (.Name y py)) pos.line X.env = pure true := by rfl) (hy : X.N[i]? = some y := by rfl) (hyl : X.env.scope.names.lookup y = some .local := by rfl) (hs : ∀ x, foldedSetIterable it X.env x = pure x := by intro _; rfl) : Ex X ρ (.Assign [.Name y py] (.ListComp elt [⟨tg, it, ifs, 0⟩] scope pt) pos :: rest) N R := by
  exact x_cons (s_setLc (p := p) (g := g) i T hc hN hi ok hT hf hown ht he (fun c => x_freeze i (List.getElem?_set_self hil) (by rw [List.set_set]; exact q)) hsw hk hy hyl hs)
end
/-! ### rows -/
theorem snocRec {α : Type} {m : List α → Prop} (h0 : m []) (h1 : ∀ l a, m l → m (l ++ [a])) (l : List α) : m l := by
  have h : ∀ l : List α, m l.reverse := fun l => by
    induction l with
    | nil => exact h0
    | cons a l ih => rw [List.reverse_cons]; exact h1 _ a ih
  rw [← List.reverse_reverse l]; exact h _
def abD : Option Int → D
  | none => .non
  | some i => .int i
theorem last_at {row : List Int} (h : row ≠ []) : atI (row.map D.int) (-1) = some (.int (row.getLast?.getD 0)) := by
  have hl : 0 < row.length := List.length_pos_iff.mpr h
  unfold atI ixN
  rw [List.length_map, if_neg (by decide), if_pos (by omega)]
  show (row.map D.int)[(-1 + (row.length : Int)).toNat]? = _
  rw [show (-1 + (row.length : Int)).toNat = row.length - 1 by omega, List.getElem?_map, ← List.getLast?_eq_getElem?]
  cases e : row.getLast? with
  | none => exact absurd (List.getLast?_eq_none_iff.mp e) h
  | some x => rfl
theorem joined_eq (row : List Int) : (!eqD (tD row) (.tup []) && decide (row.getLast?.getD 0 = 2)) = joined row := by
  rw [show eqD (tD row) (.tup []) = eqD (tD row) (tD []) from rfl, eq_tD]
  unfold joined
  cases row with
  | nil => rfl
  | cons a l =>
    rw [decide_eq_false (by simp)]
    rw [List.getLast?_eq_some_getLast (by simp)]
    simp
theorem ab_some {row : List Int} (h : row ≠ []) : D.int (row.getLast?.getD 0) = abD row.getLast? := by
  rw [List.getLast?_eq_some_getLast h]; rfl
theorem shp_tD (row : List Int) : shp (tD row) = true := (pl_tD row).shp
theorem ne_of {row : List Int} (h : (!eqD (tD row) (.tup [])) = true) : row ≠ [] := by
  rw [show eqD (tD row) (.tup []) = eqD (tD row) (tD []) from rfl, eq_tD] at h
  simpa using h
theorem ne_of' {row : List Int} (h : (!eqD (tD row) (.tup [])) = false) : row = [] := by
  rw [show eqD (tD row) (.tup []) = eqD (tD row) (tD []) from rfl, eq_tD] at h
  simpa using h
def rowsD (l : List (List Int)) : D := .lst (l.map tD)
theorem kindsLet_five {r : List Sq} {ls : Lets} {p : Sq} {k : Int} (h : k ∈ kindsLet r ls p) : k ∈ five := (List.mem_filter.mp (List.mem_filter.mp h).1).1
theorem five_nd : five.Nodup := by decide
theorem kindsLet_nd (r : List Sq) (ls : Lets) (p : Sq) : (kindsLet r ls p).Nodup := (five_nd.filter _).filter _
theorem fit_le (ks : List Int) (h : ks.Sublist five) (b : Bool) : (ks.filter fun k => decide (k = 4) == b).length ≤ 4 := by
  have h1 := (h.filter fun k => decide (k = 4) == b).length_le
  refine Nat.le_trans h1 ?_
  cases b <;> decide
theorem kindsLet_sub (r : List Sq) (ls : Lets) (p : Sq) : (kindsLet r ls p).Sublist five := (List.filter_sublist).trans List.filter_sublist
theorem stepBy_le (ks : List Int) (h : ks.Sublist five) : ∀ rows : List (List Int), (stepBy ks rows).length ≤ 4 * rows.length
  | [] => Nat.le_refl _
  | row :: rows => by
    have h1 := stepBy_le ks h rows
    have h2 := fit_le ks h (joined row)
    unfold stepBy at h1 ⊢
    rw [List.flatMap_cons, List.length_append, List.length_map, List.length_cons]
    omega
theorem stepBy_app (ks : List Int) (a b : List (List Int)) : stepBy ks (a ++ b) = stepBy ks a ++ stepBy ks b := List.flatMap_append
theorem rowsBy_snoc (r : List Sq) (ls : Lets) (sqs : List Sq) (p : Sq) : rowsBy r ls (sqs ++ [p]) = stepBy (kindsLet r ls p) (rowsBy r ls sqs) := by
  unfold rowsBy; rw [List.foldl_append]; rfl
theorem rowsBy_le (r : List Sq) (ls : Lets) (sqs : List Sq) : (rowsBy r ls sqs).length ≤ 4 ^ sqs.length := by
  induction sqs using snocRec with
  | h0 => exact Nat.le_refl _
  | h1 sqs p ih =>
    rw [rowsBy_snoc, List.length_append]
    have h1 := stepBy_le (kindsLet r ls p) (kindsLet_sub r ls p) (rowsBy r ls sqs)
    show _ ≤ 4 ^ (sqs.length + 1)
    rw [Nat.pow_succ]
    omega
theorem stepBy_len {ks : List Int} {rows : List (List Int)} {n : Nat} (h : ∀ row ∈ rows, row.length = n) : ∀ row ∈ stepBy ks rows, row.length = n + 1 := by
  intro row hr
  obtain ⟨a, ha, hr⟩ := List.mem_flatMap.mp hr
  obtain ⟨k, _, rfl⟩ := List.mem_map.mp hr
  rw [List.length_append, h a ha]; rfl
theorem rowsBy_len (r : List Sq) (ls : Lets) (sqs : List Sq) : ∀ row ∈ rowsBy r ls sqs, row.length = sqs.length := by
  induction sqs using snocRec with
  | h0 => intro row h; rw [List.mem_singleton.mp h]; rfl
  | h1 sqs p ih =>
    rw [rowsBy_snoc, List.length_append]
    exact stepBy_len ih
/-! behind another row -/
abbrev Ah := List (Sq × Int)
def ahD (ah : Ah) : D := .dT (ah.map fun q => (sqK q.1, .int q.2))
def lookA (ah : Ah) (p : Sq) : Option Int := (ah.find? fun q => decide (q.1 = p)).map (·.2)
theorem ah_get (ah : Ah) (p : Sq) : getT (ah.map fun q => (sqK q.1, D.int q.2)) (sqK p) = (lookA ah p).map .int := by
  rw [getT_some (kf := fun q : Sq × Int => sqK q.1) (vf := fun q => D.int q.2)]
  unfold lookA
  rw [show (fun q : Sq × Int => decide (sqK q.1 = sqK p)) = fun q => decide (q.1 = p) from funext fun q => by
    by_cases h : q.1 = p
    · rw [h]; simp
    · rw [decide_eq_false h, decide_eq_false fun z => h (sqK_inj z)]]
  rw [Option.map_map]; rfl
def at0 (ah : Ah) (p : Sq) : Int := (lookA ah p).getD 0
theorem ah_at {ah : Ah} {p : Sq} (h : (lookA ah p).isSome = true) : getT (ah.map fun q => (sqK q.1, D.int q.2)) (sqK p) = some (.int (at0 ah p)) := by
  rw [ah_get]; unfold at0
  cases e : lookA ah p with
  | none => rw [e] at h; cases h
  | some x => rfl
def fourOf (p : Sq) : List Sq := [(p.1 - 1, p.2 - 1), (p.1 - 1, p.2), (p.1, p.2 - 1), (p.1, p.2)]
def letBehind (r : List Sq) (ah : Ah) (p : Sq) (k : Int) (above : Option Int) : Bool :=
  if (p.1 - 1, p.2) ∈ r then
    across (at0 ah (p.1 - 1, p.2)) k && (!((fourOf p).all fun q => decide (q ∈ r)) || about (at0 ah (p.1 - 1, p.2 - 1)) (at0 ah (p.1 - 1, p.2)) (above.getD 0) k)
  else true
def stepBehind (r : List Sq) (ah : Ah) (p : Sq) (ks : List Int) (rows : List (List Int)) : List (List Int) := rows.flatMap fun row => ((ks.filter fun k => decide (k = 4) == joined row).filter fun k => letBehind r ah p k row.getLast?).map fun k => row ++ [k]
def rowsBehind (r : List Sq) (ls : Lets) (sqs : List Sq) (ah : Ah) : List (List Int) := sqs.foldl (fun rows p => stepBehind r ah p (kindsLet r ls p) rows) [[]]
theorem rowsBehind_snoc (r : List Sq) (ls : Lets) (sqs : List Sq) (p : Sq) (ah : Ah) : rowsBehind r ls (sqs ++ [p]) ah = stepBehind r ah p (kindsLet r ls p) (rowsBehind r ls sqs ah) := by
  unfold rowsBehind; rw [List.foldl_append]; rfl
theorem stepBehind_app (r : List Sq) (ah : Ah) (p : Sq) (ks : List Int) (a b : List (List Int)) : stepBehind r ah p ks (a ++ b) = stepBehind r ah p ks a ++ stepBehind r ah p ks b := List.flatMap_append
theorem stepBehind_le (r : List Sq) (ah : Ah) (p : Sq) (ks : List Int) (h : ks.Sublist five) : ∀ rows : List (List Int), (stepBehind r ah p ks rows).length ≤ 4 * rows.length
  | [] => Nat.le_refl _
  | row :: rows => by
    have h1 := stepBehind_le r ah p ks h rows
    have h2 := fit_le ks h (joined row)
    have h3 := List.length_filter_le (fun k => letBehind r ah p k row.getLast?) (ks.filter fun k => decide (k = 4) == joined row)
    unfold stepBehind at h1 ⊢
    rw [List.flatMap_cons, List.length_append, List.length_map, List.length_cons]
    omega
theorem stepBehind_len {r : List Sq} {ah : Ah} {p : Sq} {ks : List Int} {rows : List (List Int)} {n : Nat} (h : ∀ row ∈ rows, row.length = n) : ∀ row ∈ stepBehind r ah p ks rows, row.length = n + 1 := by
  intro row hr
  obtain ⟨a, ha, hr⟩ := List.mem_flatMap.mp hr
  obtain ⟨k, _, rfl⟩ := List.mem_map.mp hr
  rw [List.length_append, h a ha]; rfl
theorem rowsBehind_len (r : List Sq) (ls : Lets) (ah : Ah) (sqs : List Sq) : ∀ row ∈ rowsBehind r ls sqs ah, row.length = sqs.length := by
  induction sqs using snocRec with
  | h0 => intro row h; rw [List.mem_singleton.mp h]; rfl
  | h1 sqs p ih =>
    rw [rowsBehind_snoc, List.length_append]
    exact stepBehind_len ih
theorem rowsBehind_le (r : List Sq) (ls : Lets) (ah : Ah) (sqs : List Sq) : (rowsBehind r ls sqs ah).length ≤ 4 ^ sqs.length := by
  induction sqs using snocRec with
  | h0 => exact Nat.le_refl _
  | h1 sqs p ih =>
    rw [rowsBehind_snoc, List.length_append]
    have h1 := stepBehind_le r ah p (kindsLet r ls p) (kindsLet_sub r ls p) (rowsBehind r ls sqs ah)
    show _ ≤ 4 ^ (sqs.length + 1)
    rw [Nat.pow_succ]
    omega
def key (row : List Int) : List Int := row.map fun k => if k = 3 then 0 else k
/-- a column in which each square with one above it is not the first, and whose squares to the west all lie ahead -/
structure okCol (r : List Sq) (sqs : List Sq) (ah : Ah) : Prop where
  up : ∀ (d : List Sq) (p : Sq) (e : List Sq), sqs = d ++ p :: e → (p.1, p.2 - 1) ∈ r → d ≠ []
  we : ∀ p ∈ sqs, ∀ q ∈ r, q.1 = p.1 - 1 → (lookA ah q).isSome = true
section
variable {P : Program} {w : World} {K : PySem.W.Frag} {mg : Str → Option Value} {bs : Heap}
theorem kinds_let_ok (T : Tp K mg) : FnI P w K mg bs 4 "kinds_let" ["known", "lots", "square"] (spD 3 fun ds d => ∃ (r : List Sq) (ls : Lets) (p : Sq), ds = [knownD r, lotsD ls, sqD p] ∧ d = .lst ((kindsLet r ls p).map .int)) := by
  have sc : FnScope ["known", "lots", "square", "kind"] ["known", "lots", "square"] (defScope (topS 44)) := ⟨rfl, rfl, rfl, by decide +kernel, rfl, by decide +kernel, by decide +kernel⟩
  refine fn_pure T.kinds_let sc (fun _ _ _ _ _ _ us hl => match us, hl with | [_, _, _], _ => rfl) ?_
  rintro f cdv A outer s H E hr ds d hl ⟨r, ls, p, rfl, rfl⟩
  have hget : (!(getT (ls.map fun q => (sqK q.1, tD q.2)) (sqK p)).isSome) = false → getT (ls.map fun q => (sqK q.1, tD q.2)) (sqK p) = some (tD ((look ls p).getD [])) := fun h => by
    rw [lots_get] at h ⊢
    cases e : look ls p with
    | none => rw [e] at h; cases h
    | some x => rfl
  have hal : ∀ k : Int, (!(getT (ls.map fun q => (sqK q.1, tD q.2)) (sqK p)).isSome || inD (.int k) (((look ls p).getD []).map .int)) = allow ls p k := fun k => by
    rw [lots_get]; unfold allow
    cases e : look ls p with
    | none => rfl
    | some x => rw [in_map eq_int]; rfl
  exact x_one (s_ret (e_lc (own := [("kind", 3)]) (l := kinds r p) (f := .int) (p := allow ls p) (g := .int) (.one 3) rfl sc.nd (i_list (e_call (kinds_in_ok T) hr (a_cons (e_var 0 rfl) (a_cons (e_var 2 rfl) a_nil)) ⟨r, p, rfl, rfl⟩)) (blkOk_by (by kernel_rfl)) (fun _ _ _ _ _ => t_one 3 sc.nd) (fun _ _ => trivial) (by decide) (fun k hk _ _ _ _ _ => ts_one (EvB.cast (EvW.toB (w_or (b_c (c_notInD (rm1 hr) (e_var 2 rfl) (e_var 1 rfl))) fun hh => (w_or1 (b_c (c_in (rm65 hr) (e_var 3 rfl) (e_dget (rm1 hr) (e_var 1 rfl) (e_var 2 rfl) (hget hh)) (by constructor) rfl (lay_ts pl_int _)))))) (hal k))) (fun k _ _ _ _ _ _ _ => (e_var 3 rfl))) rfl)
theorem is_let_behind_ok (T : Tp K mg) : FnI P w K mg bs 2 "is_let_behind" ["known", "ahead", "square", "kind", "above"] (spD 5 fun ds d => ∃ (r : List Sq) (ah : Ah) (p : Sq) (k : Int) (ab : Option Int), (∀ q ∈ r, q.1 = p.1 - 1 → (lookA ah q).isSome = true) ∧ ((p.1, p.2 - 1) ∈ r → ab.isSome = true) ∧ ds = [knownD r, ahD ah, sqD p, .int k, abD ab] ∧ d = .bl (letBehind r ah p k ab)) := by
  have sc : FnScope ["known", "ahead", "square", "kind", "above", "near", "four", "own"] ["known", "ahead", "square", "kind", "above"] (defScope (topS 46)) := ⟨rfl, rfl, rfl, by decide +kernel, rfl, by decide +kernel, by decide +kernel⟩
  refine fn_pure T.is_let_behind sc (fun _ _ _ _ _ _ us hl => match us, hl with | [_, _, _, _, _], _ => rfl) ?_
  rintro f cdv A outer s H E hr ds d hl ⟨r, ah, p, k, ab, h1, h2, rfl, rfl⟩
  refine x_cons (s_asg (d := sqD (p.1 - 1, p.2)) 5 sc.nd (e_tup (a_cons (e_sub (e_ix (e_var 2 rfl) e_int rfl) e_int) (a_cons (e_ix (e_var 2 rfl) e_int rfl) a_nil))) ?_)
  refine x_cons (s_if (p := !decide ((p.1 - 1, p.2) ∈ r)) (EvB.cast (b_c (c_notInD (rm1 hr) (e_var 5 rfl) (e_var 0 rfl))) (by rw [known_in])) (fun z => ?_) fun z => x_nil ?_)
  · exact x_one (s_ret e_bl (by unfold letBehind; rw [if_neg (by simpa using z)]))
  have hn : (p.1 - 1, p.2) ∈ r := by simpa using z
  have ev : letBehind r ah p k ab = (across (at0 ah (p.1 - 1, p.2)) k && (!((fourOf p).all fun q => decide (q ∈ r)) || about (at0 ah (p.1 - 1, p.2 - 1)) (at0 ah (p.1 - 1, p.2)) (ab.getD 0) k)) := if_pos hn
  rw [ev]
  refine x_cons (s_if (p := !across (at0 ah (p.1 - 1, p.2)) k) (b_not (b_v (e_call (fits_across_ok T) hr (a_cons (e_dget (rm1 hr) (e_var 1 rfl) (e_var 5 rfl) (ah_at (h1 _ hn rfl))) (a_cons (e_var 3 rfl) a_nil)) ⟨_, _, rfl, rfl⟩))) (fun z => ?_) fun z => x_nil ?_)
  · rw [Bool.not_eq_true'] at z
    exact x_one (s_ret e_bl (by rw [z]; rfl))
  rw [Bool.not_eq_false'] at z
  rw [z, Bool.true_and]
  refine x_cons (s_asg (d := .tup ((fourOf p).map sqD)) 6 sc.nd (e_call (four_of_ok T) hr (a_cons (e_var 2 rfl) a_nil) ⟨p, rfl, rfl⟩) ?_)
  refine x_cons (s_if (p := !((fourOf p).all fun q => decide (q ∈ r))) (b_not (b_v (e_allM (l := fourOf p) (φ := fun q => decide (q ∈ r)) rfl T.all (e_lc0 (own := [("own", 7)]) (l := fourOf p) (f := sqD) (g := fun q => .bl (decide (q ∈ r))) (.one 7) rfl sc.nd (i_tup (e_var 6 rfl)) (blkOk_by (by kernel_rfl)) (fun _ _ _ _ _ => t_one 7 sc.nd) fun q _ _ _ _ _ _ => Ev.cast (e_c (c_inD (rm1 hr) (e_var 7 rfl) (e_var 0 rfl))) (by rw [known_in]))))) (fun z => ?_) fun z => x_nil ?_)
  · exact x_one (s_ret e_bl (by rw [z]; rfl))
  rw [z, Bool.false_or]
  have hall : ∀ q ∈ fourOf p, q ∈ r := by
    rw [Bool.not_eq_false', List.all_eq_true] at z
    exact fun q hq => of_decide_eq_true (z q hq)
  obtain ⟨i, rfl⟩ : ∃ i, ab = some i := by
    have := h2 (hall _ (by simp [fourOf]))
    cases ab with
    | none => cases this
    | some i => exact ⟨i, rfl⟩
  refine x_one (s_ret (e_call (fits_about_ok T) hr (a_cons (e_tup (a_cons (e_dget (rm1 hr) (e_var 1 rfl) (e_ix (d := sqD (p.1 - 1, p.2 - 1)) (e_var 6 rfl) e_int rfl) (ah_at (h1 _ (hall (p.1 - 1, p.2 - 1) (by simp [fourOf])) rfl))) (a_cons (e_dget (rm1 hr) (e_var 1 rfl) (e_ix (d := sqD (p.1 - 1, p.2)) (e_var 6 rfl) e_int rfl) (ah_at (h1 _ hn rfl))) (a_cons (e_var 4 rfl) (a_cons (e_var 3 rfl) a_nil))))) a_nil) ⟨_, _, _, _, rfl, rfl⟩) rfl)
theorem rows_behind_ok (T : Tp K mg) : FnI P w K mg bs 5 "rows_behind" ["known", "lots", "squares", "ahead"] (spD 4 fun ds d => ∃ (r : List Sq) (ls : Lets) (sqs : List Sq) (ah : Ah), okCol r sqs ah ∧ sqs.length ≤ 7 ∧ ds = [knownD r, lotsD ls, roomD sqs, ahD ah] ∧ d = rowsD (rowsBehind r ls sqs ah)) := by
  have sc : FnScope ["known", "lots", "squares", "ahead", "rows", "square", "kinds", "longer", "row", "is_joined", "above", "fit", "kind"] ["known", "lots", "squares", "ahead"] (defScope (topS 47)) := ⟨rfl, rfl, rfl, by decide +kernel, rfl, by decide +kernel, by decide +kernel⟩
  refine fn_pure T.rows_behind sc (fun _ _ _ _ _ _ us hl => match us, hl with | [_, _, _, _], _ => rfl) ?_
  rintro f cdv A outer s H E hr ds d hl ⟨r, ls, sqs, ah, oc, h7, rfl, rfl⟩
  refine x_cons (s_asg (d := rowsD [[]]) 4 sc.nd (e_lst (a_cons (e_tup a_nil) a_nil)) ?_)
  refine x_cons (s_for (l := sqs) (f := sqD) (.one 5) (fun done ρ' => ∃ a b c e g i j, ρ' = [.dat (knownD r), .dat (lotsD ls), .dat (roomD sqs), .dat (ahD ah), .dat (rowsD (rowsBehind r ls done ah)), a, b, c, e, g, i, j, .any]) rfl (i_tup (e_var 2 rfl)) (t_one 5 sc.nd) (fun _ _ => trivial) ⟨_, _, _, _, _, _, _, rfl⟩ ?_ ?_)
  · rintro done p post hsp ρ' ⟨a, b, c, e, g, i, j, rfl⟩
    have hdl : done.length < 7 := by rw [hsp, List.length_append, List.length_cons] at h7; omega
    have hpm : p ∈ sqs := by rw [hsp]; simp
    have hb1 : (rowsBehind r ls done ah).length ≤ 4 ^ 6 := Nat.le_trans (rowsBehind_le r ls ah done) (Nat.pow_le_pow_right (by decide) (by omega))
    refine x_cons (s_disp2 (i := 6) (j := 7) (l := [(6, .st, .lst ((kindsLet r ls p).map .int)), (7, .fr, .lst [])]) rfl sc.nd (dp 6 (e_call (kinds_let_ok T) hr (a_cons (e_var 0 rfl) (a_cons (e_var 1 rfl) (a_cons (e_var 5 rfl) a_nil))) ⟨r, ls, p, rfl, rfl⟩) (dp 7 (e_lst a_nil) dp_nil)) ?_)
    rintro _ ⟨c1, rfl⟩
    refine x_cons (s_for (l := rowsBehind r ls done ah) (f := tD) (.one 8) (fun dn ρ' => ∃ a b c e, ρ' = [.dat (knownD r), .dat (lotsD ls), .dat (roomD sqs), .dat (ahD ah), .dat (rowsD (rowsBehind r ls done ah)), .dat (sqD p), .dat (.lst ((kindsLet r ls p).map .int)), .own false c1 (rowsD (stepBehind r ah p (kindsLet r ls p) dn)), a, b, c, e, .any]) rfl (i_list (e_var 4 rfl)) (t_one 8 sc.nd) (fun _ _ => trivial) ⟨_, _, _, _, rfl⟩ ?_ ?_)
    · rintro dn row pt hs2 ρ' ⟨a', b', c', e', rfl⟩
      have hrm : row ∈ rowsBehind r ls done ah := by rw [hs2]; simp
      have hrl := rowsBehind_len r ls ah done row hrm
      have hS : stepBehind r ah p (kindsLet r ls p) [row] = (((kindsLet r ls p).filter fun k => decide (k = 4) == joined row).filter fun k => letBehind r ah p k row.getLast?).map fun k => row ++ [k] := by unfold stepBehind; rw [List.flatMap_cons, List.flatMap_nil, List.append_nil]
      have hE : rowsD (stepBehind r ah p (kindsLet r ls p) (dn ++ [row])) = .lst ((stepBehind r ah p (kindsLet r ls p) dn).map tD ++ (((kindsLet r ls p).filter fun k => decide (k = 4) == joined row).filter fun k => letBehind r ah p k row.getLast?).map fun k => tD (row ++ [k])) := by
        rw [stepBehind_app, hS]; unfold rowsD; rw [List.map_append, List.map_map]; rfl
      refine x_cons (s_disp (l := [(9, .st, .bl (joined row)), (10, .st, abD row.getLast?)]) (dp 9 (Ev.cast (e_and (e_c (c_neD (rm64 hr) (e_var 8 rfl) (e_tup a_nil) (shp_tD row) rfl)) fun z => (e_one (e_c (c_eqI (e_ix (e_var 8 rfl) (e_neg e_int) (last_at (ne_of z))) (e_globX T.SOUTH))))) (congrArg D.bl (joined_eq row))) (dp 10 (e_if (b_c (c_neD (rm64 hr) (e_var 8 rfl) (e_tup a_nil) (shp_tD row) rfl)) (fun z => Ev.cast (e_ix (e_var 8 rfl) (e_neg e_int) (last_at (ne_of z))) (ab_some (ne_of z))) fun z => Ev.cast e_non (by rw [ne_of' z]; rfl)) dp_nil)) (t_two 9 10 rfl sc.nd) ?_)
      rintro _ rfl
      refine s_lcF (own := [("kind", 12)]) (l := kindsLet r ls p) (f := .int) (p := fun k => decide (k = 4) == joined row) (g := .int) 11 (.one 12) rfl sc.nd (i_list (e_var 6 rfl)) (blkOk_by (by kernel_rfl)) (fun _ _ _ _ _ => t_one 12 sc.nd) (fun k _ _ _ _ _ _ => ts_one (b_c (c_eqB (e_c (c_eqI (i := k) (e_var 12 rfl) (e_globX T.NORTH))) (e_var 9 rfl)))) (fun k _ _ _ _ _ _ _ => (e_var 12 rfl)) ?_
      refine x_one (s_extend 7 rfl (e_lc (own := [("kind", 12)]) (l := (kindsLet r ls p).filter fun k => decide (k = 4) == joined row) (f := .int) (p := fun k => letBehind r ah p k row.getLast?) (g := fun k => tD (row ++ [k])) (.one 12) rfl sc.nd (i_list (e_var 11 rfl)) (blkOk_by (by kernel_rfl)) (fun _ _ _ _ _ => t_one 12 sc.nd) (fun _ _ => trivial) (by decide) (fun k _ _ _ _ _ _ => ts_one (b_v (e_call (is_let_behind_ok T) hr (a_cons (e_var 0 rfl) (a_cons (e_var 3 rfl) (a_cons (e_var 5 rfl) (a_cons (e_var 12 rfl) (a_cons (e_var 10 rfl) a_nil))))) ⟨r, ah, p, k, row.getLast?, oc.we p hpm, fun hu => ?_, rfl, rfl⟩))) (fun k _ _ _ _ _ _ _ => Ev.cast (e_catT (e_var 8 rfl) (e_tup (a_cons (e_var 12 rfl) a_nil)) ?_) (by unfold tD; rw [List.map_append]; rfl))) (by rw [hE]; exact ⟨_, _, _, _, rfl⟩) ?_)
      · have h0 : row ≠ [] := fun z => by
          have := oc.up done p post hsp hu
          rw [z] at hrl
          exact this (List.length_eq_zero_iff.mp hrl.symm)
        rw [List.getLast?_eq_some_getLast h0]; rfl
      · rw [List.length_map, hrl]
        exact Nat.le_trans (Nat.succ_le_succ (Nat.le_of_lt hdl)) (by decide)
      · have hh := stepBehind_le r ah p (kindsLet r ls p) (kindsLet_sub r ls p) (dn ++ [row])
        have hdr : (dn ++ [row]).length ≤ (rowsBehind r ls done ah).length := by rw [hs2]; simp
        rw [stepBehind_app, List.length_append, hS, List.length_map] at hh
        rw [List.length_map, List.length_map]
        unfold sizeLine
        have h46 : (4 : Nat) ^ 6 = 4096 := by decide
        have h24 : (2 : Nat) ^ 24 = 16777216 := by decide
        omega
    · rintro ρ' ⟨a', b', c', e', rfl⟩
      refine x_freeze 7 rfl ?_
      exact x_one (s_asg 4 sc.nd (e_var 7 rfl) ⟨_, _, _, _, _, _, _, by rw [rowsBehind_snoc]; rfl⟩)
  · rintro ρ' ⟨a, b, c, e, g, i, j, rfl⟩
    exact x_one (s_ret (e_var 4 rfl) rfl)
theorem rows_by_ok (T : Tp K mg) : FnI P w K mg bs 5 "rows_by" ["known", "lots", "squares"] (spD 3 fun ds d => ∃ (r : List Sq) (ls : Lets) (sqs : List Sq), sqs.length ≤ 7 ∧ ds = [knownD r, lotsD ls, roomD sqs] ∧ d = rowsD (rowsBy r ls sqs)) := by
  have sc : FnScope ["known", "lots", "squares", "rows", "square", "kinds", "longer", "row", "is_joined", "kind"] ["known", "lots", "squares"] (defScope (topS 45)) := ⟨rfl, rfl, rfl, by decide +kernel, rfl, by decide +kernel, by decide +kernel⟩
  refine fn_pure T.rows_by sc (fun _ _ _ _ _ _ us hl => match us, hl with | [_, _, _], _ => rfl) ?_
  rintro f cdv A outer s H E hr ds d hl ⟨r, ls, sqs, h7, rfl, rfl⟩
  refine x_cons (s_asg (d := rowsD [[]]) 3 sc.nd (e_lst (a_cons (e_tup a_nil) a_nil)) ?_)
  refine x_cons (s_for (l := sqs) (f := sqD) (.one 4) (fun done ρ' => ∃ a b c e g, ρ' = [.dat (knownD r), .dat (lotsD ls), .dat (roomD sqs), .dat (rowsD (rowsBy r ls done)), a, b, c, e, g, .any]) rfl (i_tup (e_var 2 rfl)) (t_one 4 sc.nd) (fun _ _ => trivial) ⟨_, _, _, _, _, rfl⟩ ?_ ?_)
  · rintro done p post hsp ρ' ⟨a, b, c, e, g, rfl⟩
    have hdl : done.length < 7 := by rw [hsp, List.length_append, List.length_cons] at h7; omega
    have hb1 : (rowsBy r ls done).length ≤ 4 ^ 6 := Nat.le_trans (rowsBy_le r ls done) (Nat.pow_le_pow_right (by decide) (by omega))
    refine x_cons (s_disp2 (i := 5) (j := 6) (l := [(5, .st, .lst ((kindsLet r ls p).map .int)), (6, .fr, .lst [])]) rfl sc.nd (dp 5 (e_call (kinds_let_ok T) hr (a_cons (e_var 0 rfl) (a_cons (e_var 1 rfl) (a_cons (e_var 4 rfl) a_nil))) ⟨r, ls, p, rfl, rfl⟩) (dp 6 (e_lst a_nil) dp_nil)) ?_)
    rintro _ ⟨c1, rfl⟩
    refine x_cons (s_for (l := rowsBy r ls done) (f := tD) (.one 7) (fun dn ρ' => ∃ a b, ρ' = [.dat (knownD r), .dat (lotsD ls), .dat (roomD sqs), .dat (rowsD (rowsBy r ls done)), .dat (sqD p), .dat (.lst ((kindsLet r ls p).map .int)), .own false c1 (rowsD (stepBy (kindsLet r ls p) dn)), a, b, .any]) rfl (i_list (e_var 3 rfl)) (t_one 7 sc.nd) (fun _ _ => trivial) ⟨_, _, rfl⟩ ?_ ?_)
    · rintro dn row pt hs2 ρ' ⟨a', b', rfl⟩
      have hrm : row ∈ rowsBy r ls done := by rw [hs2]; simp
      have hrl := rowsBy_len r ls done row hrm
      have hS : stepBy (kindsLet r ls p) [row] = ((kindsLet r ls p).filter fun k => decide (k = 4) == joined row).map fun k => row ++ [k] := by unfold stepBy; rw [List.flatMap_cons, List.flatMap_nil, List.append_nil]
      have hE : rowsD (stepBy (kindsLet r ls p) (dn ++ [row])) = .lst ((stepBy (kindsLet r ls p) dn).map tD ++ ((kindsLet r ls p).filter fun k => decide (k = 4) == joined row).map fun k => tD (row ++ [k])) := by
        rw [stepBy_app, hS]; unfold rowsD; rw [List.map_append, List.map_map]; rfl
      refine x_cons (s_asg (d := .bl (joined row)) 8 sc.nd (Ev.cast (e_and (e_c (c_neD (rm64 hr) (e_var 7 rfl) (e_tup a_nil) (shp_tD row) rfl)) fun z => (e_one (e_c (c_eqI (e_ix (e_var 7 rfl) (e_neg e_int) (last_at (ne_of z))) (e_globX T.SOUTH))))) (congrArg D.bl (joined_eq row))) ?_)
      refine x_one (s_extend 6 rfl (e_lc (own := [("kind", 9)]) (l := kindsLet r ls p) (f := .int) (p := fun k => decide (k = 4) == joined row) (g := fun k => tD (row ++ [k])) (.one 9) rfl sc.nd (i_list (e_var 5 rfl)) (blkOk_by (by kernel_rfl)) (fun _ _ _ _ _ => t_one 9 sc.nd) (fun _ _ => trivial) (by decide) (fun k _ _ _ _ _ _ => ts_one (b_c (c_eqB (e_c (c_eqI (i := k) (e_var 9 rfl) (e_globX T.NORTH))) (e_var 8 rfl)))) (fun k _ _ _ _ _ _ _ => Ev.cast (e_catT (e_var 7 rfl) (e_tup (a_cons (e_var 9 rfl) a_nil)) ?_) (by unfold tD; rw [List.map_append]; rfl))) (by rw [hE]; exact ⟨_, _, rfl⟩) ?_)
      · rw [List.length_map, hrl]
        exact Nat.le_trans (Nat.succ_le_succ (Nat.le_of_lt hdl)) (by decide)
      · have hh := stepBy_le (kindsLet r ls p) (kindsLet_sub r ls p) (dn ++ [row])
        have hdr : (dn ++ [row]).length ≤ (rowsBy r ls done).length := by rw [hs2]; simp
        rw [stepBy_app, List.length_append, hS, List.length_map] at hh
        rw [List.length_map, List.length_map]
        unfold sizeLine
        have h46 : (4 : Nat) ^ 6 = 4096 := by decide
        have h24 : (2 : Nat) ^ 24 = 16777216 := by decide
        omega
    · rintro ρ' ⟨a', b', rfl⟩
      refine x_freeze 6 rfl ?_
      exact x_one (s_asg 3 sc.nd (e_var 6 rfl) ⟨_, _, _, _, _, by rw [rowsBy_snoc]; rfl⟩)
  · rintro ρ' ⟨a, b, c, e, g, rfl⟩
    exact x_one (s_ret (e_var 3 rfl) rfl)
theorem key_of_ok (T : Tp K mg) : FnI P w K mg bs 1 "key_of" ["row"] (spD 1 fun ds d => ∃ row : List Int, ds = [tD row] ∧ d = tD (key row)) := by
  have sc : FnScope ["row", "kind"] ["row"] (defScope (topS 48)) := ⟨rfl, rfl, rfl, by decide +kernel, rfl, by decide +kernel, by decide +kernel⟩
  refine fn_pure T.key_of sc (fun _ _ _ _ _ _ us hl => match us, hl with | [_], _ => rfl) ?_
  rintro f cdv A outer s H E hr ds d hl ⟨row, rfl, rfl⟩
  exact x_one (s_ret (Ev.cast (e_tupleOf T.tuple (e_lc0 (own := [("kind", 1)]) (l := row) (f := .int) (g := fun k => .int (if k = 3 then 0 else k)) (.one 1) rfl sc.nd (i_tup (e_var 0 rfl)) (blkOk_by (by kernel_rfl)) (fun _ _ _ _ _ => t_one 1 sc.nd) fun k _ _ _ _ _ _ => (e_if (b_c (c_eqI (i := k) (e_var 1 rfl) (e_globX T.WEST))) (fun z => Ev.cast (e_globX T.HALF) (by rw [if_pos (of_decide_eq_true z)])) fun z => Ev.cast (e_var 1 rfl) (by rw [if_neg (of_decide_eq_false z)])))) (by unfold key tD; rw [List.map_map]; rfl)) rfl)
end
end TR
/-! ## D5 -/
set_option Elab.async false
set_option linter.all false
set_option maxRecDepth 100000
namespace TR
open PySem L2
/-! ### how far the rows reach -/
def rtD (l : List (List Int)) : D := .tup (l.map tD)
def rchD (l : List (List (List Int))) : D := .tup (l.map rtD)
def stepR (r : List Sq) (ls : Lets) (c : List Sq) (ahs : List Ah) : List (List Int) := setOf (ahs.flatMap (rowsBehind r ls c))
def nextA (c : List Sq) (rows : List (List Int)) : List Ah := (setOf (rows.map key)).map fun k => c.zip k
def reachSt (r : List Sq) (ls : Lets) (done : List (List Sq)) : List (List (List Int)) × List Ah := done.foldl (fun st c => (st.1 ++ [stepR r ls c st.2], nextA c (stepR r ls c st.2))) ([], [[]])
def reachM (r : List Sq) (ls : Lets) : List (List (List Int)) := (reachSt r ls (cols r)).1
theorem reachSt_snoc (r : List Sq) (ls : Lets) (done : List (List Sq)) (c : List Sq) : reachSt r ls (done ++ [c]) = ((reachSt r ls done).1 ++ [stepR r ls c (reachSt r ls done).2], nextA c (stepR r ls c (reachSt r ls done).2)) := by
  unfold reachSt; rw [List.foldl_append]; rfl
theorem behind_sub {r : List Sq} {ah : Ah} {p : Sq} {ks : List Int} {a b : List (List Int)} (h : ∀ x ∈ a, x ∈ b) : ∀ x ∈ stepBehind r ah p ks a, x ∈ stepBy ks b := by
  intro x hx
  obtain ⟨row, hr, hx⟩ := List.mem_flatMap.mp hx
  obtain ⟨k, hk, rfl⟩ := List.mem_map.mp hx
  exact List.mem_flatMap.mpr ⟨row, h row hr, List.mem_map.mpr ⟨k, (List.mem_filter.mp hk).1, rfl⟩⟩
theorem rowsBehind_by (r : List Sq) (ls : Lets) (ah : Ah) (sqs : List Sq) : ∀ x ∈ rowsBehind r ls sqs ah, x ∈ rowsBy r ls sqs := by
  induction sqs using snocRec with
  | h0 => intro x h; exact h
  | h1 sqs p ih => rw [rowsBehind_snoc, rowsBy_snoc]; exact behind_sub ih
theorem stepR_by (r : List Sq) (ls : Lets) (c : List Sq) (ahs : List Ah) : ∀ x ∈ stepR r ls c ahs, x ∈ rowsBy r ls c := by
  intro x hx
  obtain ⟨ah, _, hx⟩ := List.mem_flatMap.mp (setOf_mem.mp hx)
  exact rowsBehind_by r ls ah c x hx
theorem stepR_le (r : List Sq) (ls : Lets) (c : List Sq) (ahs : List Ah) : (stepR r ls c ahs).length ≤ (rowsBy r ls c).length := (setOf_nodup _).length_le_of_subset (stepR_by r ls c ahs)
theorem setOf_le (l : List (List Int)) : (setOf l).length ≤ l.length := (setOf_nodup _).length_le_of_subset fun _ hx => setOf_mem.mp hx
theorem nextA_le (c : List Sq) (rows : List (List Int)) : (nextA c rows).length ≤ rows.length := by
  unfold nextA; rw [List.length_map]; exact Nat.le_trans (setOf_le _) (by rw [List.length_map]; exact Nat.le_refl _)
/-- what the walks take of a room and its lets -/
structure okW (r : List Sq) (ls : Lets) : Prop where
  x : okX r
  nd : r.Nodup
  ld : (ls.map (·.1)).Nodup
  c7 : ∀ c ∈ cols r, c.length ≤ 7
  cnt : ∀ c ∈ cols r, (rowsBy r ls c).length ≤ 1024
  col : ∀ d c e, cols r = d ++ c :: e → ∀ ah ∈ (reachSt r ls d).2, okCol r c ah
theorem col_nd {r : List Sq} (h : r.Nodup) (x : Int) : (col r x).Nodup := h.filter _
theorem cols_nd {r : List Sq} (h : r.Nodup) {c : List Sq} (hc : c ∈ cols r) : c.Nodup := by
  obtain ⟨x, _, rfl⟩ := List.mem_map.mp hc
  exact col_nd h x
theorem sq_nd {c : List Sq} (h : c.Nodup) : (c.map sqK).Nodup := List.Pairwise.map sqK (fun a b n e => n (sqK_inj e)) h
theorem lots_ps {ls : Lets} : IsPs (letsS ls) (ls.map fun q => (sqK q.1, tD q.2)) := by
  have e : letsS ls = .stp ((ls.map fun q => (sqK q.1, tD q.2)).map prD) := by unfold letsS; rw [List.map_map]; rfl
  rw [e]; exact .stp _
theorem lots_nd {ls : Lets} (h : (ls.map (·.1)).Nodup) : ((ls.map fun q => (sqK q.1, tD q.2)).map (·.1)).Nodup := by
  have e : ((ls.map fun q => (sqK q.1, tD q.2)).map (·.1)) = (ls.map (·.1)).map sqK := by rw [List.map_map, List.map_map]; rfl
  rw [e]; exact sq_nd h
theorem reachSt_len (r : List Sq) (ls : Lets) (done : List (List Sq)) : (reachSt r ls done).1.length = done.length := by
  induction done using snocRec with
  | h0 => rfl
  | h1 d c ih => rw [reachSt_snoc, List.length_append, List.length_append, ih]; rfl
theorem cols_len {r : List Sq} (h : okX r) : (cols r).length ≤ 100001 := by
  unfold cols xs
  rw [List.length_map, List.length_map, List.length_range]
  have := h.2.1
  have := h.2.2.2
  omega
theorem roomK (c : List Sq) : roomD c = .tup ((c.map sqK).map tD) := by
  unfold roomD; rw [List.map_map]; rfl
theorem zipAh (c : List Sq) (k : List Int) : (D.dT ((c.map sqK).zip (k.map .int))) = ahD (c.zip k) := by
  unfold ahD; rw [List.zip_map]; rfl
section
variable {P : Program} {w : World} {K : PySem.W.Frag} {mg : Str → Option Value} {bs : Heap}
theorem reaches_in_ok (T : Tp K mg) : FnI P w K mg bs 6 "reaches_in" ["room", "lets"] (spD 2 fun ds d => ∃ (r : List Sq) (ls : Lets), okW r ls ∧ ds = [roomD r, letsS ls] ∧ d = rchD (reachM r ls)) := by
  have sc : FnScope ["room", "lets", "known", "lots", "found", "aheads", "squares", "rows", "ahead", "key", "row"] ["room", "lets"] (defScope (topS 49)) := ⟨rfl, rfl, rfl, by decide +kernel, rfl, by decide +kernel, by decide +kernel⟩
  refine fn_pure T.reaches_in sc (fun _ _ _ _ _ _ us hl => match us, hl with | [_, _], _ => rfl) ?_
  rintro f cdv A outer s H E hr ds d hl ⟨r, ls, ok, rfl, rfl⟩
  refine x_cons (s_disp (l := [(2, .st, knownD r), (3, .fr, lotsD ls), (4, .fr, .lst []), (5, .fr, .lst [ahD []])]) (dp 2 (e_call (known_of_ok T) hr (a_cons (e_var 0 rfl) a_nil) ⟨r, ok.nd, rfl, rfl⟩) (dp 3 (e_dictS rfl (rm64 hr) T.dict (e_var 1 rfl) lots_ps (lots_nd ok.ld)) (dp 4 (e_lst a_nil) (dp 5 (e_lst (a_cons e_dnewT a_nil)) dp_nil)))) (t_four 2 3 4 5 rfl sc.nd) ?_)
  rintro _ ⟨c1, c2, c3, rfl⟩
  refine x_freeze 3 rfl ?_
  refine x_freeze 5 rfl ?_
  refine x_cons (s_for (l := cols r) (f := roomD) (.one 6) (fun done ρ' => ∃ a b c, ρ' = [.dat (roomD r), .dat (letsS ls), .dat (knownD r), .dat (lotsD ls), .own false c2 (.lst ((reachSt r ls done).1.map rtD)), .dat (.lst ((reachSt r ls done).2.map ahD)), a, b, c, .any, .any]) rfl (i_list (e_call (columns_in_ok T) hr (a_cons (e_var 0 rfl) a_nil) ⟨r, ok.x, rfl, rfl⟩)) (t_one 6 sc.nd) (fun _ _ => trivial) ⟨_, _, _, rfl⟩ ?_ ?_)
  · rintro done c post hsp ρ' ⟨a, b, g, rfl⟩
    have hc : c ∈ cols r := by rw [hsp]; simp
    have h7 := ok.c7 c hc
    have hcn := ok.cnt c hc
    have hal : (reachSt r ls done).2.length ≤ 1024 := by
      rcases List.eq_nil_or_concat done with rfl | ⟨dn, c0, rfl⟩
      · exact Nat.le_of_ble_eq_true rfl
      · rw [List.concat_eq_append] at hsp ⊢
        rw [reachSt_snoc]
        refine Nat.le_trans (nextA_le _ _) (Nat.le_trans (stepR_le _ _ _ _) (ok.cnt c0 ?_))
        rw [hsp]; simp
    refine x_cons (s_own (d := .lst []) 7 sc.nd (e_lst a_nil) fun c4 => ?_)
    refine x_cons (s_for (l := (reachSt r ls done).2) (f := ahD) (.one 8) (fun dn ρ' => ∃ a, ρ' = [.dat (roomD r), .dat (letsS ls), .dat (knownD r), .dat (lotsD ls), .own false c2 (.lst ((reachSt r ls done).1.map rtD)), .dat (.lst ((reachSt r ls done).2.map ahD)), .dat (roomD c), .own false c4 (rowsD (dn.flatMap (rowsBehind r ls c))), a, .any, .any]) rfl (i_list (e_var 5 rfl)) (t_one 8 sc.nd) (fun _ _ => trivial) ⟨_, rfl⟩ ?_ ?_)
    · rintro dn ah pt hs2 ρ' ⟨a', rfl⟩
      have ham : ah ∈ (reachSt r ls done).2 := by rw [hs2]; simp
      have hdn : dn.length ≤ 1023 := by rw [hs2, List.length_append, List.length_cons] at hal; omega
      have hE : rowsD ((dn ++ [ah]).flatMap (rowsBehind r ls c)) = .lst ((dn.flatMap (rowsBehind r ls c)).map tD ++ (rowsBehind r ls c ah).map tD) := by
        rw [List.flatMap_append, List.flatMap_cons, List.flatMap_nil, List.append_nil]; unfold rowsD; rw [List.map_append]
      refine x_one (s_extend 7 rfl (e_call (rows_behind_ok T) hr (a_cons (e_var 2 rfl) (a_cons (e_var 3 rfl) (a_cons (e_var 6 rfl) (a_cons (e_var 8 rfl) a_nil)))) ⟨r, ls, c, ah, ok.col done c post hsp ah ham, h7, rfl, rfl⟩) (by rw [hE]; exact ⟨_, rfl⟩) ?_)
      have hfm : ∀ l : List Ah, (l.flatMap (rowsBehind r ls c)).length ≤ 4 ^ 7 * l.length := fun l => by
        induction l with
        | nil => exact Nat.le_refl _
        | cons x l ih =>
          have h1 := Nat.le_trans (rowsBehind_le r ls x c) (Nat.pow_le_pow_right (by decide) h7)
          rw [List.flatMap_cons, List.length_append, List.length_cons]
          omega
      have h1 := hfm dn
      have h2 := Nat.le_trans (rowsBehind_le r ls ah c) (Nat.pow_le_pow_right (by decide) h7)
      rw [List.length_map, List.length_map]
      unfold sizeLine
      have h47 : (4 : Nat) ^ 7 = 16384 := by decide
      have h24 : (2 : Nat) ^ 24 = 16777216 := by decide
      omega
    · rintro ρ' ⟨a', rfl⟩
      refine x_freeze 7 rfl ?_
      have hne : (∀ x ∈ (reachSt r ls done).2.flatMap (rowsBehind r ls c), x ≠ []) ∨ ∀ x ∈ (reachSt r ls done).2.flatMap (rowsBehind r ls c), x = [] := by
        have hlen : ∀ x ∈ (reachSt r ls done).2.flatMap (rowsBehind r ls c), x.length = c.length := fun x hx => by
          obtain ⟨ah, _, hx⟩ := List.mem_flatMap.mp hx
          exact rowsBehind_len r ls ah c x hx
        by_cases h0 : c.length = 0
        · right; intro x hx; exact List.length_eq_zero_iff.mp ((hlen x hx).trans h0)
        · left; intro x hx z; have := hlen x hx; rw [z] at this; exact h0 this.symm
      refine x_cons (s_append (d := rtD (stepR r ls c (reachSt r ls done).2)) 4 rfl (e_call (set_of_ok T) hr (a_cons (e_var 7 rfl) a_nil) ⟨_, rowsBy r ls c, fun x hx => ?_, Nat.le_trans hcn (by decide), hne, rfl, rfl⟩) ?_ ?_)
      · obtain ⟨ah, _, hx⟩ := List.mem_flatMap.mp hx
        exact rowsBehind_by r ls ah c x hx
      · have hix : atI ((reachSt r ls done).1.map rtD ++ [rtD (stepR r ls c (reachSt r ls done).2)]) (-1) = some (rtD (stepR r ls c (reachSt r ls done).2)) := by
          unfold atI ixN
          rw [if_neg (by decide), if_pos (by rw [List.length_append, List.length_singleton]; omega), Option.bind_some, List.length_append, List.length_singleton]
          rw [show (-1 + (((((reachSt r ls done).1.map rtD).length + 1 : Nat)) : Int)).toNat = ((reachSt r ls done).1.map rtD).length by omega]
          exact List.getElem?_concat_length
        refine s_lc0 (own := [("key", 9)]) (l := setOf ((stepR r ls c (reachSt r ls done).2).map key)) (f := tD) (g := fun k => ahD (c.zip k)) 5 (.one 9) rfl sc.nd (i_tup (e_call (set_of_ok T) hr (a_cons (e_lc0 (own := [("row", 10)]) (l := stepR r ls c (reachSt r ls done).2) (f := tD) (g := fun row => tD (key row)) (.one 10) rfl sc.nd (i_tup (e_ix (e_own 4 rfl) (e_neg e_int) hix)) (blkOk_by (by kernel_rfl)) (fun _ _ _ _ _ => t_one 10 sc.nd) fun row _ _ _ _ _ _ => e_call (key_of_ok T) hr (a_cons (e_var 10 rfl) a_nil) ⟨row, rfl, rfl⟩) a_nil) ⟨_, (stepR r ls c (reachSt r ls done).2).map key, fun x hx => hx, ?_, ?_, by rw [List.map_map]; rfl, rfl⟩)) (blkOk_by (by kernel_rfl)) (fun _ _ _ _ _ => t_one 9 sc.nd) (fun k _ _ _ _ _ _ => Ev.cast (e_dictZip rfl (rm64 hr) T.dict T.zip (Ev.cast (e_var 6 rfl) (roomK c)) (e_var 9 rfl) (sq_nd (cols_nd ok.nd hc))) (zipAh c k)) ?_
        · rw [List.length_map]; exact Nat.le_trans (Nat.le_trans (stepR_le _ _ _ _) hcn) (by decide)
        · have hl2 : ∀ x ∈ (stepR r ls c (reachSt r ls done).2).map key, x.length = c.length := fun x hx => by
            obtain ⟨y, hy, rfl⟩ := List.mem_map.mp hx
            unfold key
            rw [List.length_map]
            exact rowsBy_len r ls c y (stepR_by r ls c _ y hy)
          by_cases h0 : c.length = 0
          · right; intro x hx; exact List.length_eq_zero_iff.mp ((hl2 x hx).trans h0)
          · left; intro x hx z; have := hl2 x hx; rw [z] at this; exact h0 this.symm
        · exact x_nil ⟨_, _, _, by rw [reachSt_snoc]; unfold nextA; rw [List.map_append, List.map_map]; rfl⟩
      · rw [List.length_map, reachSt_len]
        have h1 := cols_len ok.x
        rw [hsp, List.length_append, List.length_cons] at h1
        unfold sizeLine
        have h24 : (2 : Nat) ^ 24 = 16777216 := by decide
        omega
  · rintro ρ' ⟨a, b, c, rfl⟩
    exact x_one (s_ret (e_tupleOf T.tuple (e_own 4 rfl)) rfl)
end
end TR
/-! ## D6 -/
set_option Elab.async false
set_option linter.all false
set_option maxRecDepth 100000
set_option maxHeartbeats 2000000
namespace TR
open PySem L2
def ArgR (r : List Sq) (t : D) : Prop := dep t ≤ 4 ∧ tupD t = roomD r
def ArgL (ls : Lets) (t : D) : Prop := dep t ≤ 4 ∧ tupS t = letsS ls
structure okF (r : List Sq) (ls : Lets) : Prop where
  rm : okR r
  le : okL r ls
  w : okW r ls
theorem t_three {X : Cx} {x y z : Str} {k : Nat} {p1 p2 p3 pos : Pos} (i j m : Nat) (hc : X.calm = true) (hN : X.N.Nodup) (hi : X.N[i]? = some x := by rfl) (hx : Loc X.env.scope x := by first | exact Or.inl rfl | exact Or.inr rfl) (hf : X.fn x = true ∨ X.env.scope.names.lookup x = some .local := by first | exact .inl rfl | exact .inr rfl | assumption)
    (hj : X.N[j]? = some y := by rfl) (hy : Loc X.env.scope y := by first | exact Or.inl rfl | exact Or.inr rfl) (hf2 : X.fn y = true ∨ X.env.scope.names.lookup y = some .local := by first | exact .inl rfl | exact .inr rfl | assumption)
    (hm : X.N[m]? = some z := by rfl) (hz : Loc X.env.scope z := by first | exact Or.inl rfl | exact Or.inr rfl) (hf3 : X.fn z = true ∨ X.env.scope.names.lookup z = some .local := by first | exact .inl rfl | exact .inr rfl | assumption) : TgOk X (.Tuple [.Name x p1, .Name y p2, .Name z p3] k pos) (.tup [i, j, m]) :=
  pg_tup hc (pgs_cons (pg_name hN hi hx hf) (pgs_cons (pg_name hN hj hy hf2) (pgs_cons (pg_name hN hm hz hf3) pgs_nil)))
theorem last_map {l : List (List (List Int))} {a : List (List Int)} (h : l.getLast? = some a) : atI (l.map rtD) (-1) = some (rtD a) := by
  have hl : 0 < l.length := by cases l with | nil => cases h | cons _ _ => simp
  unfold atI ixN
  rw [List.length_map, if_neg (by decide), if_pos (by omega)]
  show (l.map rtD)[(-1 + (l.length : Int)).toNat]? = _
  rw [show (-1 + (l.length : Int)).toNat = l.length - 1 by omega, List.getElem?_map, ← List.getLast?_eq_getElem?, h]; rfl
theorem lookA_mem {ah : Ah} {p : Sq} : (lookA ah p).isSome = true ↔ p ∈ ah.map (·.1) := by
  unfold lookA
  rw [Option.isSome_map, List.find?_isSome, List.mem_map]
  constructor
  · rintro ⟨q, hq, e⟩; exact ⟨q, hq, of_decide_eq_true e⟩
  · rintro ⟨q, hq, e⟩; exact ⟨q, hq, decide_eq_true e⟩
theorem zip_keys {c : List Sq} {k : List Int} (h : k.length = c.length) : (c.zip k).map (·.1) = c := List.map_fst_zip (Nat.le_of_eq h.symm)
/-- a row behind another -/
def westA (r : List Sq) (x : Int) (ahead : List Int) : Ah := (col r (x - 1)).zip ahead
def eastA (r : List Sq) (x : Int) (row : List Int) : Ah := (col r x).zip row
def bothA (W E : Ah) (x : Int) : List Sq := (E.map (·.1)).filter fun p => (lookA W (x - 1, p.2)).isSome
def rowFits (r : List Sq) (x : Int) (ahead row : List Int) : Bool :=
  let W := westA r x ahead
  let E := eastA r x row
  ((bothA W E x).all fun p => across (at0 W (x - 1, p.2)) (at0 E p)) && (((bothA W E x).filter fun p => (fourOf p).all fun q => decide (q ∈ r)).all fun p => about (at0 W (p.1 - 1, p.2 - 1)) (at0 W (p.1 - 1, p.2)) (at0 E (p.1, p.2 - 1)) (at0 E (p.1, p.2)))
section
variable {P : Program} {w : World} {K : PySem.W.Frag} {mg : Str → Option Value} {bs : Heap}
theorem fit_lets_ok (T : Tp K mg) : FnI P w K mg bs 7 "fit_lets" ["room", "lets"] (spD 2 fun ds d => ∃ (r : List Sq) (ls : Lets) (t u : D), okF r ls ∧ ArgR r t ∧ ArgL ls u ∧ ds = [t, u] ∧ d = .tup [roomD r, letsS ls]) := by
  have sc : FnScope ["room", "lets", "own", "told"] ["room", "lets"] (defScope (topS 53)) := ⟨rfl, rfl, rfl, by decide +kernel, rfl, by decide +kernel, by decide +kernel⟩
  refine fn_pure T.fit_lets sc (fun _ _ _ _ _ _ us hl => match us, hl with | [_, _], _ => rfl) ?_
  rintro f cdv A outer s H E hr ds d hl ⟨r, ls, t, u, ok, at_, au, rfl, rfl⟩
  refine x_cons (s_asg (d := roomD r) 2 sc.nd (e_call (sure_room_ok T) hr (a_cons (e_var 0 rfl) a_nil) ⟨r, t, ok.rm, rfl, at_.1, at_.2, rfl⟩) ?_)
  refine x_cons (s_asg (d := letsS ls) 3 sc.nd (e_call (sure_lets_ok T) hr (a_cons (e_var 2 rfl) (a_cons (e_var 1 rfl) a_nil)) ⟨r, ls, u, ok.w.nd, ok.le, rfl, au.1, au.2, rfl⟩) ?_)
  refine x_cons (s_expr (d := .non) (e_call (refuse_wide_ok T) hr (a_cons (e_var 2 rfl) a_nil) ⟨r, ok.w.x, ok.w.c7, rfl, rfl⟩) ?_)
  exact x_one (s_ret (e_tup (a_cons (e_var 2 rfl) (a_cons (e_var 3 rfl) a_nil))) rfl)
theorem fit_lets_at_ok (T : Tp K mg) : FnI P w K mg bs 7 "fit_lets_at" ["room", "lets", "x"] (spD 3 fun ds d => ∃ (r : List Sq) (ls : Lets) (t u : D) (x : Int), okF r ls ∧ ArgR r t ∧ ArgL ls u ∧ ds = [t, u, .int x] ∧ d = .tup [roomD r, letsS ls, .int x]) := by
  have sc : FnScope ["room", "lets", "x", "own", "told", "number"] ["room", "lets", "x"] (defScope (topS 54)) := ⟨rfl, rfl, rfl, by decide +kernel, rfl, by decide +kernel, by decide +kernel⟩
  refine fn_pure T.fit_lets_at sc (fun _ _ _ _ _ _ us hl => match us, hl with | [_, _, _], _ => rfl) ?_
  rintro f cdv A outer s H E hr ds d hl ⟨r, ls, t, u, x, ok, at_, au, rfl, rfl⟩
  refine x_cons (s_asg (d := roomD r) 3 sc.nd (e_call (sure_room_ok T) hr (a_cons (e_var 0 rfl) a_nil) ⟨r, t, ok.rm, rfl, at_.1, at_.2, rfl⟩) ?_)
  refine x_cons (s_disp2 (i := 4) (j := 5) (l := [(4, .st, letsS ls), (5, .st, .int x)]) rfl sc.nd (dp 4 (e_call (sure_lets_ok T) hr (a_cons (e_var 3 rfl) (a_cons (e_var 1 rfl) a_nil)) ⟨r, ls, u, ok.w.nd, ok.le, rfl, au.1, au.2, rfl⟩) (dp 5 (e_call (sure_x_ok T) hr (a_cons (e_var 2 rfl) a_nil) ⟨x, rfl, rfl⟩) dp_nil)) ?_)
  rintro _ rfl
  refine x_cons (s_expr (d := .non) (e_call (refuse_wide_ok T) hr (a_cons (e_var 3 rfl) a_nil) ⟨r, ok.w.x, ok.w.c7, rfl, rfl⟩) ?_)
  exact x_one (s_ret (e_tup (a_cons (e_var 3 rfl) (a_cons (e_var 4 rfl) (a_cons (e_var 5 rfl) a_nil)))) rfl)
theorem column_ok (T : Tp K mg) : FnI P w K mg bs 7 "column" ["room", "x"] (spD 2 fun ds d => ∃ (r : List Sq) (t : D) (x : Int), okR r ∧ ArgR r t ∧ ds = [t, .int x] ∧ d = roomD (col r x)) := by
  have sc : FnScope ["room", "x", "own"] ["room", "x"] (defScope (topS 55)) := ⟨rfl, rfl, rfl, by decide +kernel, rfl, by decide +kernel, by decide +kernel⟩
  refine fn_pure T.column sc (fun _ _ _ _ _ _ us hl => match us, hl with | [_, _], _ => rfl) ?_
  rintro f cdv A outer s H E hr ds d hl ⟨r, t, x, ok, at_, rfl, rfl⟩
  refine x_cons (s_asg (d := roomD r) 2 sc.nd (e_call (sure_room_ok T) hr (a_cons (e_var 0 rfl) a_nil) ⟨r, t, ok, rfl, at_.1, at_.2, rfl⟩) ?_)
  exact x_one (s_ret (e_call (column_at_ok T) hr (a_cons (e_var 2 rfl) (a_cons (e_call (sure_x_ok T) hr (a_cons (e_var 1 rfl) a_nil) ⟨x, rfl, rfl⟩) a_nil)) ⟨r, x, rfl, rfl⟩) rfl)
theorem rows_at_ok (T : Tp K mg) : FnI P w K mg bs 8 "rows_at" ["room", "lets", "x"] (spD 3 fun ds d => ∃ (r : List Sq) (ls : Lets) (t u : D) (x : Int), okF r ls ∧ (col r x).length ≤ 7 ∧ (rowsBy r ls (col r x)).length ≤ 1024 ∧ ArgR r t ∧ ArgL ls u ∧ ds = [t, u, .int x] ∧ d = rtD (setOf (rowsBy r ls (col r x)))) := by
  have sc : FnScope ["room", "lets", "x", "own", "told", "number"] ["room", "lets", "x"] (defScope (topS 56)) := ⟨rfl, rfl, rfl, by decide +kernel, rfl, by decide +kernel, by decide +kernel⟩
  refine fn_pure T.rows_at sc (fun _ _ _ _ _ _ us hl => match us, hl with | [_, _, _], _ => rfl) ?_
  rintro f cdv A outer s H E hr ds d hl ⟨r, ls, t, u, x, ok, c7, cnt, at_, au, rfl, rfl⟩
  refine x_cons (s_unp (js := [3, 4, 5]) (t_three 3 4 5 rfl sc.nd) (e_call (fit_lets_at_ok T) hr (a_cons (e_var 0 rfl) (a_cons (e_var 1 rfl) (a_cons (e_var 2 rfl) a_nil))) ⟨r, ls, t, u, x, ok, at_, au, rfl, rfl⟩) ?_)
  refine x_one (s_ret (e_call (set_of_ok T) hr (a_cons (e_call (rows_by_ok T) hr (a_cons (e_call (known_of_ok T) hr (a_cons (e_var 3 rfl) a_nil) ⟨r, ok.w.nd, rfl, rfl⟩) (a_cons (e_dictS rfl (rm64 hr) T.dict (e_var 4 rfl) lots_ps (lots_nd ok.w.ld)) (a_cons (e_call (column_at_ok T) hr (a_cons (e_var 3 rfl) (a_cons (e_var 5 rfl) a_nil)) ⟨r, x, rfl, rfl⟩) a_nil))) ⟨r, ls, col r x, c7, rfl, rfl⟩) a_nil) ⟨_, rowsBy r ls (col r x), fun _ h => h, Nat.le_trans cnt (by decide), ?_, rfl, rfl⟩) rfl)
  have hlen := rowsBy_len r ls (col r x)
  by_cases h0 : (col r x).length = 0
  · right; intro x hx; exact List.length_eq_zero_iff.mp ((hlen x hx).trans h0)
  · left; intro x hx z; have := hlen x hx; rw [z] at this; exact h0 this.symm
theorem reaches_ok (T : Tp K mg) : FnI P w K mg bs 8 "reaches" ["room", "lets"] (spD 2 fun ds d => ∃ (r : List Sq) (ls : Lets) (t u : D), okF r ls ∧ ArgR r t ∧ ArgL ls u ∧ ds = [t, u] ∧ d = rchD (reachM r ls)) := by
  have sc : FnScope ["room", "lets", "own", "told"] ["room", "lets"] (defScope (topS 58)) := ⟨rfl, rfl, rfl, by decide +kernel, rfl, by decide +kernel, by decide +kernel⟩
  refine fn_pure T.reaches sc (fun _ _ _ _ _ _ us hl => match us, hl with | [_, _], _ => rfl) ?_
  rintro f cdv A outer s H E hr ds d hl ⟨r, ls, t, u, ok, at_, au, rfl, rfl⟩
  refine x_cons (s_unp (js := [2, 3]) (t_two 2 3 rfl sc.nd) (e_call (fit_lets_ok T) hr (a_cons (e_var 0 rfl) (a_cons (e_var 1 rfl) a_nil)) ⟨r, ls, t, u, ok, at_, au, rfl, rfl⟩) ?_)
  exact x_one (s_ret (e_call (reaches_in_ok T) hr (a_cons (e_var 2 rfl) (a_cons (e_var 3 rfl) a_nil)) ⟨r, ls, ok.w, rfl, rfl⟩) rfl)
theorem is_shut_in_ok (T : Tp K mg) : FnI P w K mg bs 7 "is_shut_in" ["room", "lets"] (spD 2 fun ds d => ∃ (r : List Sq) (ls : Lets) (last : List (List Int)), okW r ls ∧ (reachM r ls).getLast? = some last ∧ ds = [roomD r, letsS ls] ∧ d = .bl (decide (last = []))) := by
  have sc : FnScope ["room", "lets"] ["room", "lets"] (defScope (topS 50)) := ⟨rfl, rfl, rfl, by decide +kernel, rfl, by decide +kernel, by decide +kernel⟩
  refine fn_pure T.is_shut_in sc (fun _ _ _ _ _ _ us hl => match us, hl with | [_, _], _ => rfl) ?_
  rintro f cdv A outer s H E hr ds d hl ⟨r, ls, last, ok, hla, rfl, rfl⟩
  exact x_one (s_ret (Ev.cast (e_c (c_eqD (rm64 hr) (e_ix (e_call (reaches_in_ok T) hr (a_cons (e_var 0 rfl) (a_cons (e_var 1 rfl) a_nil)) ⟨r, ls, ok, rfl, rfl⟩) (e_neg e_int) (last_map hla)) (e_tup a_nil) (pl_tup pl_tD last).shp rfl)) (congrArg D.bl (eq_tup eq_tD last []))) rfl)
theorem is_shut_ok (T : Tp K mg) : FnI P w K mg bs 8 "is_shut" ["room", "lets"] (spD 2 fun ds d => ∃ (r : List Sq) (ls : Lets) (t u : D) (last : List (List Int)), okF r ls ∧ ArgR r t ∧ ArgL ls u ∧ (reachM r ls).getLast? = some last ∧ ds = [t, u] ∧ d = .bl (decide (last = []))) := by
  have sc : FnScope ["room", "lets", "own", "told"] ["room", "lets"] (defScope (topS 61)) := ⟨rfl, rfl, rfl, by decide +kernel, rfl, by decide +kernel, by decide +kernel⟩
  refine fn_pure T.is_shut sc (fun _ _ _ _ _ _ us hl => match us, hl with | [_, _], _ => rfl) ?_
  rintro f cdv A outer s H E hr ds d hl ⟨r, ls, t, u, last, ok, at_, au, hla, rfl, rfl⟩
  refine x_cons (s_unp (js := [2, 3]) (t_two 2 3 rfl sc.nd) (e_call (fit_lets_ok T) hr (a_cons (e_var 0 rfl) (a_cons (e_var 1 rfl) a_nil)) ⟨r, ls, t, u, ok, at_, au, rfl, rfl⟩) ?_)
  exact x_one (s_ret (e_call (is_shut_in_ok T) hr (a_cons (e_var 2 rfl) (a_cons (e_var 3 rfl) a_nil)) ⟨r, ls, last, ok.w, hla, rfl, rfl⟩) rfl)
theorem how_far_ok (T : Tp K mg) : FnI P w K mg bs 8 "how_far" ["room", "lets"] (spD 2 fun ds d => ∃ (r : List Sq) (ls : Lets) (t u : D), okF r ls ∧ ArgR r t ∧ ArgL ls u ∧ ds = [t, u] ∧ d = .int (((reachM r ls).filter fun l => !decide (l = [])).length : Nat)) := by
  have sc : FnScope ["room", "lets", "own", "told", "rows"] ["room", "lets"] (defScope (topS 62)) := ⟨rfl, rfl, rfl, by decide +kernel, rfl, by decide +kernel, by decide +kernel⟩
  refine fn_pure T.how_far sc (fun _ _ _ _ _ _ us hl => match us, hl with | [_, _], _ => rfl) ?_
  rintro f cdv A outer s H E hr ds d hl ⟨r, ls, t, u, ok, at_, au, rfl, rfl⟩
  refine x_cons (s_unp (js := [2, 3]) (t_two 2 3 rfl sc.nd) (e_call (fit_lets_ok T) hr (a_cons (e_var 0 rfl) (a_cons (e_var 1 rfl) a_nil)) ⟨r, ls, t, u, ok, at_, au, rfl, rfl⟩) ?_)
  exact x_one (s_ret (Ev.cast (e_len T.len (e_lc (own := [("rows", 4)]) (l := reachM r ls) (f := rtD) (p := fun l => !decide (l = [])) (g := rtD) (.one 4) rfl sc.nd (i_tup (e_call (reaches_in_ok T) hr (a_cons (e_var 2 rfl) (a_cons (e_var 3 rfl) a_nil)) ⟨r, ls, ok.w, rfl, rfl⟩)) (blkOk_by (by kernel_rfl)) (fun _ _ _ _ _ => t_one 4 sc.nd) (fun _ _ => trivial) (by decide) (fun l _ _ _ _ _ _ => ts_one (EvB.cast (b_c (c_neD (rm64 hr) (e_var 4 rfl) (e_tup a_nil) (pl_tup pl_tD l).shp rfl)) (congrArg Bool.not (eq_tup eq_tD l [])))) (fun l _ _ _ _ _ _ _ => (e_var 4 rfl)))) (by rw [List.length_map])) rfl)
theorem row_fits_ok (T : Tp K mg) : FnI P w K mg bs 2 "row_fits" ["room", "x", "ahead", "row"] (spD 4 fun ds d => ∃ (r : List Sq) (x : Int) (ahead row : List Int), r.Nodup ∧ ahead.length = (col r (x - 1)).length ∧ row.length = (col r x).length ∧ ds = [roomD r, .int x, tD ahead, tD row] ∧ d = .bl (rowFits r x ahead row)) := by
  have sc : FnScope ["room", "x", "ahead", "row", "west", "east", "both", "known", "points", "fours", "square", "own", "point", "four"] ["room", "x", "ahead", "row"] (defScope (topS 51)) := ⟨rfl, rfl, rfl, by decide +kernel, rfl, by decide +kernel, by decide +kernel⟩
  refine fn_pure T.row_fits sc (fun _ _ _ _ _ _ us hl => match us, hl with | [_, _, _, _], _ => rfl) ?_
  rintro f cdv A outer s H E hr ds d hl ⟨r, x, ahead, row, nd, la, lr, rfl, rfl⟩
  obtain ⟨W, hW⟩ : ∃ W, W = westA r x ahead := ⟨_, rfl⟩
  obtain ⟨Ea, hEa⟩ : ∃ W, W = eastA r x row := ⟨_, rfl⟩
  have kW : W.map (·.1) = col r (x - 1) := by rw [hW]; exact zip_keys la
  have kE : Ea.map (·.1) = col r x := by rw [hEa]; exact zip_keys lr
  have hwest : ∀ q ∈ r, q.1 = x - 1 → (lookA W q).isSome = true := fun q hq e => lookA_mem.mpr (by rw [kW]; exact List.mem_filter.mpr ⟨hq, decide_eq_true e⟩)
  have heast : ∀ q ∈ r, q.1 = x → (lookA Ea q).isSome = true := fun q hq e => lookA_mem.mpr (by rw [kE]; exact List.mem_filter.mpr ⟨hq, decide_eq_true e⟩)
  have hboth : ∀ p ∈ bothA W Ea x, p.1 = x ∧ (lookA Ea p).isSome = true ∧ (lookA W (x - 1, p.2)).isSome = true := fun p hp => by
    have h := List.mem_filter.mp hp
    have h1 := h.1
    refine ⟨?_, lookA_mem.mpr h1, h.2⟩
    rw [kE] at h1
    exact of_decide_eq_true (List.mem_filter.mp h1).2
  have hres : rowFits r x ahead row = (((bothA W Ea x).all fun p => across (at0 W (x - 1, p.2)) (at0 Ea p)) && (((bothA W Ea x).filter fun p => (fourOf p).all fun q => decide (q ∈ r)).all fun p => about (at0 W (p.1 - 1, p.2 - 1)) (at0 W (p.1 - 1, p.2)) (at0 Ea (p.1, p.2 - 1)) (at0 Ea (p.1, p.2)))) := by rw [hW, hEa]; rfl
  rw [hres]
  refine x_cons (s_disp (l := [(4, .fr, ahD W), (5, .fr, ahD Ea)]) (dp 4 (Ev.cast (e_dictZip rfl (rm64 hr) T.dict T.zip (Ev.cast (e_call (column_at_ok T) hr (a_cons (e_var 0 rfl) (a_cons (e_sub (e_var 1 rfl) e_int) a_nil)) ⟨r, x - 1, rfl, rfl⟩) (roomK _)) (e_var 2 rfl) (sq_nd (col_nd nd _))) (by rw [hW]; exact zipAh _ _)) (dp 5 (Ev.cast (e_dictZip rfl (rm64 hr) T.dict T.zip (Ev.cast (e_call (column_at_ok T) hr (a_cons (e_var 0 rfl) (a_cons (e_var 1 rfl) a_nil)) ⟨r, x, rfl, rfl⟩) (roomK _)) (e_var 3 rfl) (sq_nd (col_nd nd _))) (by rw [hEa]; exact zipAh _ _)) dp_nil)) (t_two 4 5 rfl sc.nd) ?_)
  rintro _ ⟨c1, c2, rfl⟩
  refine x_freeze 4 rfl ?_
  have hB : ((Ea.map fun q => (sqK q.1, D.int q.2)).filter fun a => (getT (W.map fun q => (sqK q.1, D.int q.2)) [x - 1, a.1.getD 1 0]).isSome).map (fun a => tD a.1) = (bothA W Ea x).map sqD := by
    unfold bothA
    rw [List.filter_map, List.filter_map, List.map_map, List.map_map]
    congr 1
    congr 1
    funext q
    show (getT _ (sqK (x - 1, q.1.2))).isSome = _
    rw [ah_get, Option.isSome_map]; rfl
  refine x_cons (s_setLcD (own := [("square", 10)]) (kvs := Ea.map fun q => (sqK q.1, D.int q.2)) (kf := fun a => (getT (W.map fun q => (sqK q.1, D.int q.2)) [x - 1, a.1.getD 1 0]).isSome) (g := fun a => tD a.1) 5 6 (.one 10) rfl rfl sc.nd (blkOk_by (by kernel_rfl)) (fun _ _ _ _ _ => t_one 10 sc.nd) (fun _ _ => trivial) (by decide) (fun a ha _ _ _ _ _ => ?_) (fun a ha _ _ _ _ _ _ => e_var 10 rfl) (fun c3 => ?_))
  · obtain ⟨q, hq, rfl⟩ := List.mem_map.mp ha
    exact ts_one (b_c (c_inD (rm1 hr) (e_tup (a_cons (e_sub (e_var 1 rfl) e_int) (a_cons (e_ix (d := .int q.1.2) (e_var 10 rfl) e_int rfl) a_nil))) (e_var 4 rfl)))
  rw [hB]
  refine x_freeze 5 rfl ?_
  refine x_freeze 6 rfl ?_
  show Ex _ [.dat (roomD r), .dat (.int x), .dat (tD ahead), .dat (tD row), .dat (ahD W), .dat (ahD Ea), .dat (.lst ((bothA W Ea x).map sqD)), .any, .any, .any, .any, .any, .any, .any] _ _ _
  refine x_cons (s_if (p := !(bothA W Ea x).all fun p => across (at0 W (x - 1, p.2)) (at0 Ea p)) (b_not (b_v (e_allM (l := bothA W Ea x) (φ := fun p => across (at0 W (x - 1, p.2)) (at0 Ea p)) rfl T.all (e_lc0 (own := [("square", 10)]) (l := bothA W Ea x) (f := sqD) (g := fun p => .bl (across (at0 W (x - 1, p.2)) (at0 Ea p))) (.one 10) rfl sc.nd (i_list (e_var 6 rfl)) (blkOk_by (by kernel_rfl)) (fun _ _ _ _ _ => t_one 10 sc.nd) fun p hp _ _ _ _ _ => e_call (fits_across_ok T) hr (a_cons (e_dget (kk := sqK (x - 1, p.2)) (rm1 hr) (e_var 4 rfl) (e_tup (a_cons (e_sub (e_var 1 rfl) e_int) (a_cons (e_ix (d := .int p.2) (e_var 10 rfl) e_int rfl) a_nil))) (ah_at (hboth p hp).2.2)) (a_cons (e_dget (kk := sqK p) (rm1 hr) (e_var 5 rfl) (e_var 10 rfl) (ah_at (hboth p hp).2.1)) a_nil)) ⟨_, _, rfl, rfl⟩)))) (fun z => ?_) fun z => x_nil ?_)
  · rw [Bool.not_eq_true'] at z
    exact x_one (s_ret e_bl (by rw [z]; rfl))
  rw [Bool.not_eq_false'] at z
  rw [z, Bool.true_and]
  refine x_cons (s_asg 7 sc.nd (e_call (known_of_ok T) hr (a_cons (e_var 0 rfl) a_nil) ⟨r, nd, rfl, rfl⟩) ?_)
  obtain ⟨pts, hpts⟩ : ∃ pts, pts = (bothA W Ea x).filter fun p => (fourOf p).all fun q => decide (q ∈ r) := ⟨_, rfl⟩
  have hp4 : ∀ p ∈ pts, p.1 = x ∧ ∀ q ∈ fourOf p, q ∈ r := fun p hp => by
    rw [hpts] at hp
    have h := List.mem_filter.mp hp
    refine ⟨(hboth p h.1).1, ?_⟩
    have h2 := List.all_eq_true.mp h.2
    exact fun q hq => of_decide_eq_true (h2 q hq)
  refine s_lcF (own := [("square", 10)]) (l := bothA W Ea x) (f := sqD) (p := fun p => (fourOf p).all fun q => decide (q ∈ r)) (g := sqD) 8 (.one 10) rfl sc.nd (i_list (e_var 6 rfl)) (blkOk_by (by kernel_rfl)) (fun _ _ _ _ _ => t_one 10 sc.nd) (fun p _ _ _ _ _ _ => ts_one (b_v (e_allM (l := fourOf p) (φ := fun q => decide (q ∈ r)) rfl T.all (e_lc0 (own := [("own", 11)]) (l := fourOf p) (f := sqD) (g := fun q => .bl (decide (q ∈ r))) (.one 11) rfl sc.nd (i_tup (e_call (four_of_ok T) hr (a_cons (e_var 10 rfl) a_nil) ⟨p, rfl, rfl⟩)) (blkOk_by (by kernel_rfl)) (fun _ _ _ _ _ => t_one 11 sc.nd) fun q _ _ _ _ _ _ => Ev.cast (e_c (c_inD (rm1 hr) (e_var 11 rfl) (e_var 7 rfl))) (by rw [known_in]))))) (fun p _ _ _ _ _ _ _ => (e_var 10 rfl)) ?_
  rw [← hpts]
  refine s_lc0 (own := [("point", 12)]) (l := pts) (f := sqD) (g := fun p => .tup ((fourOf p).map sqD)) 9 (.one 12) rfl sc.nd (i_list (e_var 8 rfl)) (blkOk_by (by kernel_rfl)) (fun _ _ _ _ _ => t_one 12 sc.nd) (fun p _ _ _ _ _ _ => e_call (four_of_ok T) hr (a_cons (e_var 12 rfl) a_nil) ⟨p, rfl, rfl⟩) ?_
  refine x_one (s_ret (e_allM (l := pts) (φ := fun p => about (at0 W (p.1 - 1, p.2 - 1)) (at0 W (p.1 - 1, p.2)) (at0 Ea (p.1, p.2 - 1)) (at0 Ea (p.1, p.2))) rfl T.all (e_lc0 (own := [("four", 13)]) (l := pts) (f := fun p => .tup ((fourOf p).map sqD)) (g := fun p => .bl (about (at0 W (p.1 - 1, p.2 - 1)) (at0 W (p.1 - 1, p.2)) (at0 Ea (p.1, p.2 - 1)) (at0 Ea (p.1, p.2)))) (.one 13) rfl sc.nd (i_list (e_var 9 rfl)) (blkOk_by (by kernel_rfl)) (fun _ _ _ _ _ => t_one 13 sc.nd) fun p hp _ _ _ _ _ => e_call (fits_about_ok T) hr (a_cons (e_tup (a_cons (e_dget (rm1 hr) (e_var 4 rfl) (e_ix (d := sqD (p.1 - 1, p.2 - 1)) (e_var 13 rfl) e_int rfl) (ah_at (hwest (p.1 - 1, p.2 - 1) ((hp4 p hp).2 _ (by simp [fourOf])) (by rw [(hp4 p hp).1])))) (a_cons (e_dget (rm1 hr) (e_var 4 rfl) (e_ix (d := sqD (p.1 - 1, p.2)) (e_var 13 rfl) e_int rfl) (ah_at (hwest (p.1 - 1, p.2) ((hp4 p hp).2 _ (by simp [fourOf])) (by rw [(hp4 p hp).1])))) (a_cons (e_dget (rm1 hr) (e_var 5 rfl) (e_ix (d := sqD (p.1, p.2 - 1)) (e_var 13 rfl) e_int rfl) (ah_at (heast (p.1, p.2 - 1) ((hp4 p hp).2 _ (by simp [fourOf])) (by rw [(hp4 p hp).1])))) (a_cons (e_dget (rm1 hr) (e_var 5 rfl) (e_ix (d := sqD (p.1, p.2)) (e_var 13 rfl) e_int rfl) (ah_at (heast (p.1, p.2) ((hp4 p hp).2 _ (by simp [fourOf])) (by rw [(hp4 p hp).1])))) a_nil))))) a_nil) ⟨_, _, _, _, rfl, rfl⟩)) rfl)
theorem fit_behind_ok (T : Tp K mg) : FnI P w K mg bs 7 "fit_behind" ["room", "x", "ahead", "row"] (spD 4 fun ds d => ∃ (r : List Sq) (t : D) (x : Int) (ahead row : List Int) (u v : D), okR r ∧ r.Nodup ∧ ArgR r t ∧ ahead.length = (col r (x - 1)).length ∧ row.length = (col r x).length ∧ (∀ k ∈ ahead, okK k = true) ∧ (∀ k ∈ row, okK k = true) ∧ dep u ≤ 3 ∧ tupD u = tD ahead ∧ dep v ≤ 3 ∧ tupD v = tD row ∧ ds = [t, .int x, u, v] ∧ d = .bl (rowFits r x ahead row)) := by
  have sc : FnScope ["room", "x", "ahead", "row", "own", "number", "first"] ["room", "x", "ahead", "row"] (defScope (topS 57)) := ⟨rfl, rfl, rfl, by decide +kernel, rfl, by decide +kernel, by decide +kernel⟩
  refine fn_pure T.fit_behind sc (fun _ _ _ _ _ _ us hl => match us, hl with | [_, _, _, _], _ => rfl) ?_
  rintro f cdv A outer s H E hr ds d hl ⟨r, t, x, ahead, row, u, v, ok, nd, at_, la, lr, ka, kr, du, tu, dv, tv, rfl, rfl⟩
  refine x_cons (s_asg (d := roomD r) 4 sc.nd (e_call (sure_room_ok T) hr (a_cons (e_var 0 rfl) a_nil) ⟨r, t, ok, rfl, at_.1, at_.2, rfl⟩) ?_)
  refine x_cons (s_asg (d := .int x) 5 sc.nd (e_call (sure_x_ok T) hr (a_cons (e_var 1 rfl) a_nil) ⟨x, rfl, rfl⟩) ?_)
  refine x_cons (s_asg (d := tD ahead) 6 sc.nd (e_call (sure_row_ok T) hr (a_cons (e_var 4 rfl) (a_cons (e_sub (e_var 5 rfl) e_int) (a_cons (e_var 2 rfl) a_nil))) ⟨r, x - 1, ahead, u, la, ka, rfl, du, tu, rfl⟩) ?_)
  exact x_one (s_ret (e_call (row_fits_ok T) hr (a_cons (e_var 4 rfl) (a_cons (e_var 5 rfl) (a_cons (e_var 6 rfl) (a_cons (e_call (sure_row_ok T) hr (a_cons (e_var 4 rfl) (a_cons (e_var 5 rfl) (a_cons (e_var 3 rfl) a_nil))) ⟨r, x, row, v, lr, kr, rfl, dv, tv, rfl⟩) a_nil)))) ⟨r, x, ahead, row, nd, la, lr, rfl, rfl⟩) rfl)
end
end TR
/-! ## D7 -/
set_option Elab.async false
set_option linter.all false
set_option maxRecDepth 100000
set_option maxHeartbeats 2000000
namespace TR
open PySem L2
def items : D → List D
  | .tup l => l
  | .stp l => l
  | _ => []
theorem seqOf : ∀ {t : D}, isTup t = true → IsSeq t (items t)
  | .tup l, _ => .tup l
  | .stp l, _ => .stp l
def flatI (t : D) : List D := ((items t).map items).flatten
def areRows (t : D) : Bool := isTup t && (items t).all isTup && (flatI t).all fun row => isTup row && (items row).all isNum
section
variable {P : Program} {w : World} {K : PySem.W.Frag} {mg : Str → Option Value} {bs : Heap}
theorem are_rows_ok (T : Tp K mg) : FnI P w K mg bs 2 "are_rows" ["thing"] (spD 1 fun ds d => ∃ t, (flatI t).length ≤ 1000000 ∧ ds = [t] ∧ d = .bl (areRows t)) := by
  have sc : FnScope ["thing", "every", "rows", "row", "kind"] ["thing"] (defScope (topS 59)) := ⟨rfl, rfl, rfl, by decide +kernel, rfl, by decide +kernel, by decide +kernel⟩
  refine fn_pure T.are_rows sc (fun _ _ _ _ _ _ us hl => match us, hl with | [_], _ => rfl) ?_
  rintro f cdv A outer s H E hr ds d hl ⟨t, hsz, rfl, rfl⟩
  refine x_cons (s_if (p := !isTup t || !(items t).all isTup) (EvW.toB (w_or (b_not (b_v (e_isi (e_var 0 rfl) T.isinstance T.tuple PyProof.Rows.boot_tuple (kit_tuple _)))) fun z => (w_or1 (b_not (b_v (e_allM (l := items t) (φ := isTup) rfl T.all (e_lc0 (own := [("rows", 2)]) (l := items t) (f := id) (g := fun d => .bl (isTup d)) (.one 2) rfl sc.nd (i_seq (e_var 0 rfl) (seqOf (by rwa [Bool.not_eq_false'] at z))) (blkOk_by (by kernel_rfl)) (fun _ _ _ _ _ => t_one 2 sc.nd) fun d _ _ _ _ _ _ => (e_isi (e_var 2 rfl) T.isinstance T.tuple PyProof.Rows.boot_tuple (kit_tuple _))))))))) (fun z => ?_) fun z => x_nil ?_)
  · refine x_one (s_ret e_bl ?_)
    congr 1
    unfold areRows
    cases h1 : isTup t with
    | false => rfl
    | true =>
      rw [h1, Bool.not_true, Bool.false_or, Bool.not_eq_true'] at z
      rw [z]; rfl
  obtain ⟨ht, hi⟩ : isTup t = true ∧ (items t).all isTup = true := by
    cases h1 : isTup t <;> cases h2 : (items t).all isTup <;> simp [h1, h2] at z ⊢
  have hfl : ((items t).map fun a => (items a).map fun b => b).flatten = flatI t := by unfold flatI; simp
  refine x_cons (s_setLc2 (own := [("rows", 2), ("row", 3)]) (l := items t) (f := id) (m := items) (h := fun _ b => b) (g := fun _ b => b) (vs1 := [3]) 1 (.one 2) (.one 3) rfl sc.nd (i_seq (e_var 0 rfl) (seqOf ht)) (blkOk_by (by kernel_rfl)) (by decide) (fun _ _ _ _ _ => t_one 2 sc.nd) (fun _ _ _ _ _ => t_one 3 sc.nd) (fun _ _ => trivial) (fun _ _ _ _ => trivial) (by decide) (by decide) (fun a ha _ _ _ _ _ => EvI.cast (i_seq (e_var 2 rfl) (seqOf (List.all_eq_true.mp hi a ha))) (by simp)) (fun a ha b hb _ _ _ _ _ => e_var 3 rfl) (by rw [hfl]; exact Nat.le_trans hsz (by decide)) (fun z => nomatch z) fun c => ?_)
  rw [hfl]
  refine x_freeze 1 rfl ?_
  refine x_one (s_ret (e_allM (l := flatI t) (φ := fun row => isTup row && (items row).all isNum) rfl T.all (e_lc0 (own := [("row", 3)]) (l := flatI t) (f := id) (g := fun row => .bl (isTup row && (items row).all isNum)) (.one 3) rfl sc.nd (EvI.cast (i_list (e_var 1 rfl)) (by rw [List.map_id])) (blkOk_by (by kernel_rfl)) (fun _ _ _ _ _ => t_one 3 sc.nd) fun row _ _ _ _ _ _ => (e_and (e_isi (e_var 3 rfl) T.isinstance T.tuple PyProof.Rows.boot_tuple (kit_tuple _)) fun z => (e_one (e_allM (l := items row) (φ := isNum) rfl T.all (e_lc0 (own := [("kind", 4)]) (l := items row) (f := id) (g := fun d => .bl (isNum d)) (.one 4) rfl sc.nd (i_seq (e_var 3 rfl) (seqOf z)) (blkOk_by (by kernel_rfl)) (fun _ _ _ _ _ => t_one 4 sc.nd) fun d _ _ _ _ _ _ => e_call (is_number_ok T) hr (a_cons (e_var 4 rfl) a_nil) ⟨d, rfl, rfl⟩)))))) ?_)
  unfold areRows
  rw [ht, hi]; rfl
theorem is_reaches_ok (T : Tp K mg) : FnI P w K mg bs 8 "is_reaches" ["room", "lets", "thing"] (spD 3 fun ds d => ∃ (r : List Sq) (ls : Lets) (t u th : D), okF r ls ∧ ArgR r t ∧ ArgL ls u ∧ (flatI th).length ≤ 1000000 ∧ shp th = true ∧ ds = [t, u, th] ∧ d = .bl (areRows th && eqD th (rchD (reachM r ls)))) := by
  have sc : FnScope ["room", "lets", "thing", "own", "told"] ["room", "lets", "thing"] (defScope (topS 60)) := ⟨rfl, rfl, rfl, by decide +kernel, rfl, by decide +kernel, by decide +kernel⟩
  refine fn_pure T.is_reaches sc (fun _ _ _ _ _ _ us hl => match us, hl with | [_, _, _], _ => rfl) ?_
  rintro f cdv A outer s H E hr ds d hl ⟨r, ls, t, u, th, ok, at_, au, hs, hp, rfl, rfl⟩
  refine x_cons (s_unp (js := [3, 4]) (t_two 3 4 rfl sc.nd) (e_call (fit_lets_ok T) hr (a_cons (e_var 0 rfl) (a_cons (e_var 1 rfl) a_nil)) ⟨r, ls, t, u, ok, at_, au, rfl, rfl⟩) ?_)
  exact x_one (s_ret (e_and (e_call (are_rows_ok T) hr (a_cons (e_var 2 rfl) a_nil) ⟨th, hs, rfl, rfl⟩) fun _ => (e_one (e_c (c_eqD (rm64 hr) (e_var 2 rfl) (e_call (reaches_in_ok T) hr (a_cons (e_var 3 rfl) (a_cons (e_var 4 rfl) a_nil)) ⟨r, ls, ok.w, rfl, rfl⟩) hp (pl_tup (fun l => pl_tup pl_tD l) _).shp)))) rfl)
end
end TR
/-! ## D8 -/
set_option Elab.async false
set_option linter.all false
set_option maxRecDepth 100000
set_option maxHeartbeats 2000000
namespace TR
open PySem L2
/-! ### from the east back -/
def leftStep (r : List Sq) (ls : Lets) (c : List Sq) (rows : List (List Int)) (c' : List Sq) (later : List (List Int)) : List (List Int) := rows.filter fun row => (rowsBehind r ls c' (c.zip row)).any fun on => decide (on ∈ later)
def leftM (r : List Sq) (ls : Lets) : List (List Sq × List (List Int)) → List (List (List Int))
  | [] => []
  | [q] => [q.2]
  | q :: q' :: rest => leftStep r ls q.1 q.2 q'.1 ((leftM r ls (q' :: rest)).headD []) :: leftM r ls (q' :: rest)
def pairsM (r : List Sq) (ls : Lets) : List (List Sq × List (List Int)) := (cols r).zip (reachM r ls)
theorem reachM_len (r : List Sq) (ls : Lets) : (reachM r ls).length = (cols r).length := reachSt_len r ls (cols r)
theorem leftM_len (r : List Sq) (ls : Lets) : ∀ l, (leftM r ls l).length = l.length
  | [] => rfl
  | [q] => rfl
  | q :: q' :: rest => by rw [leftM, List.length_cons, leftM_len r ls (q' :: rest)]; rfl
theorem leftM_nd (r : List Sq) (ls : Lets) : ∀ l : List (List Sq × List (List Int)), (∀ q ∈ l, q.2.Nodup) → ∀ x ∈ leftM r ls l, x.Nodup
  | [], _, x, hx => by cases hx
  | [q], h, x, hx => by rw [List.mem_singleton.mp hx]; exact h q (by simp)
  | q :: q' :: rest, h, x, hx => by
    rcases List.mem_cons.mp hx with rfl | hx
    · exact (h q (by simp)).filter _
    · exact leftM_nd r ls (q' :: rest) (fun a ha => h a (List.mem_cons_of_mem _ ha)) x hx
theorem reach_zip (r : List Sq) (ls : Lets) (done : List (List Sq)) : ∀ q ∈ done.zip (reachSt r ls done).1, (∀ row ∈ q.2, row.length = q.1.length) ∧ q.2.Nodup ∧ q.2.length ≤ (rowsBy r ls q.1).length := by
  induction done using snocRec with
  | h0 => intro q hq; cases hq
  | h1 d c ih =>
    rw [reachSt_snoc]
    dsimp only
    rw [List.zip_append (by rw [reachSt_len])]
    intro q hq
    rcases List.mem_append.mp hq with hq | hq
    · exact ih q hq
    · rw [List.zip_cons_cons, List.zip_nil_right] at hq
      rw [List.mem_singleton.mp hq]
      exact ⟨fun row hr => rowsBy_len r ls c row (stepR_by r ls c _ row hr), setOf_nodup _, stepR_le r ls c _⟩
def okNx (r : List Sq) : Prop := ∀ d c c' e, cols r = d ++ c :: c' :: e → ∀ row : List Int, row.length = c.length → okCol r c' (c.zip row)
theorem later_in (l : List (List Int)) (k : List Int) : (getT (l.map fun row => (row, D.bl true)) k).isSome = decide (k ∈ l) := by
  rw [getT_some (kf := fun row : List Int => row) (vf := fun _ => D.bl true), Option.isSome_map]
  rw [Bool.eq_iff_iff, List.find?_isSome, decide_eq_true_eq]
  constructor
  · rintro ⟨x, hx, e⟩; rw [← of_decide_eq_true e]; exact hx
  · intro h; exact ⟨k, h, decide_eq_true rfl⟩
theorem at_neg {α : Type} {l : List α} {x : α} {k : Nat} {i : Int} (h : l[k]? = some x) (e : i + (l.length : Int) = (k : Int)) (hi : i < 0) : atI l i = some x := by
  unfold atI ixN
  rw [if_neg (by omega), if_pos (by omega), Option.bind_some]
  rw [show (i + (l.length : Int)).toNat = k by omega]
  exact h
theorem later_nd {later : List (List Int)} (h : later.Nodup) : ((later.map fun row => (row, D.bl true)).map (·.1)).Nodup := by
  have e : (later.map fun row => (row, D.bl true)).map (·.1) = later := by rw [List.map_map]; exact List.map_id' later
  rw [e]; exact h
theorem later_pr (later : List (List Int)) : D.lst (later.map fun row => prD (row, .bl true)) = .lst ((later.map fun row => (row, D.bl true)).map prD) := by rw [List.map_map]; rfl
section
variable {P : Program} {w : World} {K : PySem.W.Frag} {mg : Str → Option Value} {bs : Heap}
theorem lefts_in_ok (T : Tp K mg) : FnI P w K mg bs 7 "lefts_in" ["room", "lets"] (spD 2 fun ds d => ∃ (r : List Sq) (ls : Lets), okW r ls ∧ okNx r ∧ ds = [roomD r, letsS ls] ∧ d = .lst ((leftM r ls (pairsM r ls)).map rowsD)) := by
  have sc : FnScope ["room", "lets", "known", "lots", "columns", "found", "place", "rows", "squares", "later", "kept", "row", "ons", "on"] ["room", "lets"] (defScope (topS 52)) := ⟨rfl, rfl, rfl, by decide +kernel, rfl, by decide +kernel, by decide +kernel⟩
  refine fn_pure T.lefts_in sc (fun _ _ _ _ _ _ us hl => match us, hl with | [_, _], _ => rfl) ?_
  rintro f cdv A outer s H E hr ds d hl ⟨r, ls, ok, nx, rfl, rfl⟩
  refine x_cons (s_disp (l := [(2, .st, knownD r), (3, .fr, lotsD ls), (4, .st, .lst ((cols r).map roomD)), (5, .fr, .lst [])]) (dp 2 (e_call (known_of_ok T) hr (a_cons (e_var 0 rfl) a_nil) ⟨r, ok.nd, rfl, rfl⟩) (dp 3 (e_dictS rfl (rm64 hr) T.dict (e_var 1 rfl) lots_ps (lots_nd ok.ld)) (dp 4 (e_call (columns_in_ok T) hr (a_cons (e_var 0 rfl) a_nil) ⟨r, ok.x, rfl, rfl⟩) (dp 5 (e_lst a_nil) dp_nil)))) (t_four 2 3 4 5 rfl sc.nd) ?_)
  rintro _ ⟨c1, c2, rfl⟩
  refine x_freeze 3 rfl ?_
  obtain ⟨C, hC⟩ : ∃ C, C = cols r := ⟨_, rfl⟩
  obtain ⟨R, hR⟩ : ∃ R, R = reachM r ls := ⟨_, rfl⟩
  have hlen : R.length = C.length := by rw [hC, hR]; exact reachM_len r ls
  have hpr : pairsM r ls = C.zip R := by rw [hC, hR]; rfl
  have hz : ∀ q ∈ C.zip R, (∀ row ∈ q.2, row.length = q.1.length) ∧ q.2.Nodup ∧ q.2.length ≤ 1024 := fun q hq => by
    have h1 := reach_zip r ls (cols r) q (by rw [hC, hR] at hq; exact hq)
    exact ⟨h1.1, h1.2.1, Nat.le_trans h1.2.2 (ok.cnt q.1 (by rw [hC] at hq; exact (List.of_mem_zip hq).1))⟩
  rw [hpr, ← hC]
  have hcl : C.length ≤ 100001 := by rw [hC]; exact cols_len ok.x
  refine x_cons (s_for (l := (List.range R.reverse.length).zip R.reverse) (f := fun q => .tup [.int (q.1 : Nat), rtD q.2]) (.tup [6, 7]) (fun done ρ' => ∃ a b e g h i j k, ρ' = [.dat (roomD r), .dat (letsS ls), .dat (knownD r), .dat (lotsD ls), .dat (.lst (C.map roomD)), .own false c2 (.lst ((leftM r ls ((C.zip R).drop (C.length - done.length))).reverse.map rowsD)), a, b, e, g, h, i, j, k]) rfl (EvI.cast (i_enumT T.enumerate (e_revT (e_call (reaches_in_ok T) hr (a_cons (e_var 0 rfl) (a_cons (e_var 1 rfl) a_nil)) ⟨r, ls, ok, rfl, rfl⟩))) (by rw [← hR, ← List.map_reverse, enum_map])) (t_two 6 7 rfl sc.nd) (fun _ _ => rfl) ?_ ?_ ?_)
  · rw [List.length_nil, Nat.sub_zero, List.drop_eq_nil_of_le (by rw [List.length_zip, hlen]; omega)]
    exact ⟨_, _, _, _, _, _, _, _, rfl⟩
  · rintro done ⟨i, rows⟩ post hsp ρ' ⟨e6, e7, e8, e9, e10, e11, e12, e13, rfl⟩
    obtain ⟨hdi, hRi⟩ : done.length = i ∧ R.reverse[i]? = some rows := by
      have h1 : ((List.range R.reverse.length).zip R.reverse)[done.length]? = some (i, rows) := by rw [hsp, List.getElem?_append_right (Nat.le_refl _), Nat.sub_self]; rfl
      rw [List.getElem?_zip_eq_some] at h1
      have h2 := h1.1
      have h3 : done.length < R.reverse.length := by
        have := (List.getElem?_eq_some_iff.mp h1.2).1
        exact this
      rw [List.getElem?_range h3] at h2
      have h4 : done.length = i := Option.some.inj h2
      exact ⟨h4, by rw [← h4]; exact h1.2⟩
    have hiR : i < C.length := by
      have := (List.getElem?_eq_some_iff.mp hRi).1
      rw [List.length_reverse, hlen] at this; exact this
    have hRk : R[C.length - 1 - i]? = some rows := by
      rw [List.getElem?_reverse (by rw [hlen]; exact hiR), hlen] at hRi
      exact hRi
    have hzl : (C.zip R).length = C.length := by rw [List.length_zip, hlen, Nat.min_self]
    obtain ⟨c, hCk⟩ : ∃ c, C[C.length - 1 - i]? = some c := ⟨_, List.getElem?_eq_getElem (by omega)⟩
    have hk : C.length - 1 - i < (C.zip R).length := by rw [hzl]; omega
    have hq : (C.zip R)[C.length - 1 - i]? = some (c, rows) := by rw [List.getElem?_zip_eq_some]; exact ⟨hCk, hRk⟩
    have hqm : (c, rows) ∈ C.zip R := List.mem_of_getElem? hq
    obtain ⟨hrow, hrnd, hrl⟩ := hz _ hqm
    have hdr : (C.zip R).drop (C.length - (done ++ [(i, rows)]).length) = (c, rows) :: (C.zip R).drop (C.length - done.length) := by
      rw [List.length_append, List.length_singleton, hdi, show C.length - (i + 1) = C.length - 1 - i by omega, List.drop_eq_getElem_cons hk]
      rw [List.getElem?_eq_getElem hk] at hq
      rw [Option.some.inj hq, show C.length - 1 - i + 1 = C.length - i by omega]
    refine x_one (s_if (p := decide (0 < i)) (EvB.cast (b_c (c_gt (e_var 6 rfl) e_int)) (by simp)) (fun z => ?_) fun z => ?_)
    · have hi0 : 0 < i := of_decide_eq_true z
      obtain ⟨c', hCk'⟩ : ∃ c', C[C.length - i]? = some c' := ⟨_, List.getElem?_eq_getElem (by omega)⟩
      obtain ⟨rows', hRk'⟩ : ∃ rows', R[C.length - i]? = some rows' := ⟨_, List.getElem?_eq_getElem (by omega)⟩
      have hk' : C.length - i < (C.zip R).length := by rw [hzl]; omega
      have hq' : (C.zip R)[C.length - i]? = some (c', rows') := by rw [List.getElem?_zip_eq_some]; exact ⟨hCk', hRk'⟩
      obtain ⟨rest, hrest⟩ : ∃ rest, (C.zip R).drop (C.length - done.length) = (c', rows') :: rest := by
        rw [hdi, List.drop_eq_getElem_cons hk']
        rw [List.getElem?_eq_getElem hk'] at hq'
        rw [Option.some.inj hq']
        exact ⟨_, rfl⟩
      have hsplit : ∃ e, C = C.take (C.length - 1 - i) ++ c :: c' :: e := by
        refine ⟨C.drop (C.length - i + 1), ?_⟩
        have h1 : C.length - 1 - i < C.length := by omega
        have h2 : C.length - i < C.length := by omega
        rw [List.getElem?_eq_getElem h1] at hCk
        rw [List.getElem?_eq_getElem h2] at hCk'
        conv => lhs; rw [← List.take_append_drop (C.length - 1 - i) C]
        rw [List.drop_eq_getElem_cons h1, Option.some.inj hCk]
        have h3 : C.length - 1 - i + 1 = C.length - i := by omega
        rw [h3, List.drop_eq_getElem_cons h2, Option.some.inj hCk']
      obtain ⟨e, hsplit⟩ := hsplit
      have hcc := ok.c7 c' (by rw [← hC]; exact List.mem_of_getElem? hCk')
      have hcn := ok.nd
      have hcnd : c.Nodup := cols_nd ok.nd (by rw [← hC]; exact List.mem_of_getElem? hCk)
      obtain ⟨later, hlater⟩ : ∃ l, l = (leftM r ls ((c', rows') :: rest)).headD [] := ⟨_, rfl⟩
      have hlm : later ∈ leftM r ls ((c', rows') :: rest) := by
        rw [hlater]
        cases hh : leftM r ls ((c', rows') :: rest) with
        | nil => have := leftM_len r ls ((c', rows') :: rest); rw [hh] at this; cases this
        | cons a b => exact List.mem_cons_self
      have hlnd : later.Nodup := leftM_nd r ls _ (fun q hq => (hz q (List.mem_of_mem_drop (i := C.length - done.length) (by rw [hrest]; exact hq))).2.1) later hlm
      have hhead : ∃ t, leftM r ls ((c', rows') :: rest) = later :: t := by
        rw [hlater]
        cases hh : leftM r ls ((c', rows') :: rest) with
        | nil => have := leftM_len r ls ((c', rows') :: rest); rw [hh] at this; cases this
        | cons a b => exact ⟨b, rfl⟩
      obtain ⟨lt, hlt⟩ := hhead
      rw [hrest, hlt, List.reverse_cons, List.map_append]
      have hlast : atI (lt.reverse.map rowsD ++ [later].map rowsD) (-1) = some (rowsD later) := at_neg (k := (lt.reverse.map rowsD).length) List.getElem?_concat_length (by rw [List.length_append]; simp; omega) (by decide)
      refine x_cons (s_disp (l := [(8, .st, roomD c), (9, .fr, .dT (later.map fun row => (row, D.bl true))), (10, .fr, .lst [])]) (dp 8 (e_ix (e_var 4 rfl) (e_sub (e_neg e_int) (e_var 6 rfl)) (at_neg (k := C.length - 1 - i) (by rw [List.getElem?_map, hCk]; rfl) (by rw [List.length_map]; omega) (by omega))) (dp 9 (e_dictS rfl (rm64 hr) T.dict (Ev.cast (e_lc0 (own := [("row", 11)]) (l := later) (f := tD) (g := fun row => prD (row, .bl true)) (.one 11) rfl sc.nd (i_list (e_ix (e_own 5 rfl) (e_neg e_int) hlast)) (blkOk_by (by kernel_rfl)) (fun _ _ _ _ _ => t_one 11 sc.nd) fun row _ _ _ _ _ _ => e_tup (a_cons (e_var 11 rfl) (a_cons e_bl a_nil))) (later_pr later)) (.lst _) (later_nd hlnd)) (dp 10 (e_lst a_nil) dp_nil))) (t_three 8 9 10 rfl sc.nd) ?_)
      rintro _ ⟨c3, c4, rfl⟩
      refine x_freeze 9 rfl ?_
      refine x_cons (s_for (l := rows) (f := tD) (.one 11) (fun dn ρ' => ∃ a b, ρ' = [.dat (roomD r), .dat (letsS ls), .dat (knownD r), .dat (lotsD ls), .dat (.lst (C.map roomD)), .own false c2 (.lst (lt.reverse.map rowsD ++ [later].map rowsD)), .dat (.int (i : Nat)), .dat (rtD rows), .dat (roomD c), .dat (.dT (later.map fun row => (row, D.bl true))), .own false c4 (rowsD (leftStep r ls c dn c' later)), a, b, e13]) rfl (i_tup (e_var 7 rfl)) (t_one 11 sc.nd) (fun _ _ => trivial) ⟨_, _, rfl⟩ ?_ ?_)
      · rintro dn row pt hs2 ρ' ⟨a, b, rfl⟩
        have hrm : row ∈ rows := by rw [hs2]; simp
        have hdl : dn.length < rows.length := by rw [hs2, List.length_append, List.length_cons]; omega
        have hE : leftStep r ls c (dn ++ [row]) c' later = if (rowsBehind r ls c' (c.zip row)).any (fun on => decide (on ∈ later)) then leftStep r ls c dn c' later ++ [row] else leftStep r ls c dn c' later := by
          unfold leftStep
          rw [List.filter_append, List.filter_cons, List.filter_nil]
          split <;> simp
        refine x_cons (s_asg (d := rowsD (rowsBehind r ls c' (c.zip row))) 12 sc.nd (e_call (rows_behind_ok T) hr (a_cons (e_var 2 rfl) (a_cons (e_var 3 rfl) (a_cons (e_ix (e_var 4 rfl) (e_neg (e_var 6 rfl)) (at_neg (k := C.length - i) (by rw [List.getElem?_map, hCk']; rfl) (by rw [List.length_map]; omega) (by omega))) (a_cons (Ev.cast (e_dictZip rfl (rm64 hr) T.dict T.zip (Ev.cast (e_var 8 rfl) (roomK c)) (e_var 11 rfl) (sq_nd hcnd)) (zipAh c row)) a_nil)))) ⟨r, ls, c', c.zip row, nx _ c c' e (by rw [← hC]; exact hsplit) row (hrow row hrm), hcc, rfl, rfl⟩) ?_)
        refine x_one (s_if (p := (rowsBehind r ls c' (c.zip row)).any fun on => decide (on ∈ later)) (b_v (e_anyM (l := rowsBehind r ls c' (c.zip row)) (φ := fun on => decide (on ∈ later)) rfl T.any (e_lc0 (own := [("on", 13)]) (l := rowsBehind r ls c' (c.zip row)) (f := tD) (g := fun on => .bl (decide (on ∈ later))) (.one 13) rfl sc.nd (i_list (e_var 12 rfl)) (blkOk_by (by kernel_rfl)) (fun _ _ _ _ _ => t_one 13 sc.nd) fun on _ _ _ _ _ _ => Ev.cast (e_c (c_inD (rm1 hr) (e_var 13 rfl) (e_var 9 rfl))) (by rw [later_in])))) (fun z => x_one (s_append 10 rfl (e_var 11 rfl) ?_ ?_)) fun z => x_nil ?_)
        · rw [hE, if_pos z]; unfold rowsD; rw [List.map_append]; exact ⟨_, _, rfl⟩
        · rw [List.length_map]
          have h1 : (leftStep r ls c dn c' later).length ≤ dn.length := List.length_filter_le _ _
          unfold sizeLine
          have h24 : (2 : Nat) ^ 24 = 16777216 := by decide
          have hrl : rows.length ≤ 1024 := hrl
          omega
        · rw [hE, if_neg (by rw [z]; decide)]; exact ⟨_, _, rfl⟩
      · rintro ρ' ⟨a, b, rfl⟩
        refine x_freeze 10 rfl ?_
        have hfin : (leftM r ls ((c, rows) :: (c', rows') :: rest)).reverse.map rowsD = (lt.reverse.map rowsD ++ [later].map rowsD) ++ [rowsD (leftStep r ls c rows c' later)] := by
          rw [leftM, ← hlater, hlt]
          simp
        refine x_one (s_append 5 rfl (e_var 10 rfl) ?_ ?_)
        · rw [hdr, hrest, hfin]
          exact ⟨_, _, _, _, _, _, _, _, rfl⟩
        · have h1 := leftM_len r ls ((c', rows') :: rest)
          rw [hlt, ← hrest, List.length_drop, hzl, List.length_cons] at h1
          rw [List.length_append, List.length_map, List.length_reverse]
          unfold sizeLine
          have h24 : (2 : Nat) ^ 24 = 16777216 := by decide
          simp only [List.map_cons, List.map_nil, List.length_cons, List.length_nil]
          omega
    · have hi0 : i = 0 := by
        have := of_decide_eq_false z
        omega
      have hnil : (C.zip R).drop (C.length - done.length) = [] := List.drop_eq_nil_of_le (by rw [hzl, hdi]; omega)
      rw [hnil]
      refine x_one (s_append (d := rowsD rows) 5 rfl (e_listOf T.list (e_var 7 rfl)) ?_ (Nat.le_of_ble_eq_true rfl))
      rw [hdr, hnil]
      exact ⟨_, _, _, _, _, _, _, _, rfl⟩
  · rintro ρ' ⟨e6, e7, e8, e9, e10, e11, e12, e13, rfl⟩
    refine x_one (s_ret (e_revL (p4 := ⟨0, 0, 0, 0⟩) (e_own 5 rfl)) ?_)
    rw [List.length_zip, List.length_range, List.length_reverse, hlen, Nat.min_self, Nat.sub_self, List.drop_zero, List.map_reverse, List.reverse_reverse]
end
end TR
/-! ## D9 -/
set_option Elab.async false
set_option linter.all false
set_option maxRecDepth 100000
set_option maxHeartbeats 2000000
namespace TR
open PySem L2
theorem leftM_sub (r : List Sq) (ls : Lets) : ∀ (l : List (List Sq × List (List Int))) (k : Nat) (y : List (List Int)), (leftM r ls l)[k]? = some y → ∃ q, l[k]? = some q ∧ (∀ row ∈ y, row ∈ q.2) ∧ y.length ≤ q.2.length
  | [], k, y, h => by simp [leftM] at h
  | [q], k, y, h => by
    cases k with
    | zero => exact ⟨q, rfl, by rw [show y = q.2 from (Option.some.inj h).symm]; exact ⟨fun _ h => h, Nat.le_refl _⟩⟩
    | succ k => simp [leftM] at h
  | q :: q' :: rest, k, y, h => by
    cases k with
    | zero =>
      refine ⟨q, rfl, ?_⟩
      have e : leftStep r ls q.1 q.2 q'.1 ((leftM r ls (q' :: rest)).headD []) = y := Option.some.inj h
      rw [← e]
      exact ⟨fun row hr => (List.mem_filter.mp hr).1, List.length_filter_le _ _⟩
    | succ k => exact leftM_sub r ls (q' :: rest) k y h
theorem at_pos {α : Type} {l : List α} {x : α} {k : Nat} {i : Int} (h : l[k]? = some x) (e : i = (k : Int)) : atI l i = some x := by
  unfold atI ixN
  have := (List.getElem?_eq_some_iff.mp h).1
  rw [if_pos (by omega), if_pos (by omega), Option.bind_some]
  rw [show i.toNat = k by omega]
  exact h
theorem eq_sq (a b : Sq) : eqD (sqD a) (sqD b) = decide (a = b) := by
  rw [eq_tD]
  by_cases h : a = b
  · rw [h]; simp
  · rw [decide_eq_false h, decide_eq_false fun z => h (sqK_inj z)]
def leftD (r : List Sq) (ls : Lets) (x : Int) : D :=
  if col r x = [] then (if (leftM r ls (pairsM r ls)).getLast?.getD [] = [] then .tup [] else .tup [.tup []]) else rtD (setOf ((leftM r ls (pairsM r ls))[(x - loX r).toNat]?.getD []))
section
variable {P : Program} {w : World} {K : PySem.W.Frag} {mg : Str → Option Value} {bs : Heap}
theorem rows_left_ok (T : Tp K mg) : FnI P w K mg bs 8 "rows_left" ["room", "lets", "x"] (spD 3 fun ds d => ∃ (r : List Sq) (ls : Lets) (t u : D) (x : Int), okF r ls ∧ okNx r ∧ ArgR r t ∧ ArgL ls u ∧ ds = [t, u, .int x] ∧ d = leftD r ls x) := by
  have sc : FnScope ["room", "lets", "x", "own", "told", "number", "lefts", "first", "square"] ["room", "lets", "x"] (defScope (topS 63)) := ⟨rfl, rfl, rfl, by decide +kernel, rfl, by decide +kernel, by decide +kernel⟩
  refine fn_pure T.rows_left sc (fun _ _ _ _ _ _ us hl => match us, hl with | [_, _, _], _ => rfl) ?_
  rintro f cdv A outer s H E hr ds d hl ⟨r, ls, t, u, x, ok, nx, at_, au, rfl, rfl⟩
  have ne : r ≠ [] := ok.w.x.1
  have lh : loX r ≤ hiX r := by obtain ⟨p, hp, e⟩ := loX_mem ne; rw [← e]; exact hiX_ge hp
  have hll : (leftM r ls (pairsM r ls)).length = (hiX r + 1 - loX r).toNat := by
    rw [leftM_len]; unfold pairsM; rw [List.length_zip, reachM_len, Nat.min_self]; unfold cols xs; rw [List.length_map, List.length_map, List.length_range]
  refine x_cons (s_unp (js := [3, 4, 5]) (t_three 3 4 5 rfl sc.nd) (e_call (fit_lets_at_ok T) hr (a_cons (e_var 0 rfl) (a_cons (e_var 1 rfl) (a_cons (e_var 2 rfl) a_nil))) ⟨r, ls, t, u, x, ok, at_, au, rfl, rfl⟩) ?_)
  refine x_cons (s_disp2 (i := 6) (j := 7) (l := [(6, .st, .lst ((leftM r ls (pairsM r ls)).map rowsD)), (7, .st, .int (loX r))]) rfl sc.nd (dp 6 (e_call (lefts_in_ok T) hr (a_cons (e_var 3 rfl) (a_cons (e_var 4 rfl) a_nil)) ⟨r, ls, ok.w, nx, rfl, rfl⟩) (dp 7 (e_minM (l := r) (ψ := fun p : Sq => p.1) rfl T.min (e_lc0 (own := [("square", 8)]) (l := r) (f := sqD) (g := fun p => .int p.1) (.one 8) rfl sc.nd (i_tup (e_var 3 rfl)) (blkOk_by (by kernel_rfl)) (fun _ _ _ _ _ => t_one 8 sc.nd) fun p _ _ _ _ _ _ => (e_ix (e_var 8 rfl) e_int rfl)) (loX_mem ne) fun p hp => loX_le hp) dp_nil)) ?_)
  rintro _ rfl
  refine x_cons (s_if (p := decide (col r x = [])) (EvB.cast (b_c (c_eqD (rm64 hr) (e_call (column_at_ok T) hr (a_cons (e_var 3 rfl) (a_cons (e_var 5 rfl) a_nil)) ⟨r, x, rfl, rfl⟩) (e_tup a_nil) (pl_tup (fun p => pl_tD (sqK p)) (col r x)).shp rfl)) (eq_tup eq_sq (col r x) [])) (fun z => ?_) fun z => x_nil ?_)
  · obtain ⟨last, hla⟩ : ∃ last, (leftM r ls (pairsM r ls)).getLast? = some last := by
      cases hh : leftM r ls (pairsM r ls) with
      | nil => rw [hh] at hll; simp at hll; omega
      | cons a b => exact ⟨_, List.getLast?_eq_some_getLast (by simp)⟩
    have hd : leftD r ls x = if last = [] then .tup [] else .tup [.tup []] := by
      unfold leftD
      rw [if_pos (of_decide_eq_true z), hla]; rfl
    have hat : atI ((leftM r ls (pairsM r ls)).map rowsD) (-1) = some (rowsD last) := at_neg (k := (leftM r ls (pairsM r ls)).length - 1) (by rw [List.getElem?_map, ← List.getLast?_eq_getElem?, hla]; rfl) (by rw [List.length_map]; omega) (by decide)
    rw [hd]
    exact x_one (s_ret (e_if (p := !decide (last = [])) (EvB.cast (b_c (c_neD (rm64 hr) (e_ix (e_var 6 rfl) (e_neg e_int) hat) (e_lst a_nil) (pl_lst pl_tD last).shp rfl)) (congrArg Bool.not (eq_lst eq_tD last []))) (fun z => Ev.cast (e_tup (a_cons (e_tup a_nil) a_nil)) (by rw [if_neg (by simpa using z)])) fun z => Ev.cast (e_tup a_nil) (by rw [if_pos (by simpa using z)])) rfl)
  · have hne : col r x ≠ [] := of_decide_eq_false z
    obtain ⟨p, hp⟩ := List.exists_mem_of_ne_nil _ hne
    have hpr := List.mem_filter.mp hp
    have hpx : p.1 = x := of_decide_eq_true hpr.2
    have h1 := loX_le hpr.1
    have h2 := hiX_ge hpr.1
    rw [hpx] at h1 h2
    obtain ⟨y, hy⟩ : ∃ y, (leftM r ls (pairsM r ls))[(x - loX r).toNat]? = some y := ⟨_, List.getElem?_eq_getElem (by rw [hll]; omega)⟩
    have hd : leftD r ls x = rtD (setOf y) := by
      unfold leftD
      rw [if_neg hne, hy]; rfl
    rw [hd]
    obtain ⟨q, hq, hs1, hs2⟩ := leftM_sub r ls _ _ _ hy
    have hqm : q ∈ (cols r).zip (reachM r ls) := List.mem_of_getElem? hq
    have hz := reach_zip r ls (cols r) q hqm
    have hcnt := ok.w.cnt q.1 (List.of_mem_zip (a := q.1) (b := q.2) hqm).1
    refine x_one (s_ret (e_call (set_of_ok T) hr (a_cons (e_ix (e_var 6 rfl) (e_sub (e_var 5 rfl) (e_var 7 rfl)) (at_pos (k := (x - loX r).toNat) (by rw [List.getElem?_map, hy]; rfl) (by omega))) a_nil) ⟨y, y, fun _ h => h, ?_, ?_, rfl, rfl⟩) rfl)
    · have := hz.2.2; omega
    · by_cases h0 : q.1.length = 0
      · right; intro row hr; exact List.length_eq_zero_iff.mp ((hz.1 row (hs1 row hr)).trans h0)
      · left; intro row hr e; have := hz.1 row (hs1 row hr); rw [e] at this; exact h0 this.symm
end
end TR
/-! ## P1 -/
set_option Elab.async false
set_option linter.all false
set_option maxRecDepth 100000
namespace TR
/-! ### plain law 1: rows and kind functions -/
abbrev KF := Sq → Int
/-- a room in order -/
def SR (r : List Sq) : Prop := r.Pairwise fun a b => a.1 < b.1 ∨ (a.1 = b.1 ∧ a.2 < b.2)
theorem SR.nd {r : List Sq} (h : SR r) : r.Nodup := h.imp fun {a b} q e => by rw [e] at q; omega
structure C1 (r : List Sq) (ls : Lets) (f : KF) (x : Int) : Prop where
  k : ∀ p ∈ r, p.1 = x → f p ∈ kindsLet r ls p
  s : ∀ p ∈ r, p.1 = x → (p.1, p.2 - 1) ∈ r → (f (p.1, p.2 - 1) = 2 ↔ f p = 4)
def C2 (r : List Sq) (g f : KF) (x : Int) : Prop := ∀ p ∈ r, p.1 = x → (p.1 - 1, p.2) ∈ r → across (g (p.1 - 1, p.2)) (f p) = true ∧ ((∀ q ∈ fourOf p, q ∈ r) → about (g (p.1 - 1, p.2 - 1)) (g (p.1 - 1, p.2)) (f (p.1, p.2 - 1)) (f p) = true)
theorem C1.congr {r : List Sq} {ls : Lets} {f g : KF} {x : Int} (e : ∀ p ∈ r, p.1 = x → f p = g p) (h : C1 r ls f x) : C1 r ls g x := ⟨fun p hp hx => by rw [← e p hp hx]; exact h.k p hp hx, fun p hp hx hs => by rw [← e p hp hx, ← e _ hs (show (p.1, p.2 - 1).1 = x from hx)]; exact h.s p hp hx hs⟩
theorem C2.congr {r : List Sq} {f g f' g' : KF} {x : Int} (e : ∀ p ∈ r, p.1 = x → f p = f' p) (e' : ∀ p ∈ r, p.1 = x - 1 → g p = g' p) (h : C2 r g f x) : C2 r g' f' x := fun p hp hx hw => by
  obtain ⟨h1, h2⟩ := h p hp hx hw
  rw [← e p hp hx, ← e' (p.1 - 1, p.2) hw (by show p.1 - 1 = _; omega)]
  refine ⟨h1, fun h4 => ?_⟩
  rw [← e (p.1, p.2 - 1) (h4 _ (by simp [fourOf])) hx, ← e' (p.1 - 1, p.2 - 1) (h4 _ (by simp [fourOf])) (by show p.1 - 1 = _; omega)]
  exact h2 h4
/-! rows grown square by square -/
def rowsG (ks : Sq → List Int) (ok : Sq → List Int → Int → Bool) (sqs : List Sq) : List (List Int) := sqs.foldl (fun rows p => rows.flatMap fun row => ((ks p).filter (ok p row)).map fun k => row ++ [k]) [[]]
theorem rowsG_snoc (ks : Sq → List Int) (ok : Sq → List Int → Int → Bool) (sqs : List Sq) (p : Sq) : rowsG ks ok (sqs ++ [p]) = (rowsG ks ok sqs).flatMap fun row => ((ks p).filter (ok p row)).map fun k => row ++ [k] := by
  unfold rowsG; rw [List.foldl_append]; rfl
theorem snoc_split {α : Type} {l d e : List α} {p q : α} (h : l ++ [p] = d ++ q :: e) : (e = [] ∧ d = l ∧ q = p) ∨ ∃ e', e = e' ++ [p] ∧ l = d ++ q :: e' := by
  rcases List.eq_nil_or_concat e with rfl | ⟨e', a, rfl⟩
  · left
    have := List.append_inj' h rfl
    exact ⟨rfl, this.1.symm, (List.cons.inj this.2).1.symm⟩
  · right
    rw [List.concat_eq_append] at h ⊢
    rw [← List.cons_append, ← List.append_assoc] at h
    have := List.append_inj' h rfl
    have e := (List.cons.inj this.2).1
    exact ⟨e', by rw [e], this.1⟩
theorem mem_rowsG (ks : Sq → List Int) (ok : Sq → List Int → Int → Bool) (sqs : List Sq) : sqs.Nodup → ∀ row : List Int, row ∈ rowsG ks ok sqs ↔ ∃ f : KF, row = sqs.map f ∧ ∀ d p e, sqs = d ++ p :: e → f p ∈ ks p ∧ ok p (d.map f) (f p) = true := by
  induction sqs using snocRec with
  | h0 =>
    intro _ row
    constructor
    · intro h
      rw [List.mem_singleton.mp h]
      exact ⟨fun _ => 0, rfl, fun d p e h => by simp at h⟩
    · rintro ⟨f, rfl, _⟩; exact List.mem_singleton.mpr rfl
  | h1 sqs p ih =>
    intro nd row
    have nd1 := (List.nodup_append.mp nd).1
    have np : p ∉ sqs := fun z => (List.nodup_append.mp nd).2.2 p z p (by simp) rfl
    rw [rowsG_snoc, List.mem_flatMap]
    constructor
    · rintro ⟨row0, h0, hr⟩
      obtain ⟨k, hk, rfl⟩ := List.mem_map.mp hr
      obtain ⟨hk1, hk2⟩ := List.mem_filter.mp hk
      obtain ⟨f0, rfl, hf⟩ := (ih nd1 row0).mp h0
      have cg : ∀ l : List Sq, (∀ q ∈ l, q ∈ sqs) → l.map (fun q => if q = p then k else f0 q) = l.map f0 := fun l hl => List.map_congr_left fun q hq => if_neg fun z => np (by rw [← z]; exact hl q hq)
      refine ⟨fun q => if q = p then k else f0 q, ?_, ?_⟩
      · rw [List.map_append, cg sqs fun _ h => h]; simp
      · intro d q e h
        rcases snoc_split h with ⟨_, rfl, rfl⟩ | ⟨e', rfl, rfl⟩
        · rw [cg d fun _ h => h]; simp only [if_true]; exact ⟨hk1, hk2⟩
        · have hq : q ≠ p := fun z => np (by rw [← z]; simp)
          rw [cg d fun z hz => List.mem_append_left _ hz]
          simp only [if_neg hq]
          exact hf d q e' rfl
    · rintro ⟨f, rfl, h⟩
      refine ⟨sqs.map f, (ih nd1 _).mpr ⟨f, rfl, fun d q e hs => h d q (e ++ [p]) (by rw [hs]; simp)⟩, ?_⟩
      have := h sqs p [] rfl
      exact List.mem_map.mpr ⟨f p, List.mem_filter.mpr this, by simp⟩
theorem rowsBy_G (r : List Sq) (ls : Lets) (sqs : List Sq) : rowsBy r ls sqs = rowsG (kindsLet r ls) (fun _ row k => decide (k = 4) == joined row) sqs := rfl
theorem rowsBehind_G (r : List Sq) (ls : Lets) (sqs : List Sq) (ah : Ah) : rowsBehind r ls sqs ah = rowsG (kindsLet r ls) (fun p row k => letBehind r ah p k row.getLast? && (decide (k = 4) == joined row)) sqs := by
  unfold rowsBehind rowsG
  congr 1
  funext rows p
  unfold stepBehind
  simp only [List.filter_filter]
/-! a column in order -/
theorem col_mem {r : List Sq} {x : Int} {p : Sq} : p ∈ col r x ↔ p ∈ r ∧ p.1 = x := by
  unfold col; rw [List.mem_filter, decide_eq_true_eq]
theorem colUp {r : List Sq} (h : SR r) (x : Int) : (col r x).Pairwise fun a b => a.2 < b.2 := by
  have h1 : (col r x).Pairwise fun a b => a.1 < b.1 ∨ (a.1 = b.1 ∧ a.2 < b.2) := h.sublist List.filter_sublist
  refine h1.imp_of_mem fun {a b} ha hb q => ?_
  have := (col_mem.mp ha).2
  have := (col_mem.mp hb).2
  omega
theorem last_up {r : List Sq} (h : SR r) {x : Int} {d e : List Sq} {p : Sq} (hc : col r x = d ++ p :: e) (hu : (p.1, p.2 - 1) ∈ r) : d.getLast? = some (p.1, p.2 - 1) := by
  have hp : p ∈ col r x := by rw [hc]; simp
  have px := (col_mem.mp hp).2
  have up := colUp h x
  rw [hc] at up
  have hm : (p.1, p.2 - 1) ∈ col r x := col_mem.mpr ⟨hu, px⟩
  rw [hc] at hm
  obtain ⟨u1, u2, u3⟩ := List.pairwise_append.mp up
  have u4 := (List.pairwise_cons.mp u2).1
  have hd : (p.1, p.2 - 1) ∈ d := by
    rcases List.mem_append.mp hm with hm | hm
    · exact hm
    · rcases List.mem_cons.mp hm with e1 | hm
      · have := congrArg Prod.snd e1; simp at this; omega
      · have := u4 _ hm; simp at this; omega
  rcases List.eq_nil_or_concat d with rfl | ⟨d', q, rfl⟩
  · cases hd
  · rw [List.concat_eq_append] at *
    rw [List.getLast?_append]; simp
    rcases List.mem_append.mp hd with hd | hd
    · have a1 := (List.pairwise_append.mp u1).2.2 _ hd q (by simp)
      have a2 := u3 q (by simp) p (by simp)
      simp at a1
      omega
    · exact (List.mem_singleton.mp hd).symm
theorem last_dn {r : List Sq} (h : SR r) {x : Int} {d e : List Sq} {p q : Sq} (hc : col r x = d ++ p :: e) (hl : d.getLast? = some q) (hu : (q.1, q.2 + 1) ∈ r) : q = (p.1, p.2 - 1) := by
  have hp : p ∈ col r x := by rw [hc]; simp
  have px := (col_mem.mp hp).2
  have hqd : q ∈ d := List.mem_of_getLast? hl
  have hq : q ∈ col r x := by rw [hc]; exact List.mem_append_left _ hqd
  have qx := (col_mem.mp hq).2
  have up := colUp h x
  have hm : (q.1, q.2 + 1) ∈ col r x := col_mem.mpr ⟨hu, qx⟩
  rw [hc] at hm up
  obtain ⟨u1, u2, u3⟩ := List.pairwise_append.mp up
  have u4 := (List.pairwise_cons.mp u2).1
  have h1 := u3 q hqd p (by simp)
  have h2 : p.2 ≤ q.2 + 1 := by
    rcases List.mem_append.mp hm with hm | hm
    · rcases List.eq_nil_or_concat d with rfl | ⟨d', z, rfl⟩
      · cases hqd
      · rw [List.concat_eq_append] at *
        rw [List.getLast?_append] at hl; simp at hl
        subst hl
        rcases List.mem_append.mp hm with hm | hm
        · have := (List.pairwise_append.mp u1).2.2 _ hm z (by simp); simp at this; omega
        · have := congrArg Prod.snd (List.mem_singleton.mp hm); simp at this; omega
    · rcases List.mem_cons.mp hm with e1 | hm
      · have := congrArg Prod.snd e1; simp at this; omega
      · have := u4 _ hm; simp at this; omega
  obtain ⟨a, b⟩ := q
  obtain ⟨c, g⟩ := p
  simp at *
  omega
theorem kl_kinds {r : List Sq} {ls : Lets} {p : Sq} {k : Int} : k ∈ kindsLet r ls p ↔ k ∈ five ∧ led p k ∈ r ∧ allow ls p k = true := by
  unfold kindsLet kinds
  rw [List.mem_filter, List.mem_filter, decide_eq_true_eq, and_assoc]
theorem led2 (p : Sq) : led p 2 = (p.1, p.2 + 1) := by simp [led]
theorem led4 (p : Sq) : led p 4 = (p.1, p.2 - 1) := by simp [led]; rfl
theorem led1 (p : Sq) : led p 1 = (p.1 + 1, p.2) := by simp [led]
theorem led3 (p : Sq) : led p 3 = (p.1 - 1, p.2) := by simp [led]; rfl
theorem led0 (p : Sq) : led p 0 = p := by simp [led]
theorem joined_iff {r : List Sq} {ls : Lets} {f : KF} {x : Int} (h : SR r) (hk : ∀ p ∈ r, p.1 = x → f p ∈ kindsLet r ls p) {d e : List Sq} {p : Sq} (hc : col r x = d ++ p :: e) : joined (d.map f) = true ↔ (p.1, p.2 - 1) ∈ r ∧ f (p.1, p.2 - 1) = 2 := by
  unfold joined
  rw [decide_eq_true_eq, List.getLast?_map]
  constructor
  · intro z
    cases hl : d.getLast? with
    | none => rw [hl] at z; cases z
    | some q =>
      rw [hl] at z
      have z : f q = 2 := Option.some.inj z
      have hq : q ∈ col r x := by rw [hc]; exact List.mem_append_left _ (List.mem_of_getLast? hl)
      have hq := col_mem.mp hq
      have := (kl_kinds.mp (hk q hq.1 hq.2)).2.1
      rw [z, led2] at this
      have e := last_dn h hc hl this
      rw [← e]; exact ⟨hq.1, z⟩
  · rintro ⟨hu, z⟩
    rw [last_up h hc hu]
    show some (f _) = some 2
    rw [z]
/-- the rows of a column -/
theorem rows_c1 {r : List Sq} {ls : Lets} {f : KF} {x : Int} (h : SR r) : (∀ d p e, col r x = d ++ p :: e → f p ∈ kindsLet r ls p ∧ (decide (f p = 4) == joined (d.map f)) = true) ↔ C1 r ls f x := by
  have split : ∀ p ∈ r, p.1 = x → ∃ d e, col r x = d ++ p :: e := fun p hp hx => List.append_of_mem (col_mem.mpr ⟨hp, hx⟩)
  constructor
  · intro q
    have hk : ∀ p ∈ r, p.1 = x → f p ∈ kindsLet r ls p := fun p hp hx => by
      obtain ⟨d, e, hs⟩ := split p hp hx
      exact (q d p e hs).1
    refine ⟨hk, fun p hp hx hu => ?_⟩
    obtain ⟨d, e, hs⟩ := split p hp hx
    have h1 := (q d p e hs).2
    have h2 := joined_iff h hk hs
    rw [beq_iff_eq] at h1
    constructor
    · intro z
      have := h2.mpr ⟨hu, z⟩
      rw [this] at h1
      exact of_decide_eq_true h1
    · intro z
      rw [decide_eq_true z] at h1
      exact (h2.mp h1.symm).2
  · intro c d p e hs
    have hp : p ∈ col r x := by rw [hs]; simp
    have hp := col_mem.mp hp
    refine ⟨c.k p hp.1 hp.2, ?_⟩
    have h2 := joined_iff h c.k hs
    rw [beq_iff_eq, Bool.eq_iff_iff, decide_eq_true_eq, h2]
    constructor
    · intro z
      have := (kl_kinds.mp (c.k p hp.1 hp.2)).2.1
      rw [z, led4] at this
      exact ⟨this, (c.s p hp.1 hp.2 this).mpr z⟩
    · rintro ⟨hu, z⟩; exact (c.s p hp.1 hp.2 hu).mp z
theorem mem_rowsBy {r : List Sq} {ls : Lets} {x : Int} (h : SR r) {row : List Int} : row ∈ rowsBy r ls (col r x) ↔ ∃ f, C1 r ls f x ∧ row = (col r x).map f := by
  rw [rowsBy_G, mem_rowsG _ _ _ (col_nd h.nd x)]
  exact ⟨fun ⟨f, e, q⟩ => ⟨f, (rows_c1 h).mp q, e⟩, fun ⟨f, q, e⟩ => ⟨f, e, (rows_c1 h).mpr q⟩⟩
theorem mem_behind {r : List Sq} {ls : Lets} {x : Int} (h : SR r) {row : List Int} {ah : Ah} {g : KF} (hA : ∀ q ∈ r, q.1 = x - 1 → at0 ah q = g q) : row ∈ rowsBehind r ls (col r x) ah ↔ ∃ f, C1 r ls f x ∧ C2 r g f x ∧ row = (col r x).map f := by
  rw [rowsBehind_G, mem_rowsG _ _ _ (col_nd h.nd x)]
  have key : ∀ f : KF, (∀ d p e, col r x = d ++ p :: e → letBehind r ah p (f p) (d.map f).getLast? = true) ↔ C2 r g f x := fun f => by
    have one : ∀ d p e, col r x = d ++ p :: e → (letBehind r ah p (f p) (d.map f).getLast? = true ↔ ((p.1 - 1, p.2) ∈ r → across (g (p.1 - 1, p.2)) (f p) = true ∧ ((∀ q ∈ fourOf p, q ∈ r) → about (g (p.1 - 1, p.2 - 1)) (g (p.1 - 1, p.2)) (f (p.1, p.2 - 1)) (f p) = true))) := fun d p e hs => by
      have hp : p ∈ col r x := by rw [hs]; simp
      have hp := col_mem.mp hp
      unfold letBehind
      by_cases hw : (p.1 - 1, p.2) ∈ r
      · rw [if_pos hw, hA _ hw (by show p.1 - 1 = _; omega), Bool.and_eq_true]
        constructor
        · rintro ⟨a, b⟩ _
          refine ⟨a, fun h4 => ?_⟩
          have e4 : ((fourOf p).all fun q => decide (q ∈ r)) = true := List.all_eq_true.mpr fun q hq => decide_eq_true (h4 q hq)
          have hn : (p.1, p.2 - 1) ∈ r := h4 _ (by simp [fourOf])
          have hnw : (p.1 - 1, p.2 - 1) ∈ r := h4 _ (by simp [fourOf])
          rw [e4, hA _ hnw (by show p.1 - 1 = _; omega), List.getLast?_map, last_up h hs hn] at b
          exact b
        · intro q
          obtain ⟨a, b⟩ := q hw
          refine ⟨a, ?_⟩
          by_cases h4 : ∀ q ∈ fourOf p, q ∈ r
          · have e4 : ((fourOf p).all fun q => decide (q ∈ r)) = true := List.all_eq_true.mpr fun q hq => decide_eq_true (h4 q hq)
            have hn : (p.1, p.2 - 1) ∈ r := h4 _ (by simp [fourOf])
            have hnw : (p.1 - 1, p.2 - 1) ∈ r := h4 _ (by simp [fourOf])
            rw [e4, hA _ hnw (by show p.1 - 1 = _; omega), List.getLast?_map, last_up h hs hn]
            exact b h4
          · have e4 : ((fourOf p).all fun q => decide (q ∈ r)) = false := by
              rw [Bool.eq_false_iff]
              intro z
              exact h4 fun q hq => of_decide_eq_true (List.all_eq_true.mp z q hq)
            rw [e4]; rfl
      · rw [if_neg hw]
        exact ⟨fun _ z => absurd z hw, fun _ => rfl⟩
    constructor
    · intro q p hp hx hw
      obtain ⟨d, e, hs⟩ := List.append_of_mem (col_mem.mpr ⟨hp, hx⟩)
      exact (one d p e hs).mp (q d p e hs) hw
    · intro q d p e hs
      have hp : p ∈ col r x := by rw [hs]; simp
      have hp := col_mem.mp hp
      exact (one d p e hs).mpr (q p hp.1 hp.2)
  constructor
  · rintro ⟨f, e, q⟩
    refine ⟨f, (rows_c1 h).mp fun d p e hs => ⟨(q d p e hs).1, ?_⟩, (key f).mp fun d p e hs => ?_, e⟩
    · have := (q d p e hs).2; rw [Bool.and_eq_true] at this; exact this.2
    · have := (q d p e hs).2; rw [Bool.and_eq_true] at this; exact this.1
  · rintro ⟨f, c1, c2, e⟩
    refine ⟨f, e, fun d p e hs => ⟨((rows_c1 h).mpr c1 d p e hs).1, ?_⟩⟩
    rw [Bool.and_eq_true]
    exact ⟨(key f).mpr c2 d p e hs, ((rows_c1 h).mpr c1 d p e hs).2⟩
end TR
/-! ## P2 -/
set_option Elab.async false
set_option linter.all false
set_option maxRecDepth 100000
namespace TR
/-! ### plain law 2: reaches, lefts -/
theorem rowsG_nd (ks : Sq → List Int) (ok : Sq → List Int → Int → Bool) (hk : ∀ p, (ks p).Nodup) (sqs : List Sq) : (rowsG ks ok sqs).Nodup := by
  induction sqs using snocRec with
  | h0 => exact List.pairwise_singleton _ _
  | h1 sqs p ih =>
    rw [rowsG_snoc]
    unfold List.Nodup
    rw [List.pairwise_flatMap]
    refine ⟨fun row _ => List.pairwise_map.mpr (((hk p).filter _).imp fun n z => n (List.append_cancel_left z |> List.cons.inj).1), ih.imp fun {a b} n x hx y hy z => ?_⟩
    obtain ⟨k, _, rfl⟩ := List.mem_map.mp hx
    obtain ⟨j, _, rfl⟩ := List.mem_map.mp hy
    exact n (List.append_inj' z rfl).1
theorem rowsBy_nd (r : List Sq) (ls : Lets) (sqs : List Sq) : (rowsBy r ls sqs).Nodup := rowsG_nd _ _ (kindsLet_nd r ls) sqs
theorem rSort_lt {l : List (List Int)} (h : l.Nodup) : (rSort l).Pairwise (· < ·) := by
  have h1 : (rSort l).Nodup := (rSort_perm l).symm.nodup h
  exact (rSort_up l).imp₂ (fun {a b} q n => Std.lt_of_le_of_ne q n) h1
/-! zips -/
theorem lookA_zip (g : KF) : ∀ (c : List Sq) (q : Sq), lookA (c.zip (c.map g)) q = if q ∈ c then some (g q) else none
  | [], q => by simp [lookA]
  | p :: c, q => by
    have ih := lookA_zip g c q
    unfold lookA at ih ⊢
    rw [List.map_cons, List.zip_cons_cons, List.find?_cons]
    by_cases e : p = q
    · simp [e]
    · simp only [e, decide_false]
      rw [ih]
      by_cases h : q ∈ c
      · simp [h]
      · have : ¬ q ∈ p :: c := fun z => (List.mem_cons.mp z).elim (fun z => e z.symm) h
        simp [h, this]
theorem at0_zip {g : KF} {c : List Sq} {q : Sq} (h : q ∈ c) : at0 (c.zip (c.map g)) q = g q := by unfold at0; rw [lookA_zip, if_pos h]; rfl
def cut3 (k : Int) : Int := if k = 3 then 0 else k
theorem key_map (c : List Sq) (f : KF) : key (c.map f) = c.map fun q => cut3 (f q) := by unfold key; rw [List.map_map]; rfl
theorem across_cut (a b : Int) : across (cut3 a) b = across a b := by
  unfold across cut3
  by_cases h : a = 3
  · rw [h]; rfl
  · rw [if_neg h]
theorem about_cut (a b c d : Int) : about (cut3 a) (cut3 b) c d = about a b c d := by
  unfold about cut3
  by_cases h : a = 3 <;> by_cases h' : b = 3 <;> simp [h, h']
theorem C2.cut {r : List Sq} {g f : KF} {x : Int} : C2 r (fun q => cut3 (g q)) f x ↔ C2 r g f x := by
  unfold C2
  simp only [across_cut, about_cut]
/-! kind functions of the west -/
def PF (r : List Sq) (ls : Lets) (f : KF) (X : Int) : Prop := (∀ x, x ≤ X → C1 r ls f x) ∧ ∀ x, x ≤ X → C2 r f f x
def glue (X : Int) (f g : KF) : KF := fun q => if q.1 ≤ X then f q else g q
theorem PF.mono {r : List Sq} {ls : Lets} {f : KF} {X Y : Int} (h : PF r ls f Y) (q : X ≤ Y) : PF r ls f X := ⟨fun x hx => h.1 x (by omega), fun x hx => h.2 x (by omega)⟩
theorem PF.glue {r : List Sq} {ls : Lets} {f g : KF} {X Y : Int} (h : PF r ls f X) (h1 : ∀ x, X < x → x ≤ Y → C1 r ls g x) (h2 : ∀ x, X + 1 < x → x ≤ Y → C2 r g g x) (h3 : C2 r f g (X + 1)) : PF r ls (glue X f g) Y := by
  have lo : ∀ p : Sq, p.1 ≤ X → f p = TR.glue X f g p := fun p hp => by unfold TR.glue; rw [if_pos hp]
  have hi : ∀ p : Sq, X < p.1 → g p = TR.glue X f g p := fun p hp => by unfold TR.glue; rw [if_neg (by omega)]
  constructor
  · intro x hx
    by_cases c : x ≤ X
    · exact (h.1 x c).congr fun p _ e => lo p (by omega)
    · exact (h1 x (by omega) hx).congr fun p _ e => hi p (by omega)
  · intro x hx
    by_cases c : x ≤ X
    · exact (h.2 x c).congr (fun p _ e => lo p (by omega)) fun p _ e => lo p (by omega)
    · by_cases c2 : x = X + 1
      · subst c2
        exact h3.congr (fun p _ e => hi p (by omega)) fun p _ e => lo p (by omega)
      · exact (h2 x (by omega) hx).congr (fun p _ e => hi p (by omega)) fun p _ e => hi p (by omega)
/-! ### the sets of the walk -/
def cx (r : List Sq) (k : Nat) : List Sq := col r (loX r + (k : Int))
def nC (r : List Sq) : Nat := (hiX r + 1 - loX r).toNat
def RS (r : List Sq) (ls : Lets) : Nat → List (List Int)
  | 0 => stepR r ls (cx r 0) [[]]
  | k + 1 => stepR r ls (cx r (k + 1)) (nextA (cx r k) (RS r ls k))
def aheadsOf (r : List Sq) (ls : Lets) : Nat → List Ah
  | 0 => [[]]
  | k + 1 => nextA (cx r k) (RS r ls k)
theorem RS_step (r : List Sq) (ls : Lets) (k : Nat) : RS r ls k = stepR r ls (cx r k) (aheadsOf r ls k) := by cases k <;> rfl
theorem cols_range (r : List Sq) : cols r = (List.range (nC r)).map (cx r) := by unfold cols xs nC cx; rw [List.map_map]; rfl
theorem reachSt_range (r : List Sq) (ls : Lets) : ∀ k, reachSt r ls ((List.range k).map (cx r)) = ((List.range k).map (RS r ls), aheadsOf r ls k)
  | 0 => rfl
  | k + 1 => by
    rw [List.range_succ, List.map_append, List.map_append, List.map_singleton, List.map_singleton, reachSt_snoc, reachSt_range r ls k]
    show (_ ++ [stepR r ls (cx r k) (aheadsOf r ls k)], nextA (cx r k) (stepR r ls (cx r k) (aheadsOf r ls k))) = _
    rw [← RS_step]; rfl
theorem reachM_range (r : List Sq) (ls : Lets) : reachM r ls = (List.range (nC r)).map (RS r ls) := by unfold reachM; rw [cols_range, reachSt_range]
theorem lo_none {r : List Sq} {p : Sq} (h : p ∈ r) (q : p.1 < loX r) : False := by have := loX_le h; omega
theorem mem_RS {r : List Sq} {ls : Lets} (h : SR r) : ∀ (k : Nat) (row : List Int), row ∈ RS r ls k ↔ ∃ f, PF r ls f (loX r + (k : Int)) ∧ row = (cx r k).map f
  | 0, row => by
    show row ∈ setOf _ ↔ _
    rw [setOf_mem, List.flatMap_singleton]
    unfold cx
    rw [mem_behind (g := fun _ => 0) h (fun q hq e => (lo_none hq (by omega)).elim)]
    constructor
    · rintro ⟨f, c1, _, e⟩
      refine ⟨f, ⟨fun x hx => ?_, fun x hx p hp e hw => (lo_none hw (by show p.1 - 1 < _; omega)).elim⟩, e⟩
      by_cases c : x = loX r + ((0 : Nat) : Int)
      · rw [c]; exact c1
      · exact ⟨fun p hp e => (lo_none hp (by omega)).elim, fun p hp e => (lo_none hp (by omega)).elim⟩
    · rintro ⟨f, c, e⟩
      exact ⟨f, c.1 _ (Int.le_refl _), fun p hp e hw => (lo_none hw (by show p.1 - 1 < _; omega)).elim, e⟩
  | k + 1, row => by
    show row ∈ setOf _ ↔ _
    rw [setOf_mem, List.mem_flatMap]
    have hA : ∀ f : KF, ∀ q ∈ r, q.1 = loX r + ((k + 1 : Nat) : Int) - 1 → at0 ((cx r k).zip (key ((cx r k).map f))) q = cut3 (f q) := fun f q hq e => by
      rw [key_map]
      exact at0_zip (g := fun q => cut3 (f q)) (col_mem.mpr ⟨hq, by omega⟩)
    constructor
    · rintro ⟨ah, ha, hr⟩
      obtain ⟨k', hk', rfl⟩ := List.mem_map.mp ha
      obtain ⟨a, haR, rfl⟩ := List.mem_map.mp (setOf_mem.mp hk')
      obtain ⟨f, pf, rfl⟩ := (mem_RS h k a).mp haR
      obtain ⟨g, c1, c2, e⟩ := (mem_behind h (hA f)).mp hr
      have c2 := C2.cut.mp c2
      refine ⟨glue (loX r + (k : Int)) f g, pf.glue (fun x h1 h2 => ?_) (fun x h1 h2 => ?_) ?_, ?_⟩
      · rw [show x = loX r + ((k + 1 : Nat) : Int) by omega]; exact c1
      · omega
      · rw [show loX r + (k : Int) + 1 = loX r + ((k + 1 : Nat) : Int) by omega]; exact c2
      · rw [e]
        refine List.map_congr_left fun q hq => ?_
        have := (col_mem.mp hq).2
        unfold glue; rw [if_neg (by omega)]
    · rintro ⟨f, pf, e⟩
      refine ⟨(cx r k).zip (key ((cx r k).map f)), List.mem_map.mpr ⟨_, setOf_mem.mpr (List.mem_map.mpr ⟨_, (mem_RS h k _).mpr ⟨f, pf.mono (by omega), rfl⟩, rfl⟩), rfl⟩, ?_⟩
      exact (mem_behind h (hA f)).mpr ⟨f, pf.1 _ (Int.le_refl _), C2.cut.mpr (pf.2 _ (Int.le_refl _)), e⟩
theorem RS_up (r : List Sq) (ls : Lets) (k : Nat) : (RS r ls k).Pairwise (· < ·) := by rw [RS_step]; exact setOf_up _
/-! what fits behind -/
theorem rowFits_iff {r : List Sq} {g f : KF} {x : Int} : rowFits r x ((col r (x - 1)).map g) ((col r x).map f) = true ↔ C2 r g f x := by
  have kE : ((eastA r x ((col r x).map f)).map (·.1)) = col r x := zip_keys (by rw [List.length_map])
  have hb : ∀ p : Sq, p ∈ bothA (westA r x ((col r (x - 1)).map g)) (eastA r x ((col r x).map f)) x ↔ p ∈ r ∧ p.1 = x ∧ (x - 1, p.2) ∈ r := fun p => by
    unfold bothA
    rw [List.mem_filter, kE, col_mem]
    unfold westA
    rw [lookA_zip]
    by_cases c : (x - 1, p.2) ∈ col r (x - 1)
    · rw [if_pos c]; simp [and_assoc]; intro _ _; exact (col_mem.mp c).1
    · rw [if_neg c]; simp; intro _ _ z; exact c (col_mem.mpr ⟨z, rfl⟩)
  have wA : ∀ q ∈ r, q.1 = x - 1 → at0 (westA r x ((col r (x - 1)).map g)) q = g q := fun q hq e => at0_zip (col_mem.mpr ⟨hq, e⟩)
  have eA : ∀ q ∈ r, q.1 = x → at0 (eastA r x ((col r x).map f)) q = f q := fun q hq e => at0_zip (col_mem.mpr ⟨hq, e⟩)
  unfold rowFits
  simp only [Bool.and_eq_true, List.all_eq_true, List.mem_filter, hb, decide_eq_true_eq]
  constructor
  · rintro ⟨h1, h2⟩ p hp hx hw
    have hw' : (x - 1, p.2) ∈ r := by rw [← hx]; exact hw
    have a := h1 p ⟨hp, hx, hw'⟩
    rw [wA _ hw' rfl, eA _ hp hx] at a
    refine ⟨by rw [hx]; exact a, fun h4 => ?_⟩
    have b := h2 p ⟨⟨hp, hx, hw'⟩, h4⟩
    rw [wA _ (h4 (p.1 - 1, p.2 - 1) (by simp [fourOf])) (by show p.1 - 1 = _; omega), wA _ (h4 (p.1 - 1, p.2) (by simp [fourOf])) (by show p.1 - 1 = _; omega), eA _ (h4 (p.1, p.2 - 1) (by simp [fourOf])) hx, eA _ (h4 (p.1, p.2) (by simp [fourOf])) hx] at b
    exact b
  · intro q
    constructor
    · rintro p ⟨hp, hx, hw⟩
      rw [wA _ hw rfl, eA _ hp hx]
      have := (q p hp hx (by rw [hx]; exact hw)).1
      rw [hx] at this; exact this
    · rintro p ⟨⟨hp, hx, hw⟩, h4⟩
      rw [wA _ (h4 (p.1 - 1, p.2 - 1) (by simp [fourOf])) (by show p.1 - 1 = _; omega), wA _ (h4 (p.1 - 1, p.2) (by simp [fourOf])) (by show p.1 - 1 = _; omega), eA _ (h4 (p.1, p.2 - 1) (by simp [fourOf])) hx, eA _ (h4 (p.1, p.2) (by simp [fourOf])) hx]
      exact (q p hp hx (by rw [hx]; exact hw)).2 h4
/-! the law's reaches -/
def lawRows (r : List Sq) (ls : Lets) (x : Int) : List (List Int) := rSort (rowsBy r ls (col r x))
def lawStep (r : List Sq) (ls : Lets) (found : List (List (List Int))) (x : Int) : List (List Int) := match found.getLast? with
  | none => lawRows r ls x
  | some its => (lawRows r ls x).filter fun own => its.any fun i => rowFits r x i own
def lawSt (r : List Sq) (ls : Lets) (l : List Int) : List (List (List Int)) := l.foldl (fun found x => found ++ [lawStep r ls found x]) []
theorem lawSt_snoc (r : List Sq) (ls : Lets) (l : List Int) (x : Int) : lawSt r ls (l ++ [x]) = lawSt r ls l ++ [lawStep r ls (lawSt r ls l) x] := by
  unfold lawSt; rw [List.foldl_append]; rfl
theorem lawRows_mem {r : List Sq} {ls : Lets} {x : Int} {row : List Int} : row ∈ lawRows r ls x ↔ row ∈ rowsBy r ls (col r x) := (rSort_perm _).mem_iff
theorem lawRows_up (r : List Sq) (ls : Lets) (x : Int) : (lawRows r ls x).Pairwise (· < ·) := rSort_lt (rowsBy_nd _ _ _)
theorem up_ext {l m : List (List Int)} (h1 : l.Pairwise (· < ·)) (h2 : m.Pairwise (· < ·)) (e : ∀ z, z ∈ l ↔ z ∈ m) : l = m :=
  up_eq (h1.imp List.le_of_lt) (h2.imp List.le_of_lt) ((List.perm_ext_iff_of_nodup (up_nodup h1) (up_nodup h2)).mpr e)
theorem map_agree {c : List Sq} {f g : KF} (h : c.map f = c.map g) : ∀ q ∈ c, f q = g q := List.map_inj_left.mp h
theorem lawSt_range {r : List Sq} {ls : Lets} (h : SR r) : ∀ k, lawSt r ls ((List.range k).map fun i : Nat => loX r + (i : Int)) = (List.range k).map (RS r ls)
  | 0 => rfl
  | k + 1 => by
    rw [List.range_succ, List.map_append, List.map_append, List.map_singleton, List.map_singleton, lawSt_snoc, lawSt_range h k]
    congr 2
    unfold lawStep
    cases k with
    | zero =>
      refine up_ext (lawRows_up _ _ _) (RS_up _ _ _) fun row => ?_
      show row ∈ lawRows r ls _ ↔ row ∈ setOf _
      rw [lawRows_mem]
      rw [setOf_mem, List.flatMap_singleton]
      unfold cx
      rw [mem_behind (g := fun _ => 0) h (fun q hq e => (lo_none hq (by omega)).elim), mem_rowsBy h]
      exact ⟨fun ⟨f, c, e⟩ => ⟨f, c, fun p hp e hw => (lo_none hw (by show p.1 - 1 < _; omega)).elim, e⟩, fun ⟨f, c, _, e⟩ => ⟨f, c, e⟩⟩
    | succ k =>
      rw [show ((List.range (k + 1)).map (RS r ls)).getLast? = some (RS r ls k) by rw [List.range_succ, List.map_append, List.getLast?_append]; rfl]
      dsimp only
      refine up_ext ((lawRows_up _ _ _).filter _) (RS_up _ _ _) fun row => ?_
      rw [List.mem_filter, lawRows_mem, mem_rowsBy h, List.any_eq_true, mem_RS h]
      have hc : col r (loX r + ((k + 1 : Nat) : Int) - 1) = cx r k := by unfold cx; congr 1; omega
      constructor
      · rintro ⟨⟨g, c1, e⟩, its, hi, hf⟩
        obtain ⟨f, pf, rfl⟩ := (mem_RS h k its).mp hi
        rw [e, ← hc, rowFits_iff] at hf
        refine ⟨glue (loX r + (k : Int)) f g, pf.glue (fun x h1 h2 => ?_) (fun x h1 h2 => ?_) ?_, ?_⟩
        · rw [show x = loX r + ((k + 1 : Nat) : Int) by omega]; exact c1
        · omega
        · rw [show loX r + (k : Int) + 1 = loX r + ((k + 1 : Nat) : Int) by omega]; exact hf
        · rw [e]
          refine List.map_congr_left fun q hq => ?_
          have := (col_mem.mp hq).2
          unfold glue; rw [if_neg (by omega)]
      · rintro ⟨f, pf, e⟩
        refine ⟨⟨f, pf.1 _ (Int.le_refl _), e⟩, (cx r k).map f, (mem_RS h k _).mpr ⟨f, pf.mono (by omega), rfl⟩, ?_⟩
        rw [e, ← hc]
        exact rowFits_iff.mpr (pf.2 _ (Int.le_refl _))
theorem law_reaches_eq {r : List Sq} {ls : Lets} (h : SR r) : lawSt r ls (xs r) = reachM r ls := by
  rw [reachM_range]; exact lawSt_range h _
/-! the rows left -/
theorem pairsM_range (r : List Sq) (ls : Lets) : pairsM r ls = (List.range (nC r)).map fun k => (cx r k, RS r ls k) := by
  unfold pairsM; rw [cols_range, reachM_range, ← List.zip_map', ]
def prs (r : List Sq) (ls : Lets) (k n : Nat) : List (List Sq × List (List Int)) := (List.range' k n).map fun k => (cx r k, RS r ls k)
theorem leftM_drop (r : List Sq) (ls : Lets) : ∀ (l : List (List Sq × List (List Int))) (k : Nat), (leftM r ls l)[k]? = (leftM r ls (l.drop k)).head?
  | [], k => by simp [leftM]
  | [q], 0 => by simp [leftM]
  | [q], k + 1 => by simp [leftM]
  | q :: q' :: rest, 0 => by simp [leftM]
  | q :: q' :: rest, k + 1 => by
    rw [leftM, List.getElem?_cons_succ, List.drop_succ_cons]
    exact leftM_drop r ls (q' :: rest) k
theorem mem_LS {r : List Sq} {ls : Lets} (h : SR r) : ∀ (n k : Nat) (row : List Int), row ∈ ((leftM r ls (prs r ls k (n + 1))).headD []) ↔ ∃ f, PF r ls f (loX r + ((k + n : Nat) : Int)) ∧ row = (cx r k).map f
  | 0, k, row => by
    show row ∈ RS r ls k ↔ _
    exact mem_RS h k row
  | n + 1, k, row => by
    have ih := mem_LS (ls := ls) h n (k + 1)
    show row ∈ leftStep r ls (cx r k) (RS r ls k) (cx r (k + 1)) ((leftM r ls (prs r ls (k + 1) (n + 1))).headD []) ↔ _
    unfold leftStep
    rw [List.mem_filter, mem_RS h, List.any_eq_true]
    simp only [decide_eq_true_eq, ih]
    have hA : ∀ f : KF, ∀ q ∈ r, q.1 = loX r + ((k + 1 : Nat) : Int) - 1 → at0 ((cx r k).zip ((cx r k).map f)) q = f q := fun f q hq e => at0_zip (col_mem.mpr ⟨hq, by omega⟩)
    constructor
    · rintro ⟨⟨f, pf, rfl⟩, on, ho, g, pg, e⟩
      obtain ⟨g', c1, c2, e'⟩ := (mem_behind h (hA f)).mp ho
      rw [e] at e'
      have ag := map_agree e'
      have c3 : C2 r f g (loX r + ((k + 1 : Nat) : Int)) := c2.congr (fun p hp hx => (ag p (col_mem.mpr ⟨hp, hx⟩)).symm) fun _ _ _ => rfl
      refine ⟨glue (loX r + (k : Int)) f g, pf.glue (fun x h1 h2 => pg.1 x (by omega)) (fun x h1 h2 => pg.2 x (by omega)) ?_, ?_⟩
      · rw [show loX r + (k : Int) + 1 = loX r + ((k + 1 : Nat) : Int) by omega]; exact c3
      · refine List.map_congr_left fun q hq => ?_
        have := (col_mem.mp hq).2
        unfold glue; rw [if_pos (by omega)]
    · rintro ⟨f, pf, rfl⟩
      refine ⟨⟨f, pf.mono (by omega), rfl⟩, (cx r (k + 1)).map f, (mem_behind h (hA f)).mpr ⟨f, pf.1 _ (by omega), pf.2 _ (by omega), rfl⟩, f, ?_, rfl⟩
      rw [show (k + 1 + n : Nat) = k + (n + 1) by omega]; exact pf
theorem mem_left {r : List Sq} {ls : Lets} (h : SR r) {k : Nat} (hk : k < nC r) (row : List Int) : row ∈ ((leftM r ls (pairsM r ls))[k]?.getD []) ↔ ∃ f, PF r ls f (hiX r) ∧ row = (cx r k).map f := by
  have e : (pairsM r ls).drop k = prs r ls k (nC r - 1 - k + 1) := by
    rw [pairsM_range, List.range_eq_range', ← List.map_drop]
    unfold prs
    rw [List.drop_range']
    congr 2 <;> omega
  rw [leftM_drop, e]
  have := mem_LS (ls := ls) h (nC r - 1 - k) k row
  rw [List.headD_eq_head?_getD] at this
  rw [this]
  have hh : loX r + ((k + (nC r - 1 - k) : Nat) : Int) = hiX r := by unfold nC at *; omega
  rw [hh]
end TR
/-! ## P3 -/
set_option Elab.async false
set_option linter.all false
set_option maxRecDepth 100000
namespace TR
/-! ### plain law 3: floors -/
def cut2 (k : Int) : Int := if k < 3 then k else 0
/-- the kinds next, by the kinds west, north, northwest, southwest -/
def kindsN (w n c b : Option Int) (e s : Bool) : List Int :=
  if w = some 1 ∧ n = some 2 then [] else if w = some 1 ∨ n = some 2 then [if w = some 1 then 3 else 4]
  else if (w.isSome && n.isSome && c.isSome && !(decide (c = some 1) || decide (c = some 2))) = true then [] else [0] ++ (if e then [1] else []) ++ (if s && !decide (b = some 1) then [2] else [])
theorem kindsN_five (w n c b : Option Int) (e s : Bool) : five.filter (fun k => decide (k ∈ kindsN w n c b e s)) = kindsN w n c b e s := by
  unfold kindsN
  split
  · rfl
  · split
    · split <;> decide
    · split
      · rfl
      · cases e <;> cases (s && !decide (b = some 1)) <;> decide
theorem kindsN_le (w n c b : Option Int) (e s : Bool) : (kindsN w n c b e s).length ≤ 3 := by
  unfold kindsN
  split
  · decide
  · split
    · exact Nat.le_of_ble_eq_true rfl
    · split
      · decide
      · cases e <;> cases (s && !decide (b = some 1)) <;> decide
def seen (r : List Sq) (laid : List Int) (q : Sq) : Option Int := (lookA (r.zip laid) q).map cut2
def nextS (r : List Sq) (p : Sq) (laid : List Int) : List Int := kindsN (seen r laid (p.1 - 1, p.2)) (seen r laid (p.1, p.2 - 1)) (seen r laid (p.1 - 1, p.2 - 1)) (seen r laid (p.1 - 1, p.2 + 1)) (decide (led p 1 ∈ r)) (decide (led p 2 ∈ r))
def laids (r : List Sq) (sqs : List Sq) : List (List Int) := sqs.foldl (fun found p => found.flatMap fun laid => (nextS r p laid).map fun k => laid ++ [k]) [[]]
theorem laids_G (r : List Sq) (sqs : List Sq) : laids r sqs = rowsG (fun _ => five) (fun p laid k => decide (k ∈ nextS r p laid)) sqs := by
  unfold laids rowsG
  congr 1
  funext found p
  congr 1
  funext laid
  rw [show five.filter (fun k => decide (k ∈ nextS r p laid)) = nextS r p laid from kindsN_five _ _ _ _ _ _]
theorem laids_snoc (r : List Sq) (sqs : List Sq) (p : Sq) : laids r (sqs ++ [p]) = (laids r sqs).flatMap fun laid => (nextS r p laid).map fun k => laid ++ [k] := by
  unfold laids; rw [List.foldl_append]; rfl
theorem flat_len {α β : Type} {g : α → List β} {n : Nat} (h : ∀ a, (g a).length ≤ n) : ∀ l : List α, (l.flatMap g).length ≤ l.length * n
  | [] => by simp
  | a :: l => by
    have := flat_len h l
    have := h a
    rw [List.flatMap_cons, List.length_append, List.length_cons, Nat.succ_mul]
    omega
theorem laids_le (r : List Sq) (sqs : List Sq) : (laids r sqs).length ≤ 3 ^ sqs.length := by
  induction sqs using snocRec with
  | h0 => exact Nat.le_refl _
  | h1 sqs p ih =>
    rw [laids_snoc, List.length_append]
    refine Nat.le_trans (flat_len (n := 3) (fun laid => by rw [List.length_map]; exact kindsN_le _ _ _ _ _ _) _) ?_
    show _ ≤ 3 ^ (sqs.length + 1)
    rw [Nat.pow_succ]
    exact Nat.mul_le_mul_right 3 ih
theorem laids_len (r : List Sq) (sqs : List Sq) : ∀ laid ∈ laids r sqs, laid.length = sqs.length := by
  induction sqs using snocRec with
  | h0 => intro row h; rw [List.mem_singleton.mp h]; rfl
  | h1 sqs p ih =>
    rw [laids_snoc]
    intro row h
    obtain ⟨l, hl, hr⟩ := List.mem_flatMap.mp h
    obtain ⟨k, _, rfl⟩ := List.mem_map.mp hr
    rw [List.length_append, List.length_append, ih l hl]; rfl
/-- all floors -/
def floorsM (r : List Sq) : List (List Int) := rSort (laids r r)
/-- floors told square by square -/
structure Fl (r : List Sq) (f : KF) : Prop where
  k : ∀ p ∈ r, f p ∈ five ∧ led p (f p) ∈ r
  s : ∀ p ∈ r, (p.1, p.2 - 1) ∈ r → (f (p.1, p.2 - 1) = 2 ↔ f p = 4)
  w : ∀ p ∈ r, (p.1 - 1, p.2) ∈ r → (f (p.1 - 1, p.2) = 1 ↔ f p = 3)
  t : ∀ p ∈ r, (∀ q ∈ fourOf p, q ∈ r) → about (f (p.1 - 1, p.2 - 1)) (f (p.1 - 1, p.2)) (f (p.1, p.2 - 1)) (f p) = true
theorem across_iff {a b : Int} : across a b = true ↔ (a = 1 ↔ b = 3) := by
  unfold across
  rw [beq_iff_eq]
  by_cases h : a = 1 <;> by_cases h' : b = 3 <;> simp [h, h']
theorem allow_nil (p : Sq) (k : Int) : allow [] p k = true := rfl
theorem fl_pf {r : List Sq} {f : KF} : Fl r f ↔ PF r [] f (hiX r) := by
  constructor
  · intro h
    refine ⟨fun x _ => ⟨fun p hp _ => kl_kinds.mpr ⟨(h.k p hp).1, (h.k p hp).2, rfl⟩, fun p hp _ => h.s p hp⟩, fun x _ p hp _ hw => ⟨across_iff.mpr (h.w p hp hw), fun h4 => h.t p hp h4⟩⟩
  · intro h
    refine ⟨fun p hp => ?_, fun p hp => ?_, fun p hp hw => ?_, fun p hp h4 => ?_⟩
    · have := kl_kinds.mp ((h.1 p.1 (hiX_ge hp)).k p hp rfl); exact ⟨this.1, this.2.1⟩
    · exact (h.1 p.1 (hiX_ge hp)).s p hp rfl
    · exact across_iff.mp (h.2 p.1 (hiX_ge hp) p hp rfl hw).1
    · exact (h.2 p.1 (hiX_ge hp) p hp rfl (h4 _ (by simp [fourOf]))).2 h4
theorem sr_in {r d e : List Sq} {p q : Sq} (h : SR r) (hs : r = d ++ p :: e) (hq : q.1 < p.1 ∨ (q.1 = p.1 ∧ q.2 < p.2)) : q ∈ d ↔ q ∈ r := by
  constructor
  · intro z; rw [hs]; exact List.mem_append_left _ z
  · intro z
    rw [hs] at z h
    rcases List.mem_append.mp z with z | z
    · exact z
    · rcases List.mem_cons.mp z with z | z
      · rw [z] at hq; omega
      · have := (List.pairwise_cons.mp (List.pairwise_append.mp h).2.1).1 q z; omega
theorem seen_eq {r d e : List Sq} {p q : Sq} {f : KF} (h : SR r) (hs : r = d ++ p :: e) (hq : q.1 < p.1 ∨ (q.1 = p.1 ∧ q.2 < p.2)) : seen r (d.map f) q = if q ∈ r then some (cut2 (f q)) else none := by
  unfold seen
  have e1 : r.zip (d.map f) = d.zip (d.map f) := by
    rw [hs]
    have : (d ++ p :: e).zip (d.map f ++ []) = d.zip (d.map f) ++ (p :: e).zip [] := List.zip_append (by rw [List.length_map])
    rw [List.append_nil, List.zip_nil_right, List.append_nil] at this
    exact this
  rw [e1, lookA_zip]
  by_cases c : q ∈ r
  · rw [if_pos c, if_pos ((sr_in h hs hq).mpr c)]; rfl
  · rw [if_neg c, if_neg fun z => c ((sr_in h hs hq).mp z)]; rfl
theorem cut2_1 {a : Int} : cut2 a = 1 ↔ a = 1 := by unfold cut2; split <;> omega
theorem cut2_2 {a : Int} : cut2 a = 2 ↔ a = 2 := by unfold cut2; split <;> omega
theorem some_if {P : Prop} [Decidable P] {a b : Int} : (if P then some a else none) = some b ↔ P ∧ a = b := by split <;> simp_all
theorem some_is {P : Prop} [Decidable P] {a : Int} : (if P then some a else none).isSome = decide P := by split <;> simp_all
/-- one step of the law, as a condition -/
theorem next_iff {r d e : List Sq} {p : Sq} {f : KF} (h : SR r) (hs : r = d ++ p :: e) : f p ∈ nextS r p (d.map f) ↔
    (¬ (((p.1 - 1, p.2) ∈ r ∧ f (p.1 - 1, p.2) = 1) ∧ ((p.1, p.2 - 1) ∈ r ∧ f (p.1, p.2 - 1) = 2))) ∧
    ((((p.1 - 1, p.2) ∈ r ∧ f (p.1 - 1, p.2) = 1) ∧ f p = 3) ∨ (((p.1, p.2 - 1) ∈ r ∧ f (p.1, p.2 - 1) = 2) ∧ f p = 4) ∨
      ((¬ ((p.1 - 1, p.2) ∈ r ∧ f (p.1 - 1, p.2) = 1)) ∧ (¬ ((p.1, p.2 - 1) ∈ r ∧ f (p.1, p.2 - 1) = 2)) ∧
        (((p.1 - 1, p.2) ∈ r ∧ (p.1, p.2 - 1) ∈ r ∧ (p.1 - 1, p.2 - 1) ∈ r) → (f (p.1 - 1, p.2 - 1) = 1 ∨ f (p.1 - 1, p.2 - 1) = 2)) ∧
        (f p = 0 ∨ (f p = 1 ∧ led p 1 ∈ r) ∨ (f p = 2 ∧ led p 2 ∈ r ∧ ¬ ((p.1 - 1, p.2 + 1) ∈ r ∧ f (p.1 - 1, p.2 + 1) = 1))))) := by
  unfold nextS
  rw [seen_eq h hs (q := (p.1 - 1, p.2)) (.inl (by show p.1 - 1 < _; omega)), seen_eq h hs (q := (p.1, p.2 - 1)) (.inr ⟨rfl, by show p.2 - 1 < _; omega⟩), seen_eq h hs (q := (p.1 - 1, p.2 - 1)) (.inl (by show p.1 - 1 < _; omega)), seen_eq h hs (q := (p.1 - 1, p.2 + 1)) (.inl (by show p.1 - 1 < _; omega))]
  unfold kindsN
  simp only [some_if, cut2_1, cut2_2, some_is]
  by_cases hw : (p.1 - 1, p.2) ∈ r ∧ f (p.1 - 1, p.2) = 1
  · by_cases hn : (p.1, p.2 - 1) ∈ r ∧ f (p.1, p.2 - 1) = 2
    · simp [hw, hn]
    · rw [if_neg fun z => hn z.2, if_pos (.inl hw), if_pos hw]
      simp only [List.mem_singleton]
      constructor
      · intro z; exact ⟨fun z => hn z.2, .inl ⟨hw, z⟩⟩
      · rintro ⟨_, z | z | z⟩
        · exact z.2
        · exact absurd z.1 hn
        · exact absurd hw z.1
  · by_cases hn : (p.1, p.2 - 1) ∈ r ∧ f (p.1, p.2 - 1) = 2
    · rw [if_neg fun z => hw z.1, if_pos (.inr hn), if_neg hw]
      simp only [List.mem_singleton]
      constructor
      · intro z; exact ⟨fun z => hw z.1, .inr (.inl ⟨hn, z⟩)⟩
      · rintro ⟨_, z | z | z⟩
        · exact absurd z.1 hw
        · exact z.2
        · exact absurd hn z.2.1
    · rw [if_neg fun z => hw z.1, if_neg fun z => z.elim hw hn]
      have main : ∀ {A B : Prop}, (A ↔ B) → (A ↔ (¬ (((p.1 - 1, p.2) ∈ r ∧ f (p.1 - 1, p.2) = 1) ∧ ((p.1, p.2 - 1) ∈ r ∧ f (p.1, p.2 - 1) = 2))) ∧
    ((((p.1 - 1, p.2) ∈ r ∧ f (p.1 - 1, p.2) = 1) ∧ f p = 3) ∨ (((p.1, p.2 - 1) ∈ r ∧ f (p.1, p.2 - 1) = 2) ∧ f p = 4) ∨
      ((¬ ((p.1 - 1, p.2) ∈ r ∧ f (p.1 - 1, p.2) = 1)) ∧ (¬ ((p.1, p.2 - 1) ∈ r ∧ f (p.1, p.2 - 1) = 2)) ∧ B))) := fun {A B} q => by
        rw [q]
        exact ⟨fun b => ⟨fun z => hw z.1, .inr (.inr ⟨hw, hn, b⟩)⟩, fun z => z.2.elim (fun z => absurd z.1 hw) fun z => z.elim (fun z => absurd z.1 hn) fun z => z.2.2⟩
      refine main ?_
      simp only [Bool.and_eq_true, Bool.not_eq_true', decide_eq_true_eq, Bool.or_eq_false_iff, decide_eq_false_iff_not]
      by_cases c : (((p.1 - 1, p.2) ∈ r ∧ (p.1, p.2 - 1) ∈ r) ∧ (p.1 - 1, p.2 - 1) ∈ r) ∧ ¬((p.1 - 1, p.2 - 1) ∈ r ∧ f (p.1 - 1, p.2 - 1) = 1) ∧ ¬((p.1 - 1, p.2 - 1) ∈ r ∧ f (p.1 - 1, p.2 - 1) = 2)
      · rw [if_pos c]
        refine ⟨fun z => (by cases z), fun z => ?_⟩
        rcases z.1 ⟨c.1.1.1, c.1.1.2, c.1.2⟩ with y | y
        · exact absurd ⟨c.1.2, y⟩ c.2.1
        · exact absurd ⟨c.1.2, y⟩ c.2.2
      · rw [if_neg c]
        have c' : (((p.1 - 1, p.2) ∈ r ∧ (p.1, p.2 - 1) ∈ r ∧ (p.1 - 1, p.2 - 1) ∈ r) → (f (p.1 - 1, p.2 - 1) = 1 ∨ f (p.1 - 1, p.2 - 1) = 2)) := fun z => by
          apply Classical.byContradiction
          intro n
          exact c ⟨⟨⟨z.1, z.2.1⟩, z.2.2⟩, fun y => n (.inl y.2), fun y => n (.inr y.2)⟩
        by_cases c1 : led p 1 ∈ r <;> by_cases c2 : led p 2 ∈ r <;> by_cases c3 : (p.1 - 1, p.2 + 1) ∈ r ∧ f (p.1 - 1, p.2 + 1) = 1 <;> simp [c1, c2, c3] <;> (intros; refine c' ⟨?_, ?_, ?_⟩ <;> assumption)
theorem sub1 (y : Int) : y + 1 - 1 = y := by omega
theorem next_fl {r : List Sq} {f : KF} (h : SR r) : (∀ d p e, r = d ++ p :: e → f p ∈ five ∧ decide (f p ∈ nextS r p (d.map f)) = true) ↔ Fl r f := by
  constructor
  · intro q
    have st : ∀ p ∈ r, f p ∈ five ∧ ((¬ (((p.1 - 1, p.2) ∈ r ∧ f (p.1 - 1, p.2) = 1) ∧ ((p.1, p.2 - 1) ∈ r ∧ f (p.1, p.2 - 1) = 2))) ∧
    ((((p.1 - 1, p.2) ∈ r ∧ f (p.1 - 1, p.2) = 1) ∧ f p = 3) ∨ (((p.1, p.2 - 1) ∈ r ∧ f (p.1, p.2 - 1) = 2) ∧ f p = 4) ∨
      ((¬ ((p.1 - 1, p.2) ∈ r ∧ f (p.1 - 1, p.2) = 1)) ∧ (¬ ((p.1, p.2 - 1) ∈ r ∧ f (p.1, p.2 - 1) = 2)) ∧
        (((p.1 - 1, p.2) ∈ r ∧ (p.1, p.2 - 1) ∈ r ∧ (p.1 - 1, p.2 - 1) ∈ r) → (f (p.1 - 1, p.2 - 1) = 1 ∨ f (p.1 - 1, p.2 - 1) = 2)) ∧
        (f p = 0 ∨ (f p = 1 ∧ led p 1 ∈ r) ∨ (f p = 2 ∧ led p 2 ∈ r ∧ ¬ ((p.1 - 1, p.2 + 1) ∈ r ∧ f (p.1 - 1, p.2 + 1) = 1)))))) := fun p hp => by
      obtain ⟨d, e, hs⟩ := List.append_of_mem hp
      have := q d p e hs
      exact And.intro this.1 ((next_iff h hs).mp (of_decide_eq_true this.2))
    have hS : ∀ p ∈ r, (p.1, p.2 - 1) ∈ r → (f (p.1, p.2 - 1) = 2 ↔ f p = 4) := fun p hp hu => by
      obtain ⟨_, n1, n2⟩ := st p hp
      constructor
      · intro z
        rcases n2 with n2 | n2 | n2
        · exact absurd ⟨n2.1, hu, z⟩ n1
        · exact n2.2
        · exact absurd ⟨hu, z⟩ n2.2.1
      · intro z
        rcases n2 with n2 | n2 | n2
        · have := n2.2; omega
        · exact n2.1.2
        · rcases n2.2.2.2 with y | y | y <;> omega
    have hW : ∀ p ∈ r, (p.1 - 1, p.2) ∈ r → (f (p.1 - 1, p.2) = 1 ↔ f p = 3) := fun p hp hu => by
      obtain ⟨_, n1, n2⟩ := st p hp
      constructor
      · intro z
        rcases n2 with n2 | n2 | n2
        · exact n2.2
        · exact absurd ⟨⟨hu, z⟩, n2.1⟩ n1
        · exact absurd ⟨hu, z⟩ n2.1
      · intro z
        rcases n2 with n2 | n2 | n2
        · exact n2.1.2
        · have := n2.2; omega
        · rcases n2.2.2.2 with y | y | y <;> omega
    refine ⟨fun p hp => ⟨(st p hp).1, ?_⟩, hS, hW, fun p hp h4 => ?_⟩
    · obtain ⟨_, n1, n2⟩ := st p hp
      rcases n2 with n2 | n2 | n2
      · rw [n2.2, led3]; exact n2.1.1
      · rw [n2.2, led4]; exact n2.1.1
      · rcases n2.2.2.2 with y | y | y
        · rw [y, led0]; exact hp
        · rw [y.1]; exact y.2
        · rw [y.1]; exact y.2.1
    · have m1 : (p.1 - 1, p.2 - 1) ∈ r := h4 _ (by simp [fourOf])
      have m2 : (p.1 - 1, p.2) ∈ r := h4 _ (by simp [fourOf])
      have m3 : (p.1, p.2 - 1) ∈ r := h4 _ (by simp [fourOf])
      obtain ⟨_, n1, n2⟩ := st p hp
      unfold about
      rcases n2 with n2 | n2 | n2
      · simp [n2.1.2, n2.2]
      · simp [n2.1.2, n2.2]
      · rcases n2.2.2.1 ⟨m2, m3, m1⟩ with y | y
        · have := (hW _ m3 m1).mp y
          simp [y, this]
        · have := (hS _ m2 m1).mp y
          simp [y, this]
  · intro fl d p e hs
    have hp : p ∈ r := by rw [hs]; simp
    refine ⟨(fl.k p hp).1, decide_eq_true ((next_iff h hs).mpr ?_)⟩
    obtain ⟨k5, kl⟩ := fl.k p hp
    have noBoth : ¬ (((p.1 - 1, p.2) ∈ r ∧ f (p.1 - 1, p.2) = 1) ∧ ((p.1, p.2 - 1) ∈ r ∧ f (p.1, p.2 - 1) = 2)) := fun ⟨a, b⟩ => by
      have := (fl.w p hp a.1).mp a.2
      have := (fl.s p hp b.1).mp b.2
      omega
    refine ⟨noBoth, ?_⟩
    by_cases hw : (p.1 - 1, p.2) ∈ r ∧ f (p.1 - 1, p.2) = 1
    · exact .inl ⟨hw, (fl.w p hp hw.1).mp hw.2⟩
    · by_cases hn : (p.1, p.2 - 1) ∈ r ∧ f (p.1, p.2 - 1) = 2
      · exact .inr (.inl ⟨hn, (fl.s p hp hn.1).mp hn.2⟩)
      · have n3 : f p ≠ 3 := fun z => by
          rw [z, led3] at kl
          exact hw ⟨kl, (fl.w p hp kl).mpr z⟩
        have n4 : f p ≠ 4 := fun z => by
          rw [z, led4] at kl
          exact hn ⟨kl, (fl.s p hp kl).mpr z⟩
        refine .inr (.inr ⟨hw, hn, fun z => ?_, ?_⟩)
        · have := fl.t p hp fun q hq => by
            simp only [fourOf, List.mem_cons, List.not_mem_nil, or_false] at hq
            rcases hq with rfl | rfl | rfl | rfl
            · exact z.2.2
            · exact z.1
            · exact z.2.1
            · exact hp
          unfold about at this
          simp only [Bool.or_eq_true, Bool.and_eq_true, decide_eq_true_eq] at this
          rcases this with ((y | y) | y) | y
          · exact .inl y.1
          · exact absurd y.2 n3
          · exact .inr y.1
          · exact absurd y.2 n4
        · have k5' : f p = 0 ∨ f p = 1 ∨ f p = 2 ∨ f p = 3 ∨ f p = 4 := by simpa [five] using k5
          rcases k5' with y | y | y | y | y
          · exact .inl y
          · rw [y] at kl; exact .inr (.inl ⟨y, kl⟩)
          · rw [y] at kl
            refine .inr (.inr ⟨y, kl, fun ⟨b1, b2⟩ => ?_⟩)
            rw [led2] at kl
            have a1 := (fl.w _ kl b1).mp b2
            have a2 := (fl.s _ kl (by show (p.1, p.2 + 1 - 1) ∈ r; rw [sub1]; exact hp)).mp (by show f (p.1, p.2 + 1 - 1) = 2; rw [sub1]; exact y)
            omega
          · exact absurd y n3
          · exact absurd y n4
theorem mem_floors {r : List Sq} (h : SR r) (own : List Int) : own ∈ floorsM r ↔ ∃ f, Fl r f ∧ own = r.map f := by
  unfold floorsM
  rw [(rSort_perm _).mem_iff, laids_G, mem_rowsG _ _ _ h.nd]
  exact ⟨fun ⟨f, e, q⟩ => ⟨f, (next_fl h).mp q, e⟩, fun ⟨f, q, e⟩ => ⟨f, e, (next_fl h).mpr q⟩⟩
/-! there is always one -/
def brick (r : List Sq) : KF := fun p => if (p.2 - p.1) % 2 = 0 then (if (p.1, p.2 + 1) ∈ r then 2 else 0) else if (p.1, p.2 - 1) ∈ r then 4 else 0
theorem brick_fl (r : List Sq) : Fl r (brick r) := by
  have ev : ∀ p : Sq, (p.2 - p.1) % 2 = 0 → brick r p = 2 ∧ (p.1, p.2 + 1) ∈ r ∨ brick r p = 0 := fun p h => by
    unfold brick; rw [if_pos h]; split
    · rename_i c; exact .inl ⟨rfl, c⟩
    · exact .inr rfl
  have od : ∀ p : Sq, ¬ (p.2 - p.1) % 2 = 0 → brick r p = 4 ∧ (p.1, p.2 - 1) ∈ r ∨ brick r p = 0 := fun p h => by
    unfold brick; rw [if_neg h]; split
    · rename_i c; exact .inl ⟨rfl, c⟩
    · exact .inr rfl
  have dn : ∀ p : Sq, p ∈ r → (p.1, p.2 - 1) ∈ r → ¬ (p.2 - p.1) % 2 = 0 → brick r (p.1, p.2 - 1) = 2 ∧ brick r p = 4 := fun p hp hu h => by
    constructor
    · unfold brick
      rw [if_pos (by show (p.2 - 1 - p.1) % 2 = 0; omega), if_pos]
      show (p.1, p.2 - 1 + 1) ∈ r
      rw [show p.2 - 1 + 1 = p.2 by omega]; exact hp
    · unfold brick; rw [if_neg h, if_pos hu]
  refine ⟨fun p hp => ?_, fun p hp hu => ?_, fun p hp hw => ?_, fun p hp h4 => ?_⟩
  · by_cases c : (p.2 - p.1) % 2 = 0
    · rcases ev p c with ⟨e, m⟩ | e
      · rw [e, led2]; exact ⟨by decide, m⟩
      · rw [e, led0]; exact ⟨by decide, hp⟩
    · rcases od p c with ⟨e, m⟩ | e
      · rw [e, led4]; exact ⟨by decide, m⟩
      · rw [e, led0]; exact ⟨by decide, hp⟩
  · by_cases c : (p.2 - p.1) % 2 = 0
    · have c' : ¬ ((p.1, p.2 - 1).2 - (p.1, p.2 - 1).1) % 2 = 0 := by show ¬ (p.2 - 1 - p.1) % 2 = 0; omega
      rcases ev p c with e | e <;> rcases od _ c' with e' | e' <;> omega
    · have := dn p hp hu c; omega
  · have n1 : ∀ p : Sq, brick r p ≠ 1 ∧ brick r p ≠ 3 := fun p => by
      by_cases c : (p.2 - p.1) % 2 = 0
      · rcases ev p c with e | e <;> omega
      · rcases od p c with e | e <;> omega
    exact ⟨fun z => absurd z (n1 _).1, fun z => absurd z (n1 _).2⟩
  · have m1 : (p.1 - 1, p.2 - 1) ∈ r := h4 _ (by simp [fourOf])
    have m2 : (p.1 - 1, p.2) ∈ r := h4 _ (by simp [fourOf])
    have m3 : (p.1, p.2 - 1) ∈ r := h4 _ (by simp [fourOf])
    unfold about
    by_cases c : (p.2 - p.1) % 2 = 0
    · have := dn (p.1 - 1, p.2) m2 m1 (by show ¬ (p.2 - (p.1 - 1)) % 2 = 0; omega)
      simp only at this
      simp [this.1, this.2]
    · have := dn p hp m3 c
      simp [this.1, this.2]
theorem floors_ne {r : List Sq} (h : SR r) : floorsM r ≠ [] := fun z => by
  have := (mem_floors h (r.map (brick r))).mpr ⟨_, brick_fl r, rfl⟩
  rw [z] at this; cases this
/-! ### lets and floors -/
def keepsM (r : List Sq) (ls : Lets) (own : List Int) : Bool := decide (ls.filter (fun q => !decide (at0 (r.zip own) q.1 ∈ q.2)) = [])
theorem allow_iff {ls : Lets} (nd : (ls.map (·.1)).Nodup) {p : Sq} {k : Int} : allow ls p k = true ↔ ∀ q ∈ ls, q.1 = p → k ∈ q.2 := by
  induction ls with
  | nil => simp [allow, look]
  | cons a ls ih =>
    have nd' := List.nodup_cons.mp (by simpa using nd : (a.1 :: ls.map (·.1)).Nodup)
    by_cases e : a.1 = p
    · have : allow (a :: ls) p k = decide (k ∈ a.2) := by unfold allow look; simp [e]
      rw [this, decide_eq_true_eq]
      constructor
      · intro h q hq hp
        rcases List.mem_cons.mp hq with rfl | hq
        · exact h
        · exact absurd (List.mem_map.mpr ⟨q, hq, by rw [hp, e]⟩) nd'.1
      · intro h; exact h a (by simp) e
    · have : allow (a :: ls) p k = allow ls p k := by unfold allow look; simp [e]
      rw [this, ih nd'.2]
      constructor
      · intro h q hq hp
        rcases List.mem_cons.mp hq with rfl | hq
        · exact absurd hp e
        · exact h q hq hp
      · intro h q hq; exact h q (List.mem_cons_of_mem _ hq)
theorem pf_lets {r : List Sq} {ls : Lets} {f : KF} (nd : (ls.map (·.1)).Nodup) (sq : ∀ q ∈ ls, q.1 ∈ r) : PF r ls f (hiX r) ↔ Fl r f ∧ ∀ q ∈ ls, f q.1 ∈ q.2 := by
  rw [fl_pf]
  constructor
  · intro h
    refine ⟨⟨fun x hx => ⟨fun p hp e => ?_, (h.1 x hx).s⟩, h.2⟩, fun q hq => ?_⟩
    · have := kl_kinds.mp ((h.1 x hx).k p hp e)
      exact kl_kinds.mpr ⟨this.1, this.2.1, rfl⟩
    · have := kl_kinds.mp ((h.1 q.1.1 (hiX_ge (sq q hq))).k q.1 (sq q hq) rfl)
      exact (allow_iff nd).mp this.2.2 q hq rfl
  · rintro ⟨h, hk⟩
    refine ⟨fun x hx => ⟨fun p hp e => ?_, (h.1 x hx).s⟩, h.2⟩
    have := kl_kinds.mp ((h.1 x hx).k p hp e)
    exact kl_kinds.mpr ⟨this.1, this.2.1, (allow_iff nd).mpr fun q hq e => by rw [← e]; exact hk q hq⟩
def keptM (r : List Sq) (ls : Lets) : List (List Int) := (floorsM r).filter (keepsM r ls)
theorem mem_kept {r : List Sq} {ls : Lets} (h : SR r) (nd : (ls.map (·.1)).Nodup) (sq : ∀ q ∈ ls, q.1 ∈ r) (own : List Int) : own ∈ keptM r ls ↔ ∃ f, PF r ls f (hiX r) ∧ own = r.map f := by
  unfold keptM
  rw [List.mem_filter, mem_floors h]
  have kp : ∀ f : KF, keepsM r ls (r.map f) = true ↔ ∀ q ∈ ls, f q.1 ∈ q.2 := fun f => by
    unfold keepsM
    rw [decide_eq_true_eq, List.filter_eq_nil_iff]
    constructor
    · intro h q hq
      have := h q hq
      rw [at0_zip (sq q hq)] at this
      simpa using this
    · intro h q hq
      rw [at0_zip (sq q hq)]
      simpa using h q hq
  constructor
  · rintro ⟨⟨f, fl, rfl⟩, hk⟩
    exact ⟨f, (pf_lets nd sq).mpr ⟨fl, (kp f).mp hk⟩, rfl⟩
  · rintro ⟨f, pf, rfl⟩
    have := (pf_lets nd sq).mp pf
    exact ⟨⟨f, this.1, rfl⟩, (kp f).mpr this.2⟩
theorem lo_hi {r : List Sq} (ne : r ≠ []) : loX r ≤ hiX r := by obtain ⟨p, hp, e⟩ := loX_mem ne; rw [← e]; exact hiX_ge hp
theorem shut_eq {r : List Sq} {ls : Lets} (h : SR r) (ne : r ≠ []) (nd : (ls.map (·.1)).Nodup) (sq : ∀ q ∈ ls, q.1 ∈ r) : ∃ last, (reachM r ls).getLast? = some last ∧ decide (last = []) = decide (keptM r ls = []) := by
  have lh := lo_hi ne
  have hn : nC r = (nC r - 1) + 1 := by unfold nC; omega
  refine ⟨RS r ls (nC r - 1), by rw [reachM_range, hn, List.range_succ, List.map_append, List.getLast?_append]; rfl, ?_⟩
  have hh : loX r + ((nC r - 1 : Nat) : Int) = hiX r := by unfold nC at *; omega
  rw [decide_eq_decide]
  constructor
  · intro z
    apply List.eq_nil_iff_forall_not_mem.mpr
    intro own ho
    obtain ⟨f, pf, _⟩ := (mem_kept h nd sq own).mp ho
    have := (mem_RS h (nC r - 1) _).mpr ⟨f, by rw [hh]; exact pf, rfl⟩
    rw [z] at this; cases this
  · intro z
    apply List.eq_nil_iff_forall_not_mem.mpr
    intro row ho
    obtain ⟨f, pf, _⟩ := (mem_RS h (nC r - 1) _).mp ho
    rw [hh] at pf
    have := (mem_kept h nd sq _).mpr ⟨f, pf, rfl⟩
    rw [z] at this; cases this
/-- the kinds of a floor at a column -/
def restr (r : List Sq) (x : Int) (own : List Int) : List Int := ((r.zip own).filter fun q => decide (q.1 ∈ col r x)).map (·.2)
theorem restr_map {r : List Sq} {x : Int} {f : KF} : restr r x (r.map f) = (col r x).map f := by
  have gen : ∀ (s : List Sq) (P : Sq → Bool), ((s.zip (s.map f)).filter fun q => P q.1).map (·.2) = (s.filter P).map f := fun s P => by
    induction s with
    | nil => rfl
    | cons a s ih =>
      rw [List.map_cons, List.zip_cons_cons, List.filter_cons, List.filter_cons]
      cases P a <;> simp [ih]
  unfold restr
  rw [gen r fun q => decide (q ∈ col r x)]
  congr 1
  unfold col
  refine List.filter_congr fun p hp => ?_
  rw [Bool.eq_iff_iff, decide_eq_true_eq, decide_eq_true_eq]
  exact ⟨fun z => (col_mem.mp z).2, fun z => col_mem.mpr ⟨hp, z⟩⟩
theorem left_eq {r : List Sq} {ls : Lets} (h : SR r) (nd : (ls.map (·.1)).Nodup) (sq : ∀ q ∈ ls, q.1 ∈ r) {k : Nat} (hk : k < nC r) : setOf ((leftM r ls (pairsM r ls))[k]?.getD []) = setOf ((keptM r ls).map (restr r (loX r + (k : Int)))) := by
  refine setOf_eq (setOf_up _) fun z => ?_
  rw [setOf_mem, mem_left h hk, List.mem_map]
  constructor
  · rintro ⟨own, ho, rfl⟩
    obtain ⟨f, pf, rfl⟩ := (mem_kept h nd sq own).mp ho
    exact ⟨f, pf, restr_map⟩
  · rintro ⟨f, pf, rfl⟩
    exact ⟨_, (mem_kept h nd sq _).mpr ⟨f, pf, rfl⟩, restr_map⟩
end TR
/-! ## P4 -/
set_option Elab.async false
set_option linter.all false
set_option maxRecDepth 100000
namespace TR
/-! ### plain law 4: the law's plan -/
def numO (r : List Sq) (q : Sq) : Option Nat := if q ∈ r then some (r.idxOf q) else none
theorem num_find (q : Sq) : ∀ (r : List Sq) (s : Nat), (((List.range' s r.length).zip r).find? fun a => decide (a.2 = q)).map (·.1) = if q ∈ r then some (s + r.idxOf q) else none
  | [], s => by simp
  | p :: r, s => by
    have ih := num_find q r (s + 1)
    rw [List.length_cons, List.range'_succ, List.zip_cons_cons, List.find?_cons]
    by_cases e : p = q
    · simp [e, List.idxOf_cons]
    · have e' : ¬ q = p := fun z => e z.symm
      simp only [e, decide_false]
      rw [ih]
      by_cases h : q ∈ r
      · have hb : (p == q) = false := by simpa using e
        rw [if_pos h, if_pos (List.mem_cons_of_mem _ h), List.idxOf_cons, hb]
        show some _ = some (s + (r.idxOf q + 1))
        congr 1; omega
      · rw [if_neg h, if_neg fun z => (List.mem_cons.mp z).elim e' h]
theorem lookA_idx (q : Sq) : ∀ (r : List Sq) (laid : List Int), lookA (r.zip laid) q = if q ∈ r then laid[r.idxOf q]? else none
  | [], laid => by simp [lookA]
  | p :: r, [] => by simp [lookA]
  | p :: r, a :: laid => by
    have ih := lookA_idx q r laid
    unfold lookA at ih ⊢
    rw [List.zip_cons_cons, List.find?_cons]
    by_cases e : p = q
    · simp [e, List.idxOf_cons]
    · have e' : ¬ q = p := fun z => e z.symm
      simp only [e, decide_false]
      rw [ih]
      by_cases h : q ∈ r
      · have hb : (p == q) = false := by simpa using e
        rw [if_pos h, if_pos (List.mem_cons_of_mem _ h), List.idxOf_cons, hb]
        show _ = (a :: laid)[r.idxOf q + 1]?
        rw [List.getElem?_cons_succ]
      · rw [if_neg h, if_neg fun z => (List.mem_cons.mp z).elim e' h]
def nearSq (p : Sq) : List Sq := [(p.1 - 1, p.2), (p.1, p.2 - 1), (p.1 - 1, p.2 - 1), (p.1 - 1, p.2 + 1)]
def needs (r : List Sq) (p : Sq) : List (Option Nat) := (nearSq p).map (numO r)
theorem near_lt {p q : Sq} (h : q ∈ nearSq p) : q.1 < p.1 ∨ (q.1 = p.1 ∧ q.2 < p.2) := by
  simp only [nearSq, List.mem_cons, List.not_mem_nil, or_false] at h
  rcases h with rfl | rfl | rfl | rfl
  · exact .inl (by show p.1 - 1 < _; omega)
  · exact .inr ⟨rfl, by show p.2 - 1 < _; omega⟩
  · exact .inl (by show p.1 - 1 < _; omega)
  · exact .inl (by show p.1 - 1 < _; omega)
theorem num_lt {r d e : List Sq} {p q : Sq} (h : SR r) (hs : r = d ++ p :: e) (hq : q ∈ nearSq p) {i : Nat} (hi : numO r q = some i) : i < d.length := by
  unfold numO at hi
  by_cases c : q ∈ r
  · rw [if_pos c] at hi
    have hd := (sr_in h hs (near_lt hq)).mpr c
    rw [← Option.some.inj hi, hs, List.idxOf_append, if_pos hd]
    exact List.idxOf_lt_length_of_mem hd
  · rw [if_neg c] at hi; cases hi
/-- where each is needed last -/
def lastN (all : List (List (Option Nat))) : Nat → Int := (all.foldl (fun (st : Nat × (Nat → Int)) row => (st.1 + 1, fun i => if some i ∈ row then (st.1 : Int) else st.2 i)) (0, fun _ => -1)).2
theorem last_fst (all : List (List (Option Nat))) : (all.foldl (fun (st : Nat × (Nat → Int)) row => (st.1 + 1, fun i => if some i ∈ row then (st.1 : Int) else st.2 i)) (0, fun _ => -1)).1 = all.length := by
  induction all using snocRec with
  | h0 => rfl
  | h1 l a ih => rw [List.foldl_append, List.length_append, List.length_singleton]; simp only [List.foldl_cons, List.foldl_nil]; rw [ih]
theorem lastN_snoc (all : List (List (Option Nat))) (row : List (Option Nat)) (i : Nat) : lastN (all ++ [row]) i = if some i ∈ row then (all.length : Int) else lastN all i := by
  unfold lastN
  rw [List.foldl_append]
  simp only [List.foldl_cons, List.foldl_nil]
  rw [last_fst]
theorem lastN_ge (all : List (List (Option Nat))) : ∀ (j : Nat) (row : List (Option Nat)) (i : Nat), all[j]? = some row → some i ∈ row → (j : Int) ≤ lastN all i := by
  induction all using snocRec with
  | h0 => intro j row i h; simp at h
  | h1 l a ih =>
    intro j row i h hm
    rw [lastN_snoc]
    by_cases c : j < l.length
    · rw [List.getElem?_append_left c] at h
      have := ih j row i h hm
      split <;> omega
    · have hj := (List.getElem?_eq_some_iff.mp h).1
      rw [List.length_append, List.length_singleton] at hj
      have e : j = l.length := by omega
      rw [e, List.getElem?_append_right (Nat.le_refl _), Nat.sub_self] at h
      have h : a = row := Option.some.inj h
      rw [← h] at hm
      rw [if_pos hm, e]; exact Int.le_refl _
def allNeeds (r : List Sq) : List (List (Option Nat)) := r.map (needs r)
def keptN (r : List Sq) (k : Nat) : List Nat := (List.range k).filter fun i => decide ((k : Int) ≤ lastN (allNeeds r) i)
theorem keptN_succ (r : List Sq) (k : Nat) : (keptN r k ++ [k]).filter (fun i => decide ((k : Int) < lastN (allNeeds r) i)) = keptN r (k + 1) := by
  unfold keptN
  rw [List.range_succ, List.filter_append, List.filter_append, List.filter_filter]
  refine congr (congrArg _ ?_) ?_
  · refine List.filter_congr fun i _ => ?_
    rw [Bool.eq_iff_iff]
    simp only [Bool.and_eq_true, decide_eq_true_eq]
    omega
  · refine List.filter_congr fun i _ => ?_
    rw [decide_eq_decide]; omega
theorem kept_nd (r : List Sq) (k : Nat) : (keptN r k).Nodup := List.nodup_range.filter _
theorem kept_lt {r : List Sq} {k i : Nat} (h : i ∈ keptN r k) : i < k := List.mem_range.mp (List.mem_filter.mp h).1
theorem need_kept {r d e : List Sq} {p : Sq} (h : SR r) (hs : r = d ++ p :: e) {i : Nat} (hi : some i ∈ needs r p) : i ∈ keptN r d.length := by
  obtain ⟨q, hq, e1⟩ := List.mem_map.mp hi
  refine List.mem_filter.mpr ⟨List.mem_range.mpr (num_lt h hs hq e1), decide_eq_true (lastN_ge _ _ (needs r p) i ?_ hi)⟩
  unfold allNeeds
  rw [List.getElem?_map, hs, List.getElem?_append_right (Nat.le_refl _), Nat.sub_self]; rfl
theorem kept_old {r : List Sq} {k i : Nat} (h : i ∈ keptN r (k + 1)) (n : i ≠ k) : i ∈ keptN r k := by
  rw [← keptN_succ] at h
  rcases List.mem_append.mp (List.mem_filter.mp h).1 with z | z
  · exact z
  · exact absurd (List.mem_singleton.mp z) n
def placesN (r : List Sq) (k : Nat) (p : Sq) : List (Option Nat) := (needs r p).map fun o => o.map fun i => (keptN r k).idxOf i
def movedN (r : List Sq) (k : Nat) : List Int := (keptN r (k + 1)).map fun i => if i = k then -1 else ((keptN r k).idxOf i : Int)
/-- what is kept of kinds laid -/
def stN (r : List Sq) (k : Nat) (laid : List Int) : List Int := (keptN r k).map fun i => cut2 (laid.getD i 0)
theorem idx_get {l : List Nat} {i : Nat} (h : i ∈ l) : l[l.idxOf i]? = some i := by
  have hl := List.idxOf_lt_length_of_mem h
  rw [List.getElem?_eq_getElem hl, List.getElem_idxOf]
theorem idx_first {l : List Nat} (nd : l.Nodup) {i : Nat} (h : i ∈ l) : ∀ n, n < l.idxOf i → l[n]? ≠ some i := fun n hn z => by
  obtain ⟨h1, h2⟩ := List.getElem?_eq_some_iff.mp z
  have := nd.idxOf_getElem n h1
  rw [h2] at this; omega
/-- the kinds near, by what is kept, are those seen -/
theorem near_seen {r d e : List Sq} {p : Sq} {laid : List Int} (h : SR r) (hs : r = d ++ p :: e) (hl : laid.length = d.length) : (placesN r d.length p).map (fun o => o.map fun j => (stN r d.length laid).getD j 0) = (nearSq p).map (seen r laid) := by
  unfold placesN needs
  rw [List.map_map, List.map_map]
  refine List.map_congr_left fun q hq => ?_
  show ((numO r q).map _).map _ = _
  rw [Option.map_map]
  unfold seen
  rw [lookA_idx]
  have hlt : ∀ i, numO r q = some i → i < d.length := fun i hi => num_lt h hs hq hi
  have hk : ∀ i, numO r q = some i → i ∈ keptN r d.length := fun i hi => need_kept h hs (List.mem_map.mpr ⟨q, hq, hi⟩)
  unfold numO at hlt hk ⊢
  by_cases c : q ∈ r
  · rw [if_pos c] at hlt hk ⊢
    rw [if_pos c]
    have h1 := hlt _ rfl
    have h2 := hk _ rfl
    have h3 : (stN r d.length laid)[(keptN r d.length).idxOf (r.idxOf q)]? = some (cut2 (laid.getD (r.idxOf q) 0)) := by
      unfold stN; rw [List.getElem?_map, idx_get h2]; rfl
    simp only [Option.map_some, Function.comp]
    rw [List.getD_eq_getElem?_getD, h3]
    rw [← hl] at h1
    rw [List.getD_eq_getElem?_getD, List.getElem?_eq_getElem h1]; rfl
  · rw [if_neg c, if_neg c]; rfl
/-- what is kept next -/
theorem st_next {r : List Sq} {k : Nat} {laid : List Int} {m : Int} (hl : laid.length = k) : (movedN r k).map (fun j => if j = -1 then cut2 m else (stN r k laid).getD j.toNat 0) = stN r (k + 1) (laid ++ [m]) := by
  unfold movedN
  rw [List.map_map]
  show _ = (keptN r (k + 1)).map _
  refine List.map_congr_left fun i hi => ?_
  show (if (if i = k then (-1 : Int) else _) = -1 then _ else _) = _
  by_cases c : i = k
  · rw [if_pos c, if_pos rfl, c, ← hl]; simp
  · rw [if_neg c, if_neg (by omega)]
    have h1 := kept_old hi c
    have h2 := kept_lt h1
    unfold stN
    show ((keptN r k).map _).getD (if i = k then (-1 : Int) else ((keptN r k).idxOf i : Int)).toNat 0 = _
    rw [if_neg c, Int.toNat_natCast, List.getD_eq_getElem?_getD, List.getElem?_map, idx_get h1]
    show cut2 _ = cut2 _
    rw [show (laid ++ [m]).getD i 0 = laid.getD i 0 by rw [List.getD_eq_getElem?_getD, List.getD_eq_getElem?_getD, List.getElem?_append_left (by omega)]]
end TR
/-! ## E0 -/
set_option Elab.async false
set_option linter.all false
set_option maxRecDepth 100000
set_option maxHeartbeats 2000000
namespace TR
open PySem L2
/-! ### the law's draws -/
abbrev T3 := Int × Int × Int
def t3 (t : T3) : List D := [.int t.1, .int t.2.1, .int t.2.2]
/-- m more draws are to come -/
def okT (m : Nat) (t : T3) : Prop := 0 ≤ t.2.1 ∧ 0 ≤ t.2.2 ∧ t.2.2 + (m : Int) ≤ 1000000000
def tkO (t : T3) : Int := ((t.2.1 + 48271 * (t.2.2 + 1)) * (39373 + (t.2.2 + 1))) % 2147483647
def tkB (t : T3) (n : Int) : Int := ((((tkO t + (t.2.2 + 1) + t.2.1 / 1000003) * (tkO t % 40009 + 7)) % 2147483629 * 48271 + tkO t) % 2147483587 / 64) % n
def tk (t : T3) (n : Int) : Int × T3 := if 0 < t.1 then (t.1 % n, (t.1 / n, t.2.1, t.2.2)) else (tkB t n, (t.1, t.2.1, t.2.2 + 1))
theorem tk_ok {m : Nat} {t : T3} {n : Int} (h : okT (m + 1) t) : okT m (tk t n).2 := by
  unfold tk okT at *
  split
  · obtain ⟨h1, h2, h3⟩ := h
    refine ⟨h1, h2, ?_⟩
    show t.2.2 + (m : Int) ≤ _
    omega
  · obtain ⟨h1, h2, h3⟩ := h
    refine ⟨h1, ?_, ?_⟩
    · show 0 ≤ t.2.2 + 1; omega
    · show t.2.2 + 1 + (m : Int) ≤ _; omega
theorem tk_lt {t : T3} {n : Int} (h : 0 < n) : 0 ≤ (tk t n).1 ∧ (tk t n).1 < n := by
  unfold tk
  split
  · exact ⟨Int.emod_nonneg _ (by omega), Int.emod_lt_of_pos _ h⟩
  · exact ⟨Int.emod_nonneg _ (by omega), Int.emod_lt_of_pos _ h⟩
theorem okT.mono {m k : Nat} {t : T3} (h : okT m t) (q : k ≤ m) : okT k t := ⟨h.1, h.2.1, by have := h.2.2; omega⟩
section
variable {P : Program} {w : World} {K : PySem.W.Frag} {mg : Str → Option Value} {bs : Heap}
theorem law_take_ok (T : Tp K mg) : FnI P w K mg bs 1 "_law_take" ["_law_tin", "_law_below_so"] (spM 2 fun tin ds d tin' => ∃ (t : T3) (n : Int), okT 1 t ∧ 0 < n ∧ n < 1073741824 ∧ tin = t3 t ∧ ds = [.int n] ∧ d = .int (tk t n).1 ∧ tin' = t3 (tk t n).2) := by
  have sc : FnScope ["_law_tin", "_law_below_so", "_law_drawn_so", "_law_once_so", "_law_wide_so", "_law_twice_so"] ["_law_tin", "_law_below_so"] (defScope (topS 66)) := ⟨rfl, rfl, rfl, by decide +kernel, rfl, by decide +kernel, by decide +kernel⟩
  refine fn_mut T.law_take sc (fun _ _ _ _ _ _ us hl => match us, hl with | [_, _], _ => rfl) ?_
  rintro f cdv A outer s H E hr b tin ds d tin' hl ⟨t, n, ok, n0, n1, rfl, rfl, rfl, rfl⟩
  obtain ⟨o1, o2, o3⟩ := ok
  refine x_cons (s_if (p := decide (0 < t.1)) (b_c (c_gt (e_ix (d := .int t.1) (e_own 0 rfl) e_int rfl) e_int)) (fun z => ?_) fun z => x_nil ?_)
  · have z : 0 < t.1 := of_decide_eq_true z
    have hk : tk t n = (t.1 % n, (t.1 / n, t.2.1, t.2.2)) := if_pos z
    rw [hk]
    refine x_cons (s_asg 2 sc.nd (e_mod (e_int1 T.int (e_ix (d := .int t.1) (e_own 0 rfl) e_int rfl)) (e_var 1 rfl) n0) ?_)
    refine x_cons (s_setL (kt := ⟨0, 0, 0, 0⟩) 0 rfl (e_fdiv (e_ix (d := .int t.1) (e_own 0 rfl) e_int rfl) (e_var 1 rfl) ⟨n0, n1⟩) e_int rfl ?_)
    exact x_one (s_ret (e_var 2 rfl) ⟨rfl, rfl⟩)
  · have z : ¬ 0 < t.1 := of_decide_eq_false z
    have hk : tk t n = (tkB t n, (t.1, t.2.1, t.2.2 + 1)) := if_neg z
    rw [hk]
    refine x_cons (s_setL (kt := ⟨0, 0, 0, 0⟩) 0 rfl (e_add (e_ix (d := .int t.2.2) (e_own 0 rfl) e_int rfl) e_int) e_int rfl ?_)
    refine x_cons (s_asg 3 sc.nd (e_mod (e_int1 T.int (e_mul (e_add (e_ix (d := .int t.2.1) (e_own 0 rfl) e_int rfl) (e_mul e_int (e_ix (d := .int (t.2.2 + 1)) (e_own 0 rfl) e_int rfl) (.inl ⟨by decide, by decide⟩))) (e_add e_int (e_ix (d := .int (t.2.2 + 1)) (e_own 0 rfl) e_int rfl)) (.inr ⟨by omega, by omega⟩))) e_int (by decide)) ?_)
    refine x_cons (s_asg 4 sc.nd (e_add (e_mod (e_int1 T.int (e_var 3 rfl)) e_int (by decide)) e_int) ?_)
    refine x_cons (s_asg 5 sc.nd (e_mod (e_int1 T.int (e_mul (e_add (e_add (e_var 3 rfl) (e_ix (d := .int (t.2.2 + 1)) (e_own 0 rfl) e_int rfl)) (e_fdiv (e_ix (d := .int t.2.1) (e_own 0 rfl) e_int rfl) e_int ⟨by decide, by decide⟩)) (e_var 4 rfl) (.inr ⟨?_, ?_⟩))) e_int (by decide)) ?_)
    · have := Int.emod_nonneg (tkO t) (b := 40009) (by decide)
      show -(2 ^ 64) < tkO t % 40009 + 7
      omega
    · have := Int.emod_lt_of_pos (tkO t) (b := 40009) (by decide)
      show tkO t % 40009 + 7 < 2 ^ 64
      omega
    exact x_one (s_ret (e_mod (e_int1 T.int (e_fdiv (e_mod (e_int1 T.int (e_add (e_mul (e_var 5 rfl) e_int (.inr ⟨by decide, by decide⟩)) (e_var 3 rfl))) e_int (by decide)) e_int ⟨by decide, by decide⟩)) (e_var 1 rfl) n0) ⟨rfl, rfl⟩)
end
end TR
/-! ## E1 -/
set_option Elab.async false
set_option linter.all false
set_option maxRecDepth 100000
set_option maxHeartbeats 2000000
namespace TR
open PySem L2
/-! ### a def that gives a new object -/
def spF (n : Nat) (S : List D → D → Prop) : Sp := fun vs H Q _ => ∃ (Z : Addr → Prop) (ds : List D) (d : D), vs.length = n ∧ (∀ b, Z b → Ob H b) ∧ Ats Z H vs ds ∧ S ds d ∧ ∀ v H', Same H H' → Res .fr Z H H' v d → Q v H'
/-- a body that gives a new object -/
structure ExF (X : Cx) (ρ : En) (body : List Stmt) (d : D) : Prop where
  mk ::
  go : ∀ (F : Fr) (σ : St) (H : Hp), (∀ b, ¬ F.Y b) → EnvAt F H σ ρ → ∀ Dn : L2.Ends, (∀ v H', Same H H' → Res .fr F.Z H H' v d → Dn.rt v H') → wSs X body Dn σ H
instance {X : Cx} {ρ : En} {body : List Stmt} {d : D} : CoeFun (ExF X ρ body d) fun _ => ∀ (F : Fr) (σ : St) (H : Hp), (∀ b, ¬ F.Y b) → EnvAt F H σ ρ → ∀ Dn : L2.Ends, (∀ v H', Same H H' → Res .fr F.Z H H' v d → Dn.rt v H') → wSs X body Dn σ H := ⟨ExF.go⟩
theorem xf_ret {X : Cx} {ρ : En} {e : Expr} {d : D} {pos : Pos} (h : Ev .fr X ρ e d) : ExF X ρ [.Return (some e) pos] d := .mk fun F σ H hy E Dn q =>
  wSs.of (pss_one ps_w) (wS.of (ps_ret pe_w) (h F σ H E _ fun v H1 s1 r1 => q v H1 s1 (by
    obtain ⟨c, e, n, t⟩ := r1
    exact ⟨c, e, n, t.move (fun b z => .inl (z.imp .inl id)) (fun b o _ e => e) fun o e => e⟩)))
theorem xf_asg {X : Cx} {ρ : En} {e : Expr} {d d1 : D} {pos pos' : Pos} {k : Kd} {x : Str} {rest : List Stmt} (i : Nat) (hN : X.N.Nodup) (h : Ev k X ρ e d1) (q : ExF X (ρ.set i (.dat d1)) rest d) (hk : k ≠ .rd := by exact fun z => nomatch z) (hi : X.N[i]? = some x := by rfl) (hx : Loc X.env.scope x := by first | exact Or.inl rfl | exact Or.inr rfl)
    (hs : swapsWith e (some (.Name x pos')) pos.line X.env = pure false := by rfl) (hf : X.fn x = true ∨ X.env.scope.names.lookup x = some .local := by first | exact .inl rfl | exact .inr rfl | assumption) : ExF X ρ (.Assign [.Name x pos'] e pos :: rest) d := .mk fun F σ H hy E Dn w =>
  wSs.of (pss_cons ps_w pss_w) (wS.of (ps_set hN hi hx pe_w hs hf) (h F σ H E _ fun v H1 s1 r1 => q F _ H1 hy ((E.same s1).putDat i (r1.stOf hk E.avd)) Dn fun v H' s r => w v H' (s1.trans s) (r.back s1)))
section
variable {P : Program} {w : World} {K : PySem.W.Frag} {mg : Str → Option Value} {bs : Heap} {x : Str} {st : Stmt} {N ps : List Str} {k : Nat}
theorem fn_fresh {S : List D → D → Prop} (T : FnT K mg x st) (sc : FnScope N ps (defScope st))
    (hb : ∀ (kV doc pm : Value) (an : Option Addr) (cdv ct : Value) (us : List Value), us.length = ps.length → bindArgs (PySem.W.fnOf x x (defArgs st) (defBody st) (defScope st) .none kV doc pm an cdv ct) ⟨us, []⟩ = pure (ps.zip us))
    (body : ∀ f cdv A outer s H E, Room k (CxD P w K mg bs N x st f cdv A outer s H E).A → ∀ ds d, ds.length = ps.length → S ds d → ExF (CxD P w K mg bs N x st f cdv A outer s H E) (env0 N ds) (defBody st) d) :
    FnI P w K mg bs (k + 1) x ps (spF ps.length S) := by
  obtain ⟨f, fd, F, hm⟩ := T.ex
  refine ⟨f, fd, ?_, hm, F.kp, F.bindsN hb, _, _, _, F⟩
  refine F.ok sc (fun vs H Q E h => ?_) (fun cdv A outer s H vs Q E hr h => ?_)
  · obtain ⟨Z, ds, d, hl, _⟩ := h
    exact hl
  · obtain ⟨Z, ds, d, hl, zd, a, hS, q⟩ := h
    refine ⟨_, PSs.nox pss_w, ?_⟩
    have b := body f cdv A outer s H E hr ds d (by rw [← a.length]; exact hl) hS
    exact b { Z := Z, Y := fun _ => False, P := fun _ => False, H0 := H } (L2.start N vs) H (fun _ h => h) (env0_at zd a) _ fun v H' s1 r => q v H' s1 r
end
section
variable {X : Cx} {ρ : En} {e : Expr} {es : List Expr} {d : D} {pos p : Pos} {ds : List D} {S : List D → D → Prop} {x : Str} {ps : List Str} {k n : Nat}
theorem e_callF {kk : Nat} (G : FnI X.prog X.w X.K X.mg X.base k x ps (spF n S)) (hr : Room kk X.A) (ha : EvA true X ρ (e :: es) ds) (hS : S ds d) (hj : k ≤ kk := by decide) (hn : ds.length = n := by rfl) (hg : Gl X x := by rfl)
    (hdb : (x == ("__debug__" : Str)) = false := by decide) (he : starEach (e :: es) X.env = (false, eval e X.env) :: starEach es X.env := by rfl) (hpl : (backTo pos (starEach es X.env)).any (·.1) = false := by rfl) :
    Ev .fr X ρ (.Call (.Name x p) (e :: es) [] pos) d := .mk fun F σ H E Q q => by
  obtain ⟨f, fd, ok, hm, kp, b, _⟩ := G.ex
  refine wT.of (pe_call (ok.mono hj) hr hg hm kp b .nil (pass0) pa_w hdb he hpl) (ha F σ H E _ fun vs H1 s1 r1 => ?_)
  rw [List.append_nil]
  exact ⟨Av F ρ, ds, d, by rw [r1.ats.length]; exact hn, (E.same s1).avo, r1.ats, hS, fun v H2 s2 a => q v H2 (s1.trans s2) (a.back s1)⟩
end
/-! ### the box -/
def absI (i : Int) : Int := if i < 0 then -i else i
def boxM (x : Int) : T3 := (absI x * (if decide (10 ^ (18 : Int).toNat ≤ absI x) = true then 1 else 0), x % 2305843009213693951 + 39373 * 0 + 5322032, 0)
section
variable {P : Program} {w : World} {K : PySem.W.Frag} {mg : Str → Option Value} {bs : Heap}
theorem law_box_ok (T : Tp K mg) : FnI P w K mg bs 1 "_law_box" ["_law_script", "_law_k"] (spF 2 fun ds d => ∃ x : Int, ds = [.lst [.int x], .int 0] ∧ d = .lst (t3 (boxM x))) := by
  have sc : FnScope ["_law_script", "_law_k", "_law_bit_so"] ["_law_script", "_law_k"] (defScope (topS 65)) := ⟨rfl, rfl, rfl, by decide +kernel, rfl, by decide +kernel, by decide +kernel⟩
  refine fn_fresh T.law_box sc (fun _ _ _ _ _ _ us hl => match us, hl with | [_, _], _ => rfl) ?_
  rintro f cdv A outer s H E hr ds d hl ⟨x, rfl, rfl⟩
  refine xf_asg (d1 := .int x) 2 sc.nd (e_if (p := true) (EvB.cast (b_c (c_lt (e_var 1 rfl) (e_len T.len (e_var 0 rfl) (.lst _)))) rfl) (fun _ => (e_ix (e_var 0 rfl) (e_var 1 rfl) rfl)) fun z => by cases z) ?_
  exact xf_ret (e_lst (a_cons (e_mul (i := absI x) (e_abs T.abs (e_var 2 rfl)) (e_intB T.int (e_c (c_ge (i := absI x) (e_abs T.abs (e_var 2 rfl)) (e_pow e_int e_int ⟨by decide, by decide, by decide⟩)))) (.inr (by split <;> exact ⟨by decide, by decide⟩))) (a_cons (e_add (e_add (e_mod (e_int1 T.int (e_var 2 rfl)) e_int (by decide)) (e_mul e_int (e_var 1 rfl) (.inl ⟨by decide, by decide⟩))) e_int) (a_cons e_int a_nil))))
end
end TR
/-! ## E2 -/
set_option Elab.async false
set_option linter.all false
set_option maxRecDepth 100000
set_option maxHeartbeats 2000000
namespace TR
open PySem L2
/-! ### the cells -/
def tailM (l : List Int) : List Int := (l.drop 1).take 62
def cellF (x : Int) (l : List (Nat × Int)) : Int := l.foldl (fun x q => x + q.2 * ((q.1 : Int) + 2)) x
def cellsM (l : List Int) : Int := cellF (l.headD 0) ((List.range (tailM l).length).zip (tailM l))
theorem cut_to1 (l : List Int) : cutD (l.map D.int) none (some 1) = (l.take 1).map D.int := by
  unfold cutD HT.sIx
  cases l with
  | nil => rfl
  | cons a l => simp
theorem cut_1to63 (l : List Int) : cutD (l.map D.int) (some 1) (some 63) = (tailM l).map D.int := by
  unfold cutD HT.sIx tailM
  cases l with
  | nil => rfl
  | cons a l => simp; omega
theorem cellF_snoc (x : Int) (l : List (Nat × Int)) (q : Nat × Int) : cellF x (l ++ [q]) = cellF x l + q.2 * ((q.1 : Int) + 2) := by
  unfold cellF; rw [List.foldl_append]; rfl
section
variable {P : Program} {w : World} {K : PySem.W.Frag} {mg : Str → Option Value} {bs : Heap}
theorem law_cells_ok (T : Tp K mg) : FnI P w K mg bs 1 "_law_cells" ["_law_script", "_law_most_so"] (spS 2 fun l ds d => ds = [.int 1] ∧ d = .lst [.int (cellsM l)]) := by
  have sc : FnScope ["_law_script", "_law_most_so", "_law_cells_so", "_law_k", "_law_bit_so", "_law_at_so"] ["_law_script", "_law_most_so"] (defScope (topS 67)) := ⟨rfl, rfl, rfl, by decide +kernel, rfl, by decide +kernel, by decide +kernel⟩
  refine fn_scr T.law_cells sc (fun _ _ _ _ _ _ us hl => match us, hl with | [_, _], _ => rfl) ?_
  rintro f cdv A outer s H E hr l ds d hl ⟨rfl, rfl⟩
  have h0 : (if cutD (l.map D.int) none (some 1) = [] then [D.int 0] else cutD (l.map D.int) none (some 1)) = [D.int (l.headD 0)] := by
    rw [cut_to1]
    cases l with
    | nil => rfl
    | cons a l => rfl
  refine x_cons (s_own (d := .lst [.int (l.headD 0)]) 2 sc.nd (Ev.cast (e_orL (e_listOf T.list (e_sliceS 0 rfl .none (.some (e_var 1 rfl)))) fun _ => (e_lst (a_cons e_int a_nil))) (congrArg D.lst h0)) fun c => ?_)
  refine x_cons (s_for (l := (List.range (tailM l).length).zip (tailM l)) (f := fun q => .tup [.int (q.1 : Nat), .int q.2]) (.tup [3, 4]) (fun done ρ' => ∃ a b e, ρ' = [.scr l, .dat (.int 1), .own false c (.lst [.int (cellF (l.headD 0) done)]), a, b, e]) rfl (EvI.cast (i_enumL T.enumerate (e_sliceS 0 rfl (.some (e_var 1 rfl)) (.some e_int))) (by rw [cut_1to63, enum_map])) (t_two 3 4 rfl sc.nd) (fun _ _ => rfl) ⟨_, _, _, rfl⟩ ?_ ?_)
  · rintro done ⟨i, x⟩ post hsp ρ' ⟨a, b, e, rfl⟩
    have hi : i < 62 := by
      have h1 : (i, x) ∈ (List.range (tailM l).length).zip (tailM l) := by rw [hsp]; simp
      have h2 := List.mem_range.mp (List.of_mem_zip h1).1
      have h3 : (tailM l).length ≤ 62 := by unfold tailM; rw [List.length_take]; omega
      omega
    refine x_cons (s_asg (d := .int 0) 5 sc.nd (Ev.cast (e_mod (e_int1 T.int (e_var 3 rfl)) (e_var 1 rfl) (by decide)) (congrArg D.int (Int.emod_one _))) ?_)
    refine x_one (s_setL (kt := ⟨0, 0, 0, 0⟩) 2 rfl (e_add (e_ix (d := .int (cellF (l.headD 0) done)) (e_own 2 rfl) (e_var 5 rfl) rfl) (e_mul (e_var 4 rfl) (e_add (e_var 3 rfl) e_int) (.inr ⟨by omega, by omega⟩))) (e_var 5 rfl) rfl ?_)
    rw [cellF_snoc]
    exact ⟨_, _, _, rfl⟩
  · rintro ρ' ⟨a, b, e, rfl⟩
    refine x_freeze 2 rfl ?_
    exact x_one (s_ret (e_var 2 rfl) rfl)
end
end TR
/-! ## E3 -/
set_option Elab.async false
set_option linter.all false
set_option maxRecDepth 100000
set_option maxHeartbeats 2000000
namespace TR
open PySem L2
theorem led_at {k : Int} (h : k ∈ five) (p : Sq) : ∃ a b : Int, atI [sqD (0, 0), sqD (1, 0), sqD (0, 1), sqD (-1, 0), sqD (0, -1)] k = some (sqD (a, b)) ∧ led p k = (p.1 + a, p.2 + b) := by
  have hk : k = 0 ∨ k = 1 ∨ k = 2 ∨ k = 3 ∨ k = 4 := by simpa [five] using h
  rcases hk with rfl | rfl | rfl | rfl | rfl
  · exact ⟨0, 0, rfl, rfl⟩
  · exact ⟨1, 0, rfl, rfl⟩
  · exact ⟨0, 1, rfl, rfl⟩
  · exact ⟨-1, 0, rfl, rfl⟩
  · exact ⟨0, -1, rfl, rfl⟩
def besideM (p : Sq) : List Sq := [1, 2, 3, 4].map (led p)
section
variable {P : Program} {w : World} {K : PySem.W.Frag} {mg : Str → Option Value} {bs : Heap}
theorem law_of_ok (T : Tp K mg) : FnI P w K mg bs 2 "_law_of" ["_law_tin", "_law_goods_so"] (spM 2 fun tin ds d tin' => ∃ (t : T3) (g : D) (goods : List D), okT 1 t ∧ IsSeq g goods ∧ 0 < goods.length ∧ goods.length < 1000000 ∧ tin = t3 t ∧ ds = [g] ∧ goods[(tk t goods.length).1.toNat]? = some d ∧ tin' = t3 (tk t goods.length).2) := by
  have sc : FnScope ["_law_tin", "_law_goods_so"] ["_law_tin", "_law_goods_so"] (defScope (topS 68)) := ⟨rfl, rfl, rfl, by decide +kernel, rfl, by decide +kernel, by decide +kernel⟩
  refine fn_mut T.law_of sc (fun _ _ _ _ _ _ us hl => match us, hl with | [_, _], _ => rfl) ?_
  rintro f cdv A outer s H E hr b tin ds d tin' hl ⟨t, g, goods, ok, hs, n0, n1, rfl, rfl, hd, rfl⟩
  have hlt := tk_lt (t := t) (n := (goods.length : Int)) (by omega)
  exact x_one (s_retM (m_ix (m_e (e_var 1 rfl)) (m_callM 0 (law_take_ok T) hr rfl (ma_cons (m_e (e_len T.len (e_var 1 rfl) hs)) ma_nil) rfl ⟨t, (goods.length : Int), ok, by omega, by omega, rfl, rfl, rfl, rfl⟩) (at_pos (k := (tk t goods.length).1.toNat) hd (by omega)) hs) ⟨rfl, rfl⟩)
theorem law_over_ok (T : Tp K mg) : FnI P w K mg bs 1 "_law_over" ["_law_spot", "_law_kind_so"] (spD 2 fun ds d => ∃ (p : Sq) (k : Int), k ∈ five ∧ ds = [sqD p, .int k] ∧ d = sqD (led p k)) := by
  have sc : FnScope ["_law_spot", "_law_kind_so", "_law_step_so"] ["_law_spot", "_law_kind_so"] (defScope (topS 72)) := ⟨rfl, rfl, rfl, by decide +kernel, rfl, by decide +kernel, by decide +kernel⟩
  refine fn_pure T.law_over sc (fun _ _ _ _ _ _ us hl => match us, hl with | [_, _], _ => rfl) ?_
  rintro f cdv A outer s H E hr ds d hl ⟨p, k, hk, rfl, rfl⟩
  obtain ⟨a, b, h1, h2⟩ := led_at hk p
  rw [h2]
  refine x_cons (s_asg (d := sqD (a, b)) 2 sc.nd (e_ix (e_lst (a_cons (e_tup (a_cons e_int (a_cons e_int a_nil))) (a_cons (e_tup (a_cons e_int (a_cons e_int a_nil))) (a_cons (e_tup (a_cons e_int (a_cons e_int a_nil))) (a_cons (e_tup (a_cons (e_neg e_int) (a_cons e_int a_nil))) (a_cons (e_tup (a_cons e_int (a_cons (e_neg e_int) a_nil))) a_nil)))))) (e_var 1 rfl) h1) ?_)
  exact x_one (s_ret (e_tup (a_cons (e_add (e_ix (d := .int p.1) (e_var 0 rfl) e_int rfl) (e_ix (d := .int a) (e_var 2 rfl) e_int rfl)) (a_cons (e_add (e_ix (d := .int p.2) (e_var 0 rfl) e_int rfl) (e_ix (d := .int b) (e_var 2 rfl) e_int rfl)) a_nil))) rfl)
theorem law_beside_ok (T : Tp K mg) : FnI P w K mg bs 2 "_law_beside" ["_law_spot"] (spD 1 fun ds d => ∃ p : Sq, ds = [sqD p] ∧ d = .lst ((besideM p).map sqD)) := by
  have sc : FnScope ["_law_spot", "_law_own"] ["_law_spot"] (defScope (topS 73)) := ⟨rfl, rfl, rfl, by decide +kernel, rfl, by decide +kernel, by decide +kernel⟩
  refine fn_pure T.law_beside sc (fun _ _ _ _ _ _ us hl => match us, hl with | [_], _ => rfl) ?_
  rintro f cdv A outer s H E hr ds d hl ⟨p, rfl, rfl⟩
  exact x_one (s_ret (e_lc0 (own := [("_law_own", 1)]) (l := [1, 2, 3, 4]) (f := .int) (g := fun k => sqD (led p k)) (.one 1) rfl sc.nd (i_tup (e_tup (a_cons e_int (a_cons e_int (a_cons e_int (a_cons e_int a_nil)))))) (blkOk_by (by kernel_rfl)) (fun _ _ _ _ _ => t_one 1 sc.nd) fun k hk _ _ _ _ _ => e_call (law_over_ok T) hr (a_cons (e_var 0 rfl) (a_cons (e_var 1 rfl) a_nil)) ⟨p, k, by revert hk; simp [five]; omega, rfl, rfl⟩) rfl)
theorem law_four_ok (T : Tp K mg) : FnI P w K mg bs 1 "_law_four" ["_law_point_so"] (spD 1 fun ds d => ∃ p : Sq, ds = [sqD p] ∧ d = .tup ((fourOf p).map sqD)) := by
  have sc : FnScope ["_law_point_so", "_law_x", "_law_y"] ["_law_point_so"] (defScope (topS 74)) := ⟨rfl, rfl, rfl, by decide +kernel, rfl, by decide +kernel, by decide +kernel⟩
  refine fn_pure T.law_four sc (fun _ _ _ _ _ _ us hl => match us, hl with | [_], _ => rfl) ?_
  rintro f cdv A outer s H E hr ds d hl ⟨p, rfl, rfl⟩
  refine x_cons (s_unp (js := [1, 2]) (t_two 1 2 rfl sc.nd) (e_var 0 rfl) ?_)
  exact x_one (s_ret (e_tup (a_cons (e_tup (a_cons (e_sub (e_var 1 rfl) e_int) (a_cons (e_sub (e_var 2 rfl) e_int) a_nil))) (a_cons (e_tup (a_cons (e_sub (e_var 1 rfl) e_int) (a_cons (e_var 2 rfl) a_nil))) (a_cons (e_tup (a_cons (e_var 1 rfl) (a_cons (e_sub (e_var 2 rfl) e_int) a_nil))) (a_cons (e_tup (a_cons (e_var 1 rfl) (a_cons (e_var 2 rfl) a_nil))) a_nil))))) rfl)
end
end TR
/-! ## E4 -/
set_option Elab.async false
set_option linter.all false
set_option maxRecDepth 100000
set_option maxHeartbeats 2000000
namespace TR
open PySem L2
theorem upI_pw : ∀ {ks : List Int}, upI ks = true → ks.Pairwise (· < ·)
  | [], _ => .nil
  | [a], _ => List.pairwise_singleton _ _
  | a :: b :: l, h => by
    have h1 : a < b ∧ upI (b :: l) = true := by
      unfold upI at h ⊢
      simpa using h
    have ih := upI_pw h1.2
    refine List.pairwise_cons.mpr ⟨fun z hz => ?_, ih⟩
    rcases List.mem_cons.mp hz with rfl | hz
    · exact h1.1
    · have := (List.pairwise_cons.mp ih).1 z hz; omega
theorem pw_upI : ∀ {ks : List Int}, ks.Pairwise (· < ·) → upI ks = true
  | [], _ => rfl
  | [a], _ => rfl
  | a :: b :: l, h => by
    have ih := pw_upI (List.pairwise_cons.mp h).2
    have := (List.pairwise_cons.mp h).1 b (by simp)
    unfold upI at ih ⊢
    simpa [this] using ih
theorem okK_five {k : Int} : okK k = true ↔ k ∈ five := by
  unfold okK
  simp [five]
  omega
def told (ls : Lets) (p : Sq) : List Int := (look ls p).getD five
theorem look_mem {ls : Lets} {p : Sq} {ks : List Int} (h : look ls p = some ks) : ∃ q ∈ ls, q.1 = p ∧ q.2 = ks := by
  unfold look at h
  obtain ⟨q, hq, e⟩ := Option.map_eq_some_iff.mp h
  exact ⟨q, List.mem_of_find?_eq_some hq, of_decide_eq_true (by simpa using List.find?_some hq), e⟩
theorem told_five {r : List Sq} {ls : Lets} (ok : okL r ls) {p : Sq} {k : Int} (h : k ∈ told ls p) : k ∈ five := by
  unfold told at h
  cases e : look ls p with
  | none => rw [e] at h; exact h
  | some ks =>
    rw [e] at h
    obtain ⟨q, hq, _, rfl⟩ := look_mem e
    exact okK_five.mp (ok.kd q hq k h)
theorem told_let {r : List Sq} {ls : Lets} (ok : okL r ls) {p : Sq} (hp : p ∈ r) : (told ls p).filter (fun k => decide (k = 0) || decide (led p k ∈ r)) = kindsLet r ls p := by
  have h0 : ∀ k : Int, (decide (k = 0) || decide (led p k ∈ r)) = decide (led p k ∈ r) := fun k => by
    by_cases c : k = 0
    · rw [c, led0, decide_eq_true hp]; rfl
    · rw [decide_eq_false c, Bool.false_or]
  simp only [h0]
  unfold kindsLet kinds told allow
  cases e : look ls p with
  | none =>
    show five.filter _ = (five.filter _).filter (fun _ => true)
    rw [List.filter_eq_self.mpr fun _ _ => rfl]
  | some ks =>
    obtain ⟨q, hq, _, rfl⟩ := look_mem e
    show q.2.filter _ = (five.filter _).filter (fun k => decide (k ∈ q.2))
    have up5 : five.Pairwise (· < ·) := by decide
    refine upI_eq ((upI_pw (ok.up q hq)).filter _) ((up5.filter _).filter _) fun z => ?_
    simp only [List.mem_filter, decide_eq_true_eq]
    exact ⟨fun ⟨a, b⟩ => ⟨⟨okK_five.mp (ok.kd q hq z a), b⟩, a⟩, fun ⟨⟨_, b⟩, a⟩ => ⟨a, b⟩⟩
theorem in_sq (p : Sq) (r : List Sq) : inD (sqD p) (r.map sqD) = decide (p ∈ r) := (in_map eq_sq p r).trans (decide_eq_decide.mpr Iff.rfl)
theorem eq_lnil (l : List D) : eqD (.lst l) (.lst []) = decide (l = []) := by
  show PyData.eqv (.list (toPys l)) (.list []) = _
  rw [PyData.eqv]
  cases l with
  | nil => rfl
  | cons a l => simp [toPys, PyData.eqvAll]
/-! what fits, square by square -/
def okP (r : List Sq) (W E : Ah) (x : Int) (p : Sq) : Bool := !decide ((x - 1, p.2) ∈ r) || (across (at0 W (x - 1, p.2)) (at0 E p) && (!((fourOf p).all fun q => decide (q ∈ r)) || about (at0 W (p.1 - 1, p.2 - 1)) (at0 W (p.1 - 1, p.2)) (at0 E (p.1, p.2 - 1)) (at0 E (p.1, p.2))))
theorem rowFits_all {r : List Sq} {x : Int} {a b : List Int} (la : a.length = (col r (x - 1)).length) (lb : b.length = (col r x).length) : rowFits r x a b = (col r x).all (okP r (westA r x a) (eastA r x b) x) := by
  have kW : (westA r x a).map (·.1) = col r (x - 1) := zip_keys la
  have kE : (eastA r x b).map (·.1) = col r x := zip_keys lb
  have hb : ∀ p : Sq, p ∈ bothA (westA r x a) (eastA r x b) x ↔ p ∈ r ∧ p.1 = x ∧ (x - 1, p.2) ∈ r := fun p => by
    unfold bothA
    rw [List.mem_filter, kE, col_mem, lookA_mem, kW, col_mem, and_assoc]
    simp
  unfold rowFits okP
  rw [Bool.eq_iff_iff]
  simp only [Bool.and_eq_true, List.all_eq_true, List.mem_filter, hb, decide_eq_true_eq, Bool.or_eq_true, Bool.not_eq_true', decide_eq_false_iff_not, col_mem]
  constructor
  · rintro ⟨h1, h2⟩ p ⟨hp, hx⟩
    by_cases c : (x - 1, p.2) ∈ r
    · refine .inr ⟨h1 p ⟨hp, hx, c⟩, ?_⟩
      cases c4 : ((fourOf p).all fun q => decide (q ∈ r)) with
      | false => exact .inl rfl
      | true => exact .inr (h2 p ⟨⟨hp, hx, c⟩, fun q hq => of_decide_eq_true (List.all_eq_true.mp c4 q hq)⟩)
    · exact .inl c
  · intro h
    constructor
    · rintro p ⟨hp, hx, c⟩
      exact ((h p ⟨hp, hx⟩).resolve_left fun z => z c).1
    · rintro p ⟨⟨hp, hx, c⟩, h4⟩
      rcases ((h p ⟨hp, hx⟩).resolve_left fun z => z c).2 with z | z
      · rw [List.all_eq_true.mpr fun q hq => decide_eq_true (h4 q hq)] at z; cases z
      · exact z
section
variable {P : Program} {w : World} {K : PySem.W.Frag} {mg : Str → Option Value} {bs : Heap}
theorem law_column_ok (T : Tp K mg) : FnI P w K mg bs 1 "_law_column" ["_law_ground", "_law_x"] (spD 2 fun ds d => ∃ (r : List Sq) (x : Int), ds = [roomD r, .int x] ∧ d = roomD (col r x)) := by
  have sc : FnScope ["_law_ground", "_law_x", "_law_own"] ["_law_ground", "_law_x"] (defScope (topS 82)) := ⟨rfl, rfl, rfl, by decide +kernel, rfl, by decide +kernel, by decide +kernel⟩
  refine fn_pure T.law_column sc (fun _ _ _ _ _ _ us hl => match us, hl with | [_, _], _ => rfl) ?_
  rintro f cdv A outer s H E hr ds d hl ⟨r, x, rfl, rfl⟩
  exact x_one (s_ret (e_tupleOf T.tuple (e_lc (own := [("_law_own", 2)]) (l := r) (f := sqD) (p := fun p => decide (p.1 = x)) (g := sqD) (.one 2) rfl sc.nd (i_tup (e_var 0 rfl)) (blkOk_by (by kernel_rfl)) (fun _ _ _ _ _ => t_one 2 sc.nd) (fun _ _ => trivial) (by decide) (fun p _ _ _ _ _ _ => ts_one (b_c (c_eqI (i := p.1) (e_ix (e_var 2 rfl) e_int rfl) (e_var 1 rfl)))) (fun p _ _ _ _ _ _ _ => (e_var 2 rfl)))) rfl)
theorem rows_ne {r : List Sq} {ls : Lets} {c : List Sq} (h2 : 2 ≤ (rowsBy r ls c).length) : ∀ row ∈ rowsBy r ls c, row ≠ [] := by
  intro row hr e
  have hl := rowsBy_len r ls c row hr
  rw [e] at hl
  have hc : c = [] := List.length_eq_zero_iff.mp hl.symm
  rw [hc] at h2
  have h2 : 2 ≤ 1 := h2
  omega
theorem law_rows_ok (T : Tp K mg) : FnI P w K mg bs 2 "_law_rows" ["_law_ground", "_law_lets_so", "_law_x"] (spD 3 fun ds d => ∃ (r : List Sq) (ls : Lets) (x : Int), okL r ls ∧ (ls.map (·.1)).Nodup ∧ (col r x).length ≤ 7 ∧ ds = [roomD r, letsS ls, .int x] ∧ d = rowsD (lawRows r ls x)) := by
  have sc : FnScope ["_law_ground", "_law_lets_so", "_law_x", "_law_told_so", "_law_found", "_law_spot", "_law_later_so", "_law_own", "_law_down_so", "_law_kind_so"] ["_law_ground", "_law_lets_so", "_law_x"] (defScope (topS 83)) := ⟨rfl, rfl, rfl, by decide +kernel, rfl, by decide +kernel, by decide +kernel⟩
  refine fn_pure T.law_rows sc (fun _ _ _ _ _ _ us hl => match us, hl with | [_, _, _], _ => rfl) ?_
  rintro f cdv A outer s H E hr ds d hl ⟨r, ls, x, ok, nd, h7, rfl, rfl⟩
  refine x_cons (s_disp2 (i := 3) (j := 4) (l := [(3, .fr, lotsD ls), (4, .fr, rowsD [[]])]) rfl sc.nd (dp 3 (e_dictS rfl (rm64 hr) T.dict (e_var 1 rfl) lots_ps (lots_nd nd)) (dp 4 (e_lst (a_cons (e_tup a_nil) a_nil)) dp_nil)) ?_)
  rintro _ ⟨c1, c2, rfl⟩
  refine x_freeze 3 rfl ?_
  refine x_freeze 4 rfl ?_
  refine x_cons (s_for (l := col r x) (f := sqD) (.one 5) (fun done ρ' => ∃ a b c e g, ρ' = [.dat (roomD r), .dat (letsS ls), .dat (.int x), .dat (lotsD ls), .dat (rowsD (rowsBy r ls done)), a, b, c, e, g]) rfl (i_tup (e_call (law_column_ok T) hr (a_cons (e_var 0 rfl) (a_cons (e_var 2 rfl) a_nil)) ⟨r, x, rfl, rfl⟩)) (t_one 5 sc.nd) (fun _ _ => trivial) ⟨_, _, _, _, _, rfl⟩ ?_ ?_)
  · rintro done p post hsp ρ' ⟨a, b, c, e, g, rfl⟩
    have hdl : done.length < 7 := by rw [hsp, List.length_append, List.length_cons] at h7; omega
    have hpm : p ∈ r := (col_mem.mp (by rw [hsp]; simp : p ∈ col r x)).1
    have hb1 : (rowsBy r ls done).length ≤ 4 ^ 6 := Nat.le_trans (rowsBy_le r ls done) (Nat.pow_le_pow_right (by decide) (by omega))
    refine x_cons (s_own (d := .lst []) 6 sc.nd (e_lst a_nil) fun c6 => ?_)
    refine x_cons (s_for (l := rowsBy r ls done) (f := tD) (.one 7) (fun dn ρ' => ∃ a b c, ρ' = [.dat (roomD r), .dat (letsS ls), .dat (.int x), .dat (lotsD ls), .dat (rowsD (rowsBy r ls done)), .dat (sqD p), .own false c6 (rowsD (stepBy (kindsLet r ls p) dn)), a, b, c]) rfl (i_list (e_var 4 rfl)) (t_one 7 sc.nd) (fun _ _ => trivial) ⟨_, _, _, rfl⟩ ?_ ?_)
    · rintro dn row pt hs2 ρ' ⟨a', b', e', rfl⟩
      have hrm : row ∈ rowsBy r ls done := by rw [hs2]; simp
      have hrl := rowsBy_len r ls done row hrm
      have hdn : dn.length ≤ 4 ^ 6 := by
        have : dn.length ≤ (rowsBy r ls done).length := by rw [hs2]; simp
        omega
      have h46 : (4 : Nat) ^ 6 = 4096 := by decide
      have hsb := stepBy_le (kindsLet r ls p) (kindsLet_sub r ls p) dn
      have hte : (((getT (ls.map fun q => (sqK q.1, tD q.2)) (sqK p)).getD (.tup [.int 0, .int 1, .int 2, .int 3, .int 4]))) = tD (told ls p) := by
        rw [lots_get]; unfold told
        cases look ls p <;> rfl
      have htl : (told ls p).length ≤ 5 := by
        unfold told
        cases el : look ls p with
        | none => exact Nat.le_refl _
        | some ks =>
          obtain ⟨q, hq, _, rfl⟩ := look_mem el
          have n1 : q.2.Nodup := (upI_pw (ok.up q hq)).imp fun {a b} z e => by omega
          exact n1.length_le_of_subset (l₂ := five) fun z hz => okK_five.mp (ok.kd q hq z hz)
      refine x_cons (s_asg (d := .bl (joined row)) 8 sc.nd (Ev.cast (e_and (e_c (c_neD (rm64 hr) (e_var 7 rfl) (e_tup a_nil) (shp_tD row) rfl)) fun z => (e_one (e_c (c_eqI (e_ix (e_var 7 rfl) (e_neg e_int) (last_at (ne_of z))) e_int)))) (congrArg D.bl (joined_eq row))) ?_)
      refine x_one (s_for (l := told ls p) (f := .int) (.one 9) (fun kd ρ' => ∃ a, ρ' = [.dat (roomD r), .dat (letsS ls), .dat (.int x), .dat (lotsD ls), .dat (rowsD (rowsBy r ls done)), .dat (sqD p), .own false c6 (rowsD (stepBy (kindsLet r ls p) dn ++ (kd.filter fun k => (decide (k = 0) || decide (led p k ∈ r)) && (decide (k = 4) == joined row)).map fun k => row ++ [k])), .dat (tD row), .dat (.bl (joined row)), a]) rfl (i_tup (Ev.cast (e_getT (rm1 hr) (e_var 3 rfl) (e_var 5 rfl) (e_tup (a_cons e_int (a_cons e_int (a_cons e_int (a_cons e_int (a_cons e_int a_nil))))))) hte)) (t_one 9 sc.nd) (fun _ _ => trivial) ⟨_, by rw [List.filter_nil, List.map_nil, List.append_nil]; rfl⟩ ?_ ?_)
      · rintro kd k pk hs3 ρ' ⟨a3, rfl⟩
        have hkm : k ∈ told ls p := by rw [hs3]; simp
        have hk5 := told_five ok hkm
        refine x_one (s_if (p := (decide (k = 0) || decide (led p k ∈ r)) && (decide (k = 4) == joined row)) (EvW.toB (w_and (EvW.toB (w_or (b_c (c_eqI (i := k) (e_var 9 rfl) e_int)) fun _ => (w_or1 (EvB.cast (b_c (c_in (rm65 hr) (e_call (law_over_ok T) hr (a_cons (e_var 5 rfl) (a_cons (e_var 9 rfl) a_nil)) ⟨p, k, hk5, rfl, rfl⟩) (e_var 0 rfl) (.tup _) (pl_tD _).shp (lay_ts (n := 1) (fun q : Sq => pl_tD (sqK q)) r))) (in_sq _ _))))) fun _ => (w_and1 (b_c (c_eqB (e_c (c_eqI (i := k) (e_var 9 rfl) e_int)) (e_var 8 rfl)))))) (fun z => ?_) fun z => ?_)
        · refine x_one (s_append 6 rfl (Ev.cast (e_catT (e_var 7 rfl) (e_tup (a_cons (e_var 9 rfl) a_nil)) ?_) (show D.tup (row.map .int ++ [.int k]) = tD (row ++ [k]) by unfold tD; rw [List.map_append]; rfl)) ?_ ?_)
          · rw [List.length_map, hrl]
            exact Nat.le_trans (Nat.succ_le_succ (Nat.le_of_lt hdl)) (by decide)
          · have hE : rowsD (stepBy (kindsLet r ls p) dn ++ ((kd ++ [k]).filter fun k => (decide (k = 0) || decide (led p k ∈ r)) && (decide (k = 4) == joined row)).map fun k => row ++ [k]) = .lst ((stepBy (kindsLet r ls p) dn ++ (kd.filter fun k => (decide (k = 0) || decide (led p k ∈ r)) && (decide (k = 4) == joined row)).map fun k => row ++ [k]).map tD ++ [tD (row ++ [k])]) := by
              unfold rowsD
              rw [List.filter_append, List.filter_cons, if_pos z, List.filter_nil]
              simp only [List.map_append, List.map_cons, List.map_nil, List.append_assoc]
            rw [hE]
            exact ⟨_, rfl⟩
          · have hkl : (kd.filter fun k => (decide (k = 0) || decide (led p k ∈ r)) && (decide (k = 4) == joined row)).length ≤ kd.length := List.length_filter_le _ _
            have hkd : kd.length ≤ 5 := by rw [hs3, List.length_append] at htl; omega
            rw [List.length_map, List.length_append, List.length_map]
            unfold sizeLine
            have h24 : (2 : Nat) ^ 24 = 16777216 := by decide
            omega
        · refine x_nil ?_
          rw [List.filter_append, List.filter_cons, if_neg (by rw [z]; exact Bool.false_ne_true), List.filter_nil, List.append_nil]
          exact ⟨_, rfl⟩
      · rintro ρ' ⟨a3, rfl⟩
        have hS : stepBy (kindsLet r ls p) [row] = ((kindsLet r ls p).filter fun k => decide (k = 4) == joined row).map fun k => row ++ [k] := by unfold stepBy; rw [List.flatMap_cons, List.flatMap_nil, List.append_nil]
        have hE : stepBy (kindsLet r ls p) dn ++ ((told ls p).filter fun k => (decide (k = 0) || decide (led p k ∈ r)) && (decide (k = 4) == joined row)).map (fun k => row ++ [k]) = stepBy (kindsLet r ls p) (dn ++ [row]) := by
          rw [stepBy_app, hS, ← told_let ok hpm, List.filter_filter]
          congr 2
          refine List.filter_congr fun k _ => ?_
          first | rfl | exact Bool.and_comm _ _
        rw [hE]
        exact ⟨_, _, _, rfl⟩
    · rintro ρ' ⟨a', b', e', rfl⟩
      refine x_freeze 6 rfl ?_
      exact x_one (s_asg 4 sc.nd (e_var 6 rfl) ⟨_, _, _, _, _, by rw [rowsBy_snoc]; rfl⟩)
  · rintro ρ' ⟨a, b, c, e, g, rfl⟩
    exact x_one (s_ret (e_sortL rfl (rm64 hr) T.sorted (e_var 4 rfl) rows_ne) rfl)
theorem law_keeps_ok (T : Tp K mg) : FnI P w K mg bs 1 "_law_keeps" ["_law_ground", "_law_laid_so", "_law_lets_so"] (spD 3 fun ds d => ∃ (r : List Sq) (laid : List Int) (ls : Lets), r.Nodup ∧ laid.length = r.length ∧ (∀ q ∈ ls, q.1 ∈ r) ∧ ds = [roomD r, tD laid, letsS ls] ∧ d = .bl (keepsM r ls laid)) := by
  have sc : FnScope ["_law_ground", "_law_laid_so", "_law_lets_so", "_law_kinds_so", "_law_own"] ["_law_ground", "_law_laid_so", "_law_lets_so"] (defScope (topS 89)) := ⟨rfl, rfl, rfl, by decide +kernel, rfl, by decide +kernel, by decide +kernel⟩
  refine fn_pure T.law_keeps sc (fun _ _ _ _ _ _ us hl => match us, hl with | [_, _, _], _ => rfl) ?_
  rintro f cdv A outer s H E hr ds d hl ⟨r, laid, ls, nd, ll, sq, rfl, rfl⟩
  refine x_cons (s_asg (d := ahD (r.zip laid)) 3 sc.nd (Ev.cast (e_dictZip rfl (rm64 hr) T.dict T.zip (Ev.cast (e_var 0 rfl) (roomK r)) (e_var 1 rfl) (sq_nd nd)) (zipAh r laid)) ?_)
  have hat : ∀ q ∈ ls, (lookA (r.zip laid) q.1).isSome = true := fun q hq => lookA_mem.mpr (by rw [zip_keys ll]; exact sq q hq)
  refine x_one (s_ret (Ev.cast (e_c (c_eqD (rm64 hr) (e_lc (own := [("_law_own", 4)]) (l := ls) (f := letD) (p := fun q => !decide (at0 (r.zip laid) q.1 ∈ q.2)) (g := letD) (.one 4) rfl sc.nd (i_stp (e_var 2 rfl)) (blkOk_by (by kernel_rfl)) (fun _ _ _ _ _ => t_one 4 sc.nd) (fun _ _ => trivial) (by decide) (fun q hq _ _ _ _ _ => ts_one (EvB.cast (b_c (c_notIn (rm65 hr) (e_dget (rm1 hr) (e_var 3 rfl) (e_ix (d := sqD q.1) (e_var 4 rfl) e_int rfl) (ah_at (hat q hq))) (e_ix (d := tD q.2) (e_var 4 rfl) e_int rfl) (.tup _) (pl_int _).shp (lay_ts (n := 0) pl_int q.2))) (congrArg Bool.not (in_map eq_int _ _)))) (fun q _ _ _ _ _ _ _ => (e_var 4 rfl))) (e_lst a_nil) ?_ rfl)) ?_) rfl)
  · exact (pl_lst (n := 2) (fun q : Sq × List Int => pl_tup pl_tD [sqK q.1, q.2]) _).shp
  · rw [eq_lnil]; unfold keepsM; simp
end
end TR
/-! ## E5 -/
set_option Elab.async false
set_option linter.all false
set_option maxRecDepth 100000
set_option maxHeartbeats 2000000
namespace TR
open PySem L2
theorem lookA_app (a b : Ah) (p : Sq) : lookA (a ++ b) p = (lookA a p).or (lookA b p) := by
  unfold lookA
  rw [List.find?_append]
  cases List.find? (fun q => decide (q.1 = p)) a <;> rfl
abbrev Q4 := Int × Int × Int × Int
def q4D (q : Q4) : D := .tup [.int q.1, .int q.2.1, .int q.2.2.1, .int q.2.2.2]
theorem pl_q4 (q : Q4) : Pl 1 (q4D q) := pl_tD [q.1, q.2.1, q.2.2.1, q.2.2.2]
def q4s (a b c e : Int) : List Q4 := [(a, c, 1, 3), (b, e, 1, 3), (a, b, 2, 4), (c, e, 2, 4)]
def q4p (q : Q4) : Bool := decide (q.1 = q.2.2.1) && decide (q.2.1 = q.2.2.2)
theorem q4_about (a b c e : Int) : decide ((q4s a b c e).filter q4p = []) = !about a b c e := by
  unfold about
  rw [Bool.eq_iff_iff, decide_eq_true_eq, List.filter_eq_nil_iff]
  simp only [q4s, q4p, List.mem_cons, List.not_mem_nil, or_false, forall_eq_or_imp, forall_eq, Bool.not_eq_true', Bool.or_eq_false_iff, Bool.not_eq_true]
  exact ⟨fun ⟨h1, h2, h3, h4⟩ => ⟨⟨⟨h1, h2⟩, h3⟩, h4⟩, fun ⟨⟨⟨h1, h2⟩, h3⟩, h4⟩ => ⟨h1, h2, h3, h4⟩⟩
theorem x2 (a b : Bool) : (!(a == b)) = !(a == b) := rfl
theorem across_ne (a b : Int) : (!(decide (a = 1) == decide (b = 3))) = !across a b := rfl
section
variable {P : Program} {w : World} {K : PySem.W.Frag} {mg : Str → Option Value} {bs : Heap}
theorem law_row_fits_ok (T : Tp K mg) : FnI P w K mg bs 2 "_law_row_fits" ["_law_ground", "_law_x", "_law_ahead_so", "_law_row_so"] (spD 4 fun ds d => ∃ (r : List Sq) (x : Int) (ahead row : List Int), r.Nodup ∧ r.length ≤ 100 ∧ ahead.length = (col r (x - 1)).length ∧ row.length = (col r x).length ∧ ds = [roomD r, .int x, tD ahead, tD row] ∧ d = .bl (rowFits r x ahead row)) := by
  have sc : FnScope ["_law_ground", "_law_x", "_law_ahead_so", "_law_row_so", "_law_kinds_so", "_law_spot", "_law_west_so", "_law_four_so", "_law_one", "_law_two", "_law_three", "_law_four_here", "_law_own"] ["_law_ground", "_law_x", "_law_ahead_so", "_law_row_so"] (defScope (topS 84)) := ⟨rfl, rfl, rfl, by decide +kernel, rfl, by decide +kernel, by decide +kernel⟩
  refine fn_pure T.law_row_fits sc (fun _ _ _ _ _ _ us hl => match us, hl with | [_, _, _, _], _ => rfl) ?_
  rintro f cdv A outer s H E hr ds d hl ⟨r, x, ahead, row, nd, r100, la, lr, rfl, rfl⟩
  rw [rowFits_all la lr]
  obtain ⟨W, hW⟩ : ∃ W, W = westA r x ahead := ⟨_, rfl⟩
  obtain ⟨Ea, hEa⟩ : ∃ W, W = eastA r x row := ⟨_, rfl⟩
  have kW : W.map (·.1) = col r (x - 1) := by rw [hW]; exact zip_keys la
  have kE : Ea.map (·.1) = col r x := by rw [hEa]; exact zip_keys lr
  have zWE : (col r (x - 1) ++ col r x).zip (ahead ++ row) = W ++ Ea := by rw [hW, hEa]; exact List.zip_append la.symm
  rw [← hW, ← hEa]
  have cl : ∀ y, (col r y).length ≤ 100 := fun y => Nat.le_trans (List.length_filter_le _ _) r100
  have ndc : (col r (x - 1) ++ col r x).Nodup := List.nodup_append.mpr ⟨col_nd nd _, col_nd nd _, fun a ha b hb e => by
    have h1 := (col_mem.mp ha).2
    have h2 := (col_mem.mp hb).2
    rw [e] at h1; omega⟩
  have inW : ∀ q : Sq, q.1 = x - 1 → (lookA W q).isSome = decide (q ∈ r) := fun q e => by
    rw [Bool.eq_iff_iff, lookA_mem, kW, col_mem, decide_eq_true_eq]; exact ⟨fun z => z.1, fun z => ⟨z, e⟩⟩
  have inE : ∀ q : Sq, q.1 = x → (lookA Ea q).isSome = decide (q ∈ r) := fun q e => by
    rw [Bool.eq_iff_iff, lookA_mem, kE, col_mem, decide_eq_true_eq]; exact ⟨fun z => z.1, fun z => ⟨z, e⟩⟩
  have noE : ∀ q : Sq, q.1 = x - 1 → lookA Ea q = none := fun q e => by
    cases h : lookA Ea q with
    | none => rfl
    | some z =>
      have := lookA_mem.mp (show (lookA Ea q).isSome = true by rw [h]; rfl)
      rw [kE] at this
      have := (col_mem.mp this).2
      omega
  have noW : ∀ q : Sq, q.1 = x → lookA W q = none := fun q e => by
    cases h : lookA W q with
    | none => rfl
    | some z =>
      have := lookA_mem.mp (show (lookA W q).isSome = true by rw [h]; rfl)
      rw [kW] at this
      have := (col_mem.mp this).2
      omega
  have lW : ∀ q : Sq, q.1 = x - 1 → lookA (W ++ Ea) q = lookA W q := fun q e => by rw [lookA_app, noE q e]; cases lookA W q <;> rfl
  have lE : ∀ q : Sq, q.1 = x → lookA (W ++ Ea) q = lookA Ea q := fun q e => by rw [lookA_app, noW q e]; rfl
  have aW : ∀ q : Sq, q.1 = x - 1 → at0 (W ++ Ea) q = at0 W q := fun q e => by unfold at0; rw [lW q e]
  have aE : ∀ q : Sq, q.1 = x → at0 (W ++ Ea) q = at0 Ea q := fun q e => by unfold at0; rw [lE q e]
  refine x_cons (s_asg (d := ahD (W ++ Ea)) 4 sc.nd (Ev.cast (e_dictZip rfl (rm64 hr) T.dict T.zip (Ev.cast (e_catT (e_call (law_column_ok T) hr (a_cons (e_var 0 rfl) (a_cons (e_sub (e_var 1 rfl) e_int) a_nil)) ⟨r, x - 1, rfl, rfl⟩) (e_call (law_column_ok T) hr (a_cons (e_var 0 rfl) (a_cons (e_var 1 rfl) a_nil)) ⟨r, x, rfl, rfl⟩) ?_) (show D.tup _ = .tup (((col r (x - 1) ++ col r x).map sqK).map tD) by rw [List.map_map, List.map_append]; rfl)) (Ev.cast (e_catT (e_var 2 rfl) (e_var 3 rfl) ?_) (show D.tup _ = .tup ((ahead ++ row).map .int) by rw [List.map_append])) (sq_nd ndc)) (by rw [zipAh, zWE])) ?_)
  · rw [List.length_map, List.length_map]
    have h1 := cl (x - 1)
    have h2 := cl x
    unfold sizeLine
    have h24 : (2 : Nat) ^ 24 = 16777216 := by decide
    omega
  · rw [List.length_map, List.length_map, la, lr]
    have h1 := cl (x - 1)
    have h2 := cl x
    unfold sizeLine
    have h24 : (2 : Nat) ^ 24 = 16777216 := by decide
    omega
  refine x_cons (s_for (l := col r x) (f := sqD) (.one 5) (fun done ρ' => done.all (okP r W Ea x) = true ∧ ∃ a b c e g h i j, ρ' = [.dat (roomD r), .dat (.int x), .dat (tD ahead), .dat (tD row), .dat (ahD (W ++ Ea)), a, b, c, e, g, h, i, j]) rfl (i_tup (e_call (law_column_ok T) hr (a_cons (e_var 0 rfl) (a_cons (e_var 1 rfl) a_nil)) ⟨r, x, rfl, rfl⟩)) (t_one 5 sc.nd) (fun _ _ => trivial) ⟨rfl, _, _, _, _, _, _, _, _, rfl⟩ ?_ ?_)
  · rintro done p post hsp ρ' ⟨hdn, a, b, c, e, g, h, i, j, rfl⟩
    obtain ⟨hp, hx⟩ : p ∈ r ∧ p.1 = x := col_mem.mp (by rw [hsp]; simp)
    have bad : okP r W Ea x p = false → (col r x).all (okP r W Ea x) = false := fun z => by
      rw [hsp, List.all_append, List.all_cons, z]; simp
    have good : okP r W Ea x p = true → (done ++ [p]).all (okP r W Ea x) = true := fun z => by rw [List.all_append, hdn, List.all_cons, z]; rfl
    have g1 : ∀ q : Sq, (getT ((W ++ Ea).map fun q => (sqK q.1, D.int q.2)) (sqK q)).isSome = (lookA (W ++ Ea) q).isSome := fun q => by rw [ah_get, Option.isSome_map]
    refine x_cons (s_asg (d := sqD (x - 1, p.2)) 6 sc.nd (e_tup (a_cons (e_sub (e_var 1 rfl) e_int) (a_cons (e_ix (d := .int p.2) (e_var 5 rfl) e_int rfl) a_nil))) ?_)
    refine x_cons (s_if (p := decide ((x - 1, p.2) ∈ r) && !across (at0 W (x - 1, p.2)) (at0 Ea p)) (EvW.toB (w_and (EvB.cast (b_c (c_inD (rm1 hr) (e_var 6 rfl) (e_var 4 rfl))) (by rw [g1, lW _ rfl, inW _ rfl])) fun z => (w_and1 (EvB.cast (b_c (c_neB (e_c (c_eqI (e_dget (rm1 hr) (e_var 4 rfl) (e_var 6 rfl) (ah_at (by rw [lW _ rfl, inW _ rfl]; exact z))) e_int)) (e_c (c_eqI (e_dget (rm1 hr) (e_var 4 rfl) (e_var 5 rfl) (ah_at (by rw [lE _ hx, inE _ hx]; exact decide_eq_true hp))) e_int)))) (by rw [aW _ rfl, aE _ hx]; rfl))))) (fun z => ?_) fun z => x_nil ?_)
    · refine x_one (s_ret e_bl ?_)
      rw [bad]
      unfold okP
      rw [Bool.and_eq_true, Bool.not_eq_true'] at z
      rw [z.1, z.2]; rfl
    refine x_cons (s_asg (d := .tup ((fourOf p).map sqD)) 7 sc.nd (e_call (law_four_ok T) hr (a_cons (e_var 5 rfl) a_nil) ⟨p, rfl, rfl⟩) ?_)
    have in4 : ∀ q ∈ fourOf p, (lookA (W ++ Ea) q).isSome = decide (q ∈ r) := fun q hq => by
      simp only [fourOf, List.mem_cons, List.not_mem_nil, or_false] at hq
      rcases hq with rfl | rfl | rfl | rfl
      · rw [lW _ (by show p.1 - 1 = _; omega), inW _ (by show p.1 - 1 = _; omega)]
      · rw [lW _ (by show p.1 - 1 = _; omega), inW _ (by show p.1 - 1 = _; omega)]
      · rw [lE (p.1, p.2 - 1) hx, inE (p.1, p.2 - 1) hx]
      · rw [lE (p.1, p.2) hx, inE (p.1, p.2) hx]
    have hall : decide ((fourOf p).filter (fun q => !decide (q ∈ r)) = []) = (fourOf p).all fun q => decide (q ∈ r) := by
      rw [Bool.eq_iff_iff, decide_eq_true_eq, List.filter_eq_nil_iff, List.all_eq_true]
      exact ⟨fun z q hq => by simpa using z q hq, fun z q hq => by simpa using z q hq⟩
    refine x_one (s_if (p := (fourOf p).all fun q => decide (q ∈ r)) (EvB.cast (b_c (c_eqD (rm64 hr) (e_lc (own := [("_law_own", 12)]) (l := fourOf p) (f := sqD) (p := fun q => !decide (q ∈ r)) (g := sqD) (.one 12) rfl sc.nd (i_tup (e_var 7 rfl)) (blkOk_by (by kernel_rfl)) (fun _ _ _ _ _ => t_one 12 sc.nd) (fun _ _ => trivial) (by decide) (fun q hq _ _ _ _ _ => ts_one (EvB.cast (b_c (c_notInD (rm1 hr) (e_var 12 rfl) (e_var 4 rfl))) (by rw [g1, in4 q hq]))) (fun q _ _ _ _ _ _ _ => (e_var 12 rfl))) (e_lst a_nil) (pl_lst (n := 1) (fun q : Sq => pl_tD (sqK q)) _).shp rfl)) (by rw [eq_lnil, ← hall]; simp)) (fun z4 => ?_) fun z4 => x_nil ?_)
    · have h4 : ∀ q ∈ fourOf p, q ∈ r := fun q hq => of_decide_eq_true (List.all_eq_true.mp z4 q hq)
      have hw : (x - 1, p.2) ∈ r := by rw [← hx]; exact h4 (p.1 - 1, p.2) (by simp [fourOf])
      have za : across (at0 W (x - 1, p.2)) (at0 Ea p) = true := by
        rw [decide_eq_true hw, Bool.true_and, Bool.not_eq_false'] at z; exact z
      have ev : okP r W Ea x p = about (at0 W (p.1 - 1, p.2 - 1)) (at0 W (p.1 - 1, p.2)) (at0 Ea (p.1, p.2 - 1)) (at0 Ea (p.1, p.2)) := by
        unfold okP
        rw [decide_eq_true hw, za, z4]; rfl
      have e4 : (fourOf p).map (fun q => D.int (at0 (W ++ Ea) q)) = [.int (at0 W (p.1 - 1, p.2 - 1)), .int (at0 W (p.1 - 1, p.2)), .int (at0 Ea (p.1, p.2 - 1)), .int (at0 Ea (p.1, p.2))] := by
        show [D.int _, D.int _, D.int _, D.int _] = _
        rw [aW _ (by show p.1 - 1 = _; omega), aW (p.1 - 1, p.2) (by show p.1 - 1 = _; omega), aE (p.1, p.2 - 1) hx, aE (p.1, p.2) hx]
      obtain ⟨k1, hk1⟩ : ∃ k, k = at0 W (p.1 - 1, p.2 - 1) := ⟨_, rfl⟩
      obtain ⟨k2, hk2⟩ : ∃ k, k = at0 W (p.1 - 1, p.2) := ⟨_, rfl⟩
      obtain ⟨k3, hk3⟩ : ∃ k, k = at0 Ea (p.1, p.2 - 1) := ⟨_, rfl⟩
      obtain ⟨k4, hk4⟩ : ∃ k, k = at0 Ea (p.1, p.2) := ⟨_, rfl⟩
      rw [← hk1, ← hk2, ← hk3, ← hk4] at e4 ev
      refine x_cons (s_unl (js := [8, 9, 10, 11]) rfl ?_ (Ev.cast (e_lc0 (own := [("_law_own", 12)]) (l := fourOf p) (f := sqD) (g := fun q => .int (at0 (W ++ Ea) q)) (.one 12) rfl sc.nd (i_tup (e_var 7 rfl)) (blkOk_by (by kernel_rfl)) (fun _ _ _ _ _ => t_one 12 sc.nd) (fun q hq _ _ _ _ _ => (e_dget (rm1 hr) (e_var 4 rfl) (e_var 12 rfl) (ah_at (by rw [in4 q hq]; exact decide_eq_true (h4 q hq)))))) (congrArg D.lst e4)) ?_)
      · exact pgs_cons (pg_name sc.nd (i := 8) rfl (.inl rfl) (.inr rfl)) (pgs_cons (pg_name sc.nd (i := 9) rfl (.inl rfl) (.inr rfl)) (pgs_cons (pg_name sc.nd (i := 10) rfl (.inl rfl) (.inr rfl)) (pgs_cons (pg_name sc.nd (i := 11) rfl (.inl rfl) (.inr rfl)) pgs_nil)))
      show Ex _ [.dat (roomD r), .dat (.int x), .dat (tD ahead), .dat (tD row), .dat (ahD (W ++ Ea)), .dat (sqD p), .dat (sqD (x - 1, p.2)), .dat (.tup ((fourOf p).map sqD)), .dat (.int k1), .dat (.int k2), .dat (.int k3), .dat (.int k4), j] _ _ _
      refine x_one (s_if (p := !about k1 k2 k3 k4) (EvB.cast (b_c (c_eqD (rm64 hr) (e_lc (own := [("_law_own", 12)]) (l := q4s k1 k2 k3 k4) (f := q4D) (p := q4p) (g := q4D) (.one 12) rfl sc.nd (i_tup (e_tup (a_cons (e_tup (a_cons (e_var 8 rfl) (a_cons (e_var 10 rfl) (a_cons e_int (a_cons e_int a_nil))))) (a_cons (e_tup (a_cons (e_var 9 rfl) (a_cons (e_var 11 rfl) (a_cons e_int (a_cons e_int a_nil))))) (a_cons (e_tup (a_cons (e_var 8 rfl) (a_cons (e_var 9 rfl) (a_cons e_int (a_cons e_int a_nil))))) (a_cons (e_tup (a_cons (e_var 10 rfl) (a_cons (e_var 11 rfl) (a_cons e_int (a_cons e_int a_nil))))) a_nil)))))) (blkOk_by (by kernel_rfl)) (fun _ _ _ _ _ => t_one 12 sc.nd) (fun _ _ => trivial) (by decide) (fun q _ _ _ _ _ _ => ts_one (EvB.cast (b_c (c_eqD (d1 := tD [q.1, q.2.1]) (d2 := tD [q.2.2.1, q.2.2.2]) (rm64 hr) (Ev.cast (e_sliceT (e_var 12 rfl) .none (.some e_int)) rfl) (Ev.cast (e_sliceT (e_var 12 rfl) (.some e_int) .none) rfl) (shp_tD _) (shp_tD _))) ((eq_tD _ _).trans (dec2 _ _ _ _)))) (fun q _ _ _ _ _ _ _ => (e_var 12 rfl))) (e_lst a_nil) (pl_lst (n := 1) pl_q4 _).shp rfl)) (by rw [eq_lnil, ← q4_about]; simp)) (fun zz => ?_) fun zz => x_nil ?_)
      · refine x_one (s_ret e_bl ?_)
        rw [bad]
        rw [ev]; rwa [Bool.not_eq_true'] at zz
      · rw [Bool.not_eq_false'] at zz
        exact ⟨good (by rw [ev]; exact zz), _, _, _, _, _, _, _, _, rfl⟩
    · refine ⟨good ?_, _, _, _, _, _, _, _, _, rfl⟩
      unfold okP
      rw [z4]
      cases c1 : decide ((x - 1, p.2) ∈ r) with
      | false => rfl
      | true =>
        rw [c1, Bool.true_and, Bool.not_eq_false'] at z
        rw [z]; rfl
  · rintro ρ' ⟨hdn, a, b, c, e, g, h, i, j, rfl⟩
    exact x_one (s_ret e_bl (by rw [hdn]))
end
end TR
/-! ## E6 -/
set_option Elab.async false
set_option linter.all false
set_option maxRecDepth 100000
set_option maxHeartbeats 2000000
namespace TR
open PySem L2
theorem RS_len {r : List Sq} {ls : Lets} {k : Nat} : ∀ row ∈ RS r ls k, row.length = (cx r k).length := by
  intro row h
  rw [RS_step] at h
  exact rowsBy_len r ls _ row (stepR_by r ls _ _ row h)
theorem lawStep_RS {r : List Sq} {ls : Lets} (h : SR r) (k : Nat) : lawStep r ls ((List.range k).map (RS r ls)) (loX r + (k : Int)) = RS r ls k := by
  have := lawSt_range (ls := ls) h (k + 1)
  rw [List.range_succ, List.map_append, List.map_append, List.map_singleton, List.map_singleton, lawSt_snoc, lawSt_range h k] at this
  exact (List.cons.inj (List.append_inj' this rfl).2).1
theorem range_split {n i : Nat} {d e : List Nat} (h : List.range n = d ++ i :: e) : d = List.range i ∧ i < n := by
  have h1 : (List.range n)[d.length]? = some i := by rw [h, List.getElem?_append_right (Nat.le_refl _), Nat.sub_self]; rfl
  have hl : d.length < n := by
    have := congrArg List.length h
    rw [List.length_range, List.length_append, List.length_cons] at this
    omega
  rw [List.getElem?_range hl] at h1
  have e1 : d.length = i := Option.some.inj h1
  refine ⟨?_, by omega⟩
  have h2 : (List.range n).take d.length = d := by rw [h, List.take_left']; rfl
  rw [← h2, List.take_range, e1, Nat.min_eq_left (by omega)]
theorem any_one {α : Type} (l : List α) (f : α → Bool) : (!decide ((l.filter f).map (fun _ => D.int 1) = [])) = l.any f := by
  rw [Bool.eq_iff_iff, Bool.not_eq_true', decide_eq_false_iff_not, List.map_eq_nil_iff, List.any_eq_true, List.filter_eq_nil_iff]
  simp
section
variable {P : Program} {w : World} {K : PySem.W.Frag} {mg : Str → Option Value} {bs : Heap}
theorem law_reaches_ok (T : Tp K mg) : FnI P w K mg bs 3 "_law_reaches" ["_law_ground", "_law_lets_so"] (spD 2 fun ds d => ∃ (r : List Sq) (ls : Lets), SR r ∧ okX r ∧ r.length ≤ 100 ∧ okL r ls ∧ (ls.map (·.1)).Nodup ∧ (∀ x, (col r x).length ≤ 7) ∧ ds = [roomD r, letsS ls] ∧ d = rchD (reachM r ls)) := by
  have sc : FnScope ["_law_ground", "_law_lets_so", "_law_marks_so", "_law_found", "_law_x", "_law_rows_so", "_law_own", "_law_its"] ["_law_ground", "_law_lets_so"] (defScope (topS 85)) := ⟨rfl, rfl, rfl, by decide +kernel, rfl, by decide +kernel, by decide +kernel⟩
  refine fn_pure T.law_reaches sc (fun _ _ _ _ _ _ us hl => match us, hl with | [_, _], _ => rfl) ?_
  rintro f cdv A outer s H E hr ds d hl ⟨r, ls, sr, ⟨ne, x0, x1, x2⟩, r100, ok, nd, c7, rfl, rfl⟩
  have lh := lo_hi ne
  rw [reachM_range]
  have hn : nC r ≤ 100001 := by unfold nC; omega
  refine x_cons (s_disp (l := [(2, .fr, .lst (r.map fun p => .int p.1)), (3, .fr, .lst [])]) (dp 2 (e_lc0 (own := [("_law_own", 6)]) (l := r) (f := sqD) (g := fun p => .int p.1) (.one 6) rfl sc.nd (i_tup (e_var 0 rfl)) (blkOk_by (by kernel_rfl)) (fun _ _ _ _ _ => t_one 6 sc.nd) fun p _ _ _ _ _ _ => (e_ix (e_var 6 rfl) e_int rfl)) (dp 3 (e_lst a_nil) dp_nil)) (t_two 2 3 rfl sc.nd) ?_)
  rintro _ ⟨c1, c2, rfl⟩
  refine x_freeze 2 rfl ?_
  refine x_cons (s_for (l := List.range (nC r)) (f := fun i : Nat => .int (loX r + (i : Int))) (.one 4) (fun done ρ' => ∃ a b c e, ρ' = [.dat (roomD r), .dat (letsS ls), .dat (.lst (r.map fun p => .int p.1)), .own false c2 (.lst (((List.range done.length).map (RS r ls)).map rtD)), a, b, c, e]) rfl (i_rangeB T.range (e_minM (m := loX r) (ψ := fun p : Sq => p.1) rfl T.min (e_var 2 rfl) (loX_mem ne) (fun p hp => loX_le hp)) (e_add (e_maxM (m := hiX r) (ψ := fun p : Sq => p.1) rfl T.max (e_var 2 rfl) (hiX_mem ne) (fun p hp => hiX_ge hp)) e_int) ?_ ?_ ?_) (t_one 4 sc.nd) (fun _ _ => trivial) ⟨_, _, _, _, rfl⟩ ?_ ?_)
  · unfold nC; omega
  · omega
  · omega
  · rintro done k post hsp ρ' ⟨a, b, c, e, rfl⟩
    obtain ⟨rfl, hk⟩ := range_split hsp
    rw [List.length_range]
    have hst := lawStep_RS (ls := ls) sr k
    have fin : ∀ {R : D → En → Prop} (ρ : En), ρ[3]? = some (.own false c2 (.lst (((List.range k).map (RS r ls)).map rtD))) → True := fun _ _ => trivial
    have happ : .lst (((List.range k).map (RS r ls)).map rtD ++ [rtD (RS r ls k)]) = D.lst (((List.range ((List.range k ++ [k]).length)).map (RS r ls)).map rtD) := by
      rw [List.length_append, List.length_range, List.length_singleton, List.range_succ, List.map_append, List.map_append]; rfl
    have hsz : (((List.range k).map (RS r ls)).map rtD).length < sizeLine := by
      rw [List.length_map, List.length_map, List.length_range]
      unfold sizeLine
      have h24 : (2 : Nat) ^ 24 = 16777216 := by decide
      omega
    refine x_cons (s_asg (d := rowsD (lawRows r ls (loX r + (k : Int)))) 5 sc.nd (e_call (law_rows_ok T) hr (a_cons (e_var 0 rfl) (a_cons (e_var 1 rfl) (a_cons (e_var 4 rfl) a_nil))) ⟨r, ls, _, ok, nd, c7 _, rfl, rfl⟩) ?_)
    refine x_cons (s_if (p := !decide (k = 0)) (EvB.cast (b_c (c_neD (rm64 hr) (e_own 3 rfl) (e_lst a_nil) (by rw [List.map_map]; exact (pl_lst (n := 2) (fun i : Nat => pl_tup pl_tD (RS r ls i)) _).shp) rfl)) (by rw [eq_lnil]; simp)) (fun z => ?_) fun z => x_nil ?_)
    · obtain ⟨m, rfl⟩ : ∃ m, k = m + 1 := ⟨k - 1, by
        have : k ≠ 0 := by simpa using z
        omega⟩
      have hlast : atI (((List.range (m + 1)).map (RS r ls)).map rtD) (-1) = some (rtD (RS r ls m)) := by
        refine at_neg (k := m) ?_ (by rw [List.length_map, List.length_map, List.length_range]; omega) (by decide)
        rw [List.getElem?_map, List.getElem?_map, List.getElem?_range (by omega)]; rfl
      have hrs : (lawRows r ls (loX r + ((m + 1 : Nat) : Int))).filter (fun own => (RS r ls m).any fun its => rowFits r (loX r + ((m + 1 : Nat) : Int)) its own) = RS r ls (m + 1) := by
        rw [← hst]
        unfold lawStep
        rw [show ((List.range (m + 1)).map (RS r ls)).getLast? = some (RS r ls m) by rw [List.range_succ, List.map_append, List.getLast?_append]; rfl]
      have hcx : cx r m = col r (loX r + ((m + 1 : Nat) : Int) - 1) := by unfold cx; congr 1; omega
      refine s_lcF (own := [("_law_own", 6)]) (l := lawRows r ls (loX r + ((m + 1 : Nat) : Int))) (f := tD) (p := fun own => (RS r ls m).any fun its => rowFits r (loX r + ((m + 1 : Nat) : Int)) its own) (g := tD) 5 (.one 6) rfl sc.nd (i_list (e_var 5 rfl)) (blkOk_by (by kernel_rfl)) (fun _ _ _ _ _ => t_one 6 sc.nd) (fun own ho _ _ _ _ _ => ts_one (EvB.cast (b_c (c_neD (rm64 hr) (e_lc (own := [("_law_its", 7)]) (l := RS r ls m) (f := tD) (p := fun its => rowFits r (loX r + ((m + 1 : Nat) : Int)) its own) (g := fun _ => .int 1) (.one 7) rfl sc.nd (i_tup (e_ix (e_own 3 rfl) (e_neg e_int) hlast)) (blkOk_by (by kernel_rfl)) (fun _ _ _ _ _ => t_one 7 sc.nd) (fun _ _ => trivial) (by decide) (fun its hi _ _ _ _ _ => ts_one (b_v (e_call (law_row_fits_ok T) hr (a_cons (e_var 0 rfl) (a_cons (e_var 4 rfl) (a_cons (e_var 7 rfl) (a_cons (e_var 6 rfl) a_nil)))) ⟨r, _, its, own, sr.nd, r100, by rw [RS_len its hi, hcx], rowsBy_len r ls _ own (lawRows_mem.mp ho), rfl, rfl⟩))) (fun _ _ _ _ _ _ _ _ => e_int)) (e_lst a_nil) (pl_lst (n := 0) (fun _ : List Int => pl_int 1) _).shp rfl)) (by rw [eq_lnil, any_one]))) (fun own _ _ _ _ _ _ _ => (e_var 6 rfl)) ?_
      rw [hrs]
      exact x_nil (x_one (s_append (d := rtD (RS r ls (m + 1))) 3 rfl (e_tupleOf T.tuple (e_var 5 rfl)) (by rw [happ]; exact ⟨_, _, _, _, rfl⟩) hsz))
    · have hk0 : k = 0 := by simpa using z
      subst hk0
      have hrs : lawRows r ls (loX r + ((0 : Nat) : Int)) = RS r ls 0 := hst
      rw [hrs]
      exact x_one (s_append (d := rtD (RS r ls 0)) 3 rfl (e_tupleOf T.tuple (e_var 5 rfl)) (by rw [happ]; exact ⟨_, _, _, _, rfl⟩) hsz)
  · rintro ρ' ⟨a, b, c, e, rfl⟩
    rw [List.length_range]
    exact x_one (s_ret (e_tupleOf T.tuple (e_own 3 rfl)) rfl)
end
end TR
/-! ## E7 -/
set_option Elab.async false
set_option linter.all false
set_option maxRecDepth 100000
set_option maxHeartbeats 2000000
namespace TR
open PySem L2
/-! ### lists for tuples -/
mutual
def lstD : D → D
  | .tup l => .lst (lstDs l)
  | .stp l => .lst (lstDs l)
  | .lst l => .lst (lstDs l)
  | d => d
def lstDs : List D → List D
  | [] => []
  | d :: l => lstD d :: lstDs l
end
theorem lstDs_map : ∀ l : List D, lstDs l = l.map lstD
  | [] => rfl
  | d :: l => by rw [lstDs, List.map_cons, lstDs_map l]
theorem lst_seq {t : D} (h : (isLst t || isTup t) = true) : ∃ l, IsSeq t l ∧ lstD t = .lst (lstDs l) ∧ dep t = deps l + 1 := by
  cases t with
  | tup l => exact ⟨l, .tup l, rfl, rfl⟩
  | stp l => exact ⟨l, .stp l, rfl, rfl⟩
  | lst l => exact ⟨l, .lst l, rfl, rfl⟩
  | _ => cases h
theorem lst_flat {t : D} (h : ¬ (isLst t || isTup t) = true) : lstD t = t := by
  cases t <;> first | rfl | exact absurd rfl h
/-! ### the same, at every depth -/
mutual
def sameD : D → D → Bool
  | .lst l, .lst m => sameDs l m
  | .tup l, .tup m => sameDs l m
  | .int i, .int j => decide (i = j)
  | .bl i, .bl j => i == j
  | _, _ => false
def sameDs : List D → List D → Bool
  | [], [] => true
  | a :: l, b :: m => sameD a b && sameDs l m
  | _, _ => false
end
mutual
/-- what the law can compare -/
def okS : D → D → Bool
  | .lst l, .lst m => okSs l m
  | .tup l, .tup m => okSs l m
  | .lst _, .tup _ => true
  | .tup _, .lst _ => true
  | .int _, .int _ => true
  | .bl _, .bl _ => true
  | _, _ => false
def okSs : List D → List D → Bool
  | a :: l, b :: m => okS a b && okSs l m
  | _, _ => true
end
mutual
def good : D → Bool
  | .lst l => goods l
  | .tup l => goods l
  | .int _ => true
  | .bl _ => true
  | _ => false
def goods : List D → Bool
  | [] => true
  | a :: l => good a && goods l
end
mutual
theorem good_ok : ∀ {d : D}, good d = true → okS d d = true ∧ sameD d d = true
  | .lst l, h => goods_ok (by simpa [good] using h)
  | .tup l, h => goods_ok (by simpa [good] using h)
  | .int _, _ => by simp [okS, sameD]
  | .bl _, _ => by simp [okS, sameD]
  | .non, h => by cases h
  | .stp _, h => by cases h
  | .dT _, h => by cases h
  | .dI _, h => by cases h
theorem goods_ok : ∀ {l : List D}, goods l = true → okSs l l = true ∧ sameDs l l = true
  | [], _ => ⟨rfl, rfl⟩
  | a :: l, h => by
    have h : good a = true ∧ goods l = true := by simpa [goods] using h
    have h1 := good_ok h.1
    have h2 := goods_ok h.2
    exact ⟨by rw [okSs, h1.1, h2.1]; rfl, by rw [sameDs, h1.2, h2.2]; rfl⟩
end
theorem okSs_zip : ∀ {l m : List D}, okSs l m = true → ∀ q ∈ l.zip m, okS q.1 q.2 = true
  | [], m, _, q, hq => by rw [List.zip_nil_left] at hq; cases hq
  | a :: l, [], _, q, hq => by cases hq
  | a :: l, b :: m, h, q, hq => by
    have h : okS a b = true ∧ okSs l m = true := by simpa [okSs] using h
    rcases List.mem_cons.mp hq with rfl | hq
    · exact h.1
    · exact okSs_zip h.2 q hq
theorem sameDs_zip : ∀ {l m : List D}, sameDs l m = (decide ((l.length : Int) = (m.length : Int)) && (l.zip m).all fun q => sameD q.1 q.2)
  | [], [] => rfl
  | [], b :: m => by simp [sameDs]; omega
  | a :: l, [] => by simp [sameDs]; omega
  | a :: l, b :: m => by
    rw [sameDs, sameDs_zip (l := l) (m := m), List.zip_cons_cons, List.all_cons]
    have e : decide (((a :: l).length : Int) = ((b :: m).length : Int)) = decide ((l.length : Int) = (m.length : Int)) := by
      rw [decide_eq_decide, List.length_cons, List.length_cons]; omega
    rw [e, ← Bool.and_assoc, ← Bool.and_assoc, Bool.and_comm (sameD a b)]
section
variable {P : Program} {w : World} {K : PySem.W.Frag} {mg : Str → Option Value} {bs : Heap}
theorem law_lists_ok (T : Tp K mg) : ∀ n : Nat, FnI P w K mg bs (n + 1) "_law_lists" ["_law_matter"] (spD 1 fun ds d => ∃ t, ds = [t] ∧ dep t ≤ n ∧ d = lstD t) := by
  have sc : FnScope ["_law_matter", "_law_bit"] ["_law_matter"] (defScope (topS 70)) := ⟨rfl, rfl, rfl, by decide +kernel, rfl, by decide +kernel, by decide +kernel⟩
  intro n
  induction n with
  | zero =>
    refine fn_pure T.law_lists sc (fun _ _ _ _ _ _ us hl => match us, hl with | [_], _ => rfl) ?_
    rintro f cdv A outer s H E hr ds d hl ⟨t, rfl, hd, rfl⟩
    have nt : ¬ (isLst t || isTup t) = true := fun h => by obtain ⟨l, _, _, e⟩ := lst_seq h; omega
    rw [lst_flat nt]
    exact x_one (s_ret (e_if (EvB.cast (b_v (e_isi2 (e_var 0 rfl) T.isinstance T.list T.tuple PyProof.Rows.boot_list PyProof.Rows.boot_tuple (kit_list _) (kit_tuple _))) (Bool.eq_false_iff.mpr nt)) (fun h => by cases h) fun _ => (e_var 0 rfl)) rfl)
  | succ n ih =>
    refine fn_pure T.law_lists sc (fun _ _ _ _ _ _ us hl => match us, hl with | [_], _ => rfl) ?_
    rintro f cdv A outer s H E hr ds d hl ⟨t, rfl, hd, rfl⟩
    by_cases ht : (isLst t || isTup t) = true
    · obtain ⟨l, hs, e1, e2⟩ := lst_seq ht
      rw [e1]
      exact x_one (s_ret (k := .st) (e_if (EvB.cast (b_v (e_isi2 (e_var 0 rfl) T.isinstance T.list T.tuple PyProof.Rows.boot_list PyProof.Rows.boot_tuple (kit_list _) (kit_tuple _))) ht) (fun _ => Ev.cast (Ev.toSt (k := .fr) (fun z => nomatch z) (e_lc0 (own := [("_law_bit", 1)]) (f := id) (g := lstD) (.one 1) rfl sc.nd (i_seq (e_var 0 rfl) hs) (blkOk_by (by kernel_rfl)) (fun _ _ _ _ _ => t_one 1 sc.nd) fun a ha _ _ _ _ _ => e_call ih hr (a_cons (e_var 1 rfl) a_nil) ⟨_, rfl, deps_le (by omega) a ha, rfl⟩ (Nat.le_refl _))) (by rw [lstDs_map])) (fun h => by cases h)) rfl)
    · rw [lst_flat ht]
      exact x_one (s_ret (e_if (EvB.cast (b_v (e_isi2 (e_var 0 rfl) T.isinstance T.list T.tuple PyProof.Rows.boot_list PyProof.Rows.boot_tuple (kit_list _) (kit_tuple _))) (Bool.eq_false_iff.mpr ht)) (fun h => by cases h) fun _ => (e_var 0 rfl)) rfl)
theorem law_same_ok (T : Tp K mg) : ∀ n : Nat, FnI P w K mg bs (n + 1) "_law_same" ["_law_got", "_law_due"] (spD 2 fun ds d => ∃ t u, ds = [t, u] ∧ dep u ≤ n ∧ okS t u = true ∧ d = .bl (sameD t u)) := by
  have sc : FnScope ["_law_got", "_law_due", "_law_mine", "_law_its"] ["_law_got", "_law_due"] (defScope (topS 71)) := ⟨rfl, rfl, rfl, by decide +kernel, rfl, by decide +kernel, by decide +kernel⟩
  intro n
  induction n with
  | zero =>
    refine fn_pure T.law_same sc (fun _ _ _ _ _ _ us hl => match us, hl with | [_, _], _ => rfl) ?_
    rintro f cdv A outer s H E hr ds d hl ⟨t, u, rfl, hd, ho, rfl⟩
    have nt : (isLst u || isTup u) = false := Bool.eq_false_iff.mpr fun h => by obtain ⟨l, _, _, e⟩ := lst_seq h; omega
    refine x_cons (s_if (p := false) (EvB.cast (b_v (e_isi2 (e_var 1 rfl) T.isinstance T.list T.tuple PyProof.Rows.boot_list PyProof.Rows.boot_tuple (kit_list _) (kit_tuple _))) nt) (fun z => by cases z) fun _ => x_nil ?_)
    cases u with
    | int j =>
      cases t with
      | int i =>
        refine x_cons (s_if (p := false) (EvB.cast (EvW.toB (w_or (b_c (c_isN (e_var 1 rfl))) fun _ => (w_or1 (b_v (e_isi2 (e_var 1 rfl) T.isinstance T.bool T.str PyProof.Rows.boot_bool PyProof.Rows.boot_str (kit_bool _) (kit_str _)))))) rfl) (fun z => by cases z) fun _ => x_nil ?_)
        exact x_one (s_ret (Ev.cast (e_and (e_isi (e_var 0 rfl) T.isinstance T.int PyProof.Rows.boot_int (kit_int _)) fun _ => (e_and (e_not (e_isi (e_var 0 rfl) T.isinstance T.bool PyProof.Rows.boot_bool (kit_bool _))) fun _ => (e_one (e_c (c_eqI (e_var 0 rfl) (e_var 1 rfl)))))) rfl) rfl)
      | _ => cases ho
    | bl j =>
      cases t with
      | bl i =>
        refine x_cons (s_if (p := true) (EvB.cast (EvW.toB (w_or (b_c (c_isN (e_var 1 rfl))) fun _ => (w_or1 (b_v (e_isi2 (e_var 1 rfl) T.isinstance T.bool T.str PyProof.Rows.boot_bool PyProof.Rows.boot_str (kit_bool _) (kit_str _)))))) rfl) (fun _ => ?_) fun z => by cases z)
        exact x_one (s_ret (Ev.cast (e_and (e_c (c_eqB (e_var 0 rfl) (e_var 1 rfl))) fun _ => (e_and (e_c (c_eqB (e_isi (e_var 0 rfl) T.isinstance T.bool PyProof.Rows.boot_bool (kit_bool _)) (e_isi (e_var 1 rfl) T.isinstance T.bool PyProof.Rows.boot_bool (kit_bool _)))) fun _ => (e_one (e_c (c_eqB (e_c (c_isN (e_var 0 rfl))) (e_c (c_isN (e_var 1 rfl)))))))) (by simp [sameD, isBool, isNon])) rfl)
      | _ => cases ho
    | tup l => cases nt
    | lst l => cases nt
    | non => cases t <;> cases ho
    | stp l => cases nt
    | dT l => cases t <;> cases ho
    | dI l => cases t <;> cases ho
  | succ n ih =>
    refine fn_pure T.law_same sc (fun _ _ _ _ _ _ us hl => match us, hl with | [_, _], _ => rfl) ?_
    rintro f cdv A outer s H E hr ds d hl ⟨t, u, rfl, hd, ho, rfl⟩
    cases u with
    | int j =>
      refine x_cons (s_if (p := false) (EvB.cast (b_v (e_isi2 (e_var 1 rfl) T.isinstance T.list T.tuple PyProof.Rows.boot_list PyProof.Rows.boot_tuple (kit_list _) (kit_tuple _))) rfl) (fun z => by cases z) fun _ => x_nil ?_)
      cases t with
      | int i =>
        refine x_cons (s_if (p := false) (EvB.cast (EvW.toB (w_or (b_c (c_isN (e_var 1 rfl))) fun _ => (w_or1 (b_v (e_isi2 (e_var 1 rfl) T.isinstance T.bool T.str PyProof.Rows.boot_bool PyProof.Rows.boot_str (kit_bool _) (kit_str _)))))) rfl) (fun z => by cases z) fun _ => x_nil ?_)
        exact x_one (s_ret (Ev.cast (e_and (e_isi (e_var 0 rfl) T.isinstance T.int PyProof.Rows.boot_int (kit_int _)) fun _ => (e_and (e_not (e_isi (e_var 0 rfl) T.isinstance T.bool PyProof.Rows.boot_bool (kit_bool _))) fun _ => (e_one (e_c (c_eqI (e_var 0 rfl) (e_var 1 rfl)))))) rfl) rfl)
      | _ => cases ho
    | bl j =>
      refine x_cons (s_if (p := false) (EvB.cast (b_v (e_isi2 (e_var 1 rfl) T.isinstance T.list T.tuple PyProof.Rows.boot_list PyProof.Rows.boot_tuple (kit_list _) (kit_tuple _))) rfl) (fun z => by cases z) fun _ => x_nil ?_)
      cases t with
      | bl i =>
        refine x_cons (s_if (p := true) (EvB.cast (EvW.toB (w_or (b_c (c_isN (e_var 1 rfl))) fun _ => (w_or1 (b_v (e_isi2 (e_var 1 rfl) T.isinstance T.bool T.str PyProof.Rows.boot_bool PyProof.Rows.boot_str (kit_bool _) (kit_str _)))))) rfl) (fun _ => ?_) fun z => by cases z)
        exact x_one (s_ret (Ev.cast (e_and (e_c (c_eqB (e_var 0 rfl) (e_var 1 rfl))) fun _ => (e_and (e_c (c_eqB (e_isi (e_var 0 rfl) T.isinstance T.bool PyProof.Rows.boot_bool (kit_bool _)) (e_isi (e_var 1 rfl) T.isinstance T.bool PyProof.Rows.boot_bool (kit_bool _)))) fun _ => (e_one (e_c (c_eqB (e_c (c_isN (e_var 0 rfl))) (e_c (c_isN (e_var 1 rfl)))))))) (by simp [sameD, isBool, isNon])) rfl)
      | _ => cases ho
    | tup m =>
      have hm : deps m ≤ n := by have : deps m + 1 ≤ n + 1 := hd; omega
      cases t with
      | tup l =>
        have ho : okSs l m = true := by simpa [okS] using ho
        refine x_cons (s_if (p := true) (EvB.cast (b_v (e_isi2 (e_var 1 rfl) T.isinstance T.list T.tuple PyProof.Rows.boot_list PyProof.Rows.boot_tuple (kit_list _) (kit_tuple _))) rfl) (fun _ => ?_) fun z => by cases z)
        refine x_cons (s_if (p := false) (EvB.cast (EvW.toB (w_or (b_c (c_neB (e_isi (e_var 0 rfl) T.isinstance T.list PyProof.Rows.boot_list (kit_list _)) (e_isi (e_var 1 rfl) T.isinstance T.list PyProof.Rows.boot_list (kit_list _)))) fun _ => (w_or1 (b_c (c_neB (e_isi (e_var 0 rfl) T.isinstance T.tuple PyProof.Rows.boot_tuple (kit_tuple _)) (e_isi (e_var 1 rfl) T.isinstance T.tuple PyProof.Rows.boot_tuple (kit_tuple _))))))) rfl) (fun z => by cases z) fun _ => x_nil ?_)
        exact x_one (s_ret (Ev.cast (e_and (e_c (c_eqI (e_len T.len (e_var 0 rfl)) (e_len T.len (e_var 1 rfl)))) fun _ => (e_one (e_allM (l := l.zip m) (φ := fun q => sameD q.1 q.2) rfl T.all (e_lc0 (own := [("_law_mine", 2), ("_law_its", 3)]) (l := l.zip m) (f := fun q => .tup [q.1, q.2]) (g := fun q => .bl (sameD q.1 q.2)) (.tup [2, 3]) rfl sc.nd (i_zipT T.zip (e_var 0 rfl) (e_var 1 rfl)) (blkOk_by (by kernel_rfl)) (fun _ _ _ _ _ => t_two 2 3 rfl sc.nd) (fun q hq _ _ _ _ _ => (e_call ih hr (a_cons (e_var 2 rfl) (a_cons (e_var 3 rfl) a_nil)) ⟨_, _, rfl, deps_le hm q.2 (List.of_mem_zip (a := q.1) (b := q.2) hq).2, okSs_zip ho q hq, rfl⟩ (Nat.le_refl _))) (fun _ _ => rfl))))) (by rw [sameD, sameDs_zip])) rfl)
      | lst l =>
        refine x_cons (s_if (p := true) (EvB.cast (b_v (e_isi2 (e_var 1 rfl) T.isinstance T.list T.tuple PyProof.Rows.boot_list PyProof.Rows.boot_tuple (kit_list _) (kit_tuple _))) rfl) (fun _ => ?_) fun z => by cases z)
        exact x_cons (s_if (p := true) (EvB.cast (EvW.toB (w_or (b_c (c_neB (e_isi (e_var 0 rfl) T.isinstance T.list PyProof.Rows.boot_list (kit_list _)) (e_isi (e_var 1 rfl) T.isinstance T.list PyProof.Rows.boot_list (kit_list _)))) fun _ => (w_or1 (b_c (c_neB (e_isi (e_var 0 rfl) T.isinstance T.tuple PyProof.Rows.boot_tuple (kit_tuple _)) (e_isi (e_var 1 rfl) T.isinstance T.tuple PyProof.Rows.boot_tuple (kit_tuple _))))))) rfl) (fun _ => x_one (s_ret e_bl rfl)) fun z => by cases z)
      | _ => cases ho
    | lst m =>
      have hm : deps m ≤ n := by have : deps m + 1 ≤ n + 1 := hd; omega
      cases t with
      | lst l =>
        have ho : okSs l m = true := by simpa [okS] using ho
        refine x_cons (s_if (p := true) (EvB.cast (b_v (e_isi2 (e_var 1 rfl) T.isinstance T.list T.tuple PyProof.Rows.boot_list PyProof.Rows.boot_tuple (kit_list _) (kit_tuple _))) rfl) (fun _ => ?_) fun z => by cases z)
        refine x_cons (s_if (p := false) (EvB.cast (EvW.toB (w_or (b_c (c_neB (e_isi (e_var 0 rfl) T.isinstance T.list PyProof.Rows.boot_list (kit_list _)) (e_isi (e_var 1 rfl) T.isinstance T.list PyProof.Rows.boot_list (kit_list _)))) fun _ => (w_or1 (b_c (c_neB (e_isi (e_var 0 rfl) T.isinstance T.tuple PyProof.Rows.boot_tuple (kit_tuple _)) (e_isi (e_var 1 rfl) T.isinstance T.tuple PyProof.Rows.boot_tuple (kit_tuple _))))))) rfl) (fun z => by cases z) fun _ => x_nil ?_)
        exact x_one (s_ret (Ev.cast (e_and (e_c (c_eqI (e_len T.len (e_var 0 rfl)) (e_len T.len (e_var 1 rfl)))) fun _ => (e_one (e_allM (l := l.zip m) (φ := fun q => sameD q.1 q.2) rfl T.all (e_lc0 (own := [("_law_mine", 2), ("_law_its", 3)]) (l := l.zip m) (f := fun q => .tup [q.1, q.2]) (g := fun q => .bl (sameD q.1 q.2)) (.tup [2, 3]) rfl sc.nd (i_zipL T.zip (e_var 0 rfl) (e_var 1 rfl)) (blkOk_by (by kernel_rfl)) (fun _ _ _ _ _ => t_two 2 3 rfl sc.nd) (fun q hq _ _ _ _ _ => (e_call ih hr (a_cons (e_var 2 rfl) (a_cons (e_var 3 rfl) a_nil)) ⟨_, _, rfl, deps_le hm q.2 (List.of_mem_zip (a := q.1) (b := q.2) hq).2, okSs_zip ho q hq, rfl⟩ (Nat.le_refl _))) (fun _ _ => rfl))))) (by rw [sameD, sameDs_zip])) rfl)
      | tup l =>
        refine x_cons (s_if (p := true) (EvB.cast (b_v (e_isi2 (e_var 1 rfl) T.isinstance T.list T.tuple PyProof.Rows.boot_list PyProof.Rows.boot_tuple (kit_list _) (kit_tuple _))) rfl) (fun _ => ?_) fun z => by cases z)
        exact x_cons (s_if (p := true) (EvB.cast (EvW.toB (w_or (b_c (c_neB (e_isi (e_var 0 rfl) T.isinstance T.list PyProof.Rows.boot_list (kit_list _)) (e_isi (e_var 1 rfl) T.isinstance T.list PyProof.Rows.boot_list (kit_list _)))) fun _ => (w_or1 (b_c (c_neB (e_isi (e_var 0 rfl) T.isinstance T.tuple PyProof.Rows.boot_tuple (kit_tuple _)) (e_isi (e_var 1 rfl) T.isinstance T.tuple PyProof.Rows.boot_tuple (kit_tuple _))))))) rfl) (fun _ => x_one (s_ret e_bl rfl)) fun z => by cases z)
      | _ => cases ho
    | non => cases t <;> cases ho
    | stp l => cases t <;> cases ho
    | dT l => cases t <;> cases ho
    | dI l => cases t <;> cases ho
theorem law_is_own_ok (T : Tp K mg) (n : Nat) : FnI P w K mg bs (n + 2) "_law_is_own" ["_law_matter", "_law_due"] (spD 2 fun ds d => ∃ l u, ds = [.tup l, u] ∧ dep u ≤ n ∧ okS (.tup l) u = true ∧ d = .bl (sameD (.tup l) u)) := by
  have sc : FnScope ["_law_matter", "_law_due"] ["_law_matter", "_law_due"] (defScope (topS 92)) := ⟨rfl, rfl, rfl, by decide +kernel, rfl, by decide +kernel, by decide +kernel⟩
  refine fn_pure T.law_is_own sc (fun _ _ _ _ _ _ us hl => match us, hl with | [_, _], _ => rfl) ?_
  rintro f cdv A outer s H E hr ds d hl ⟨l, u, rfl, hd, ho, rfl⟩
  exact x_one (s_ret (Ev.cast (e_and (e_isi (e_var 0 rfl) T.isinstance T.tuple PyProof.Rows.boot_tuple (kit_tuple _)) fun _ => (e_one (e_call (law_same_ok T n) hr (a_cons (e_var 0 rfl) (a_cons (e_var 1 rfl) a_nil)) ⟨_, _, rfl, hd, ho, rfl⟩ (Nat.le_refl _)))) rfl) rfl)
end
end TR
/-! ## E8 -/
set_option Elab.async false
set_option linter.all false
set_option maxRecDepth 100000
set_option maxHeartbeats 2000000
namespace TR
open PySem L2
def noD : Option Nat → D
  | none => .non
  | some i => .int (i : Nat)
theorem noD_is (o : Option Nat) : isNon (noD o) = o.isNone := by cases o <;> rfl
theorem eq_ab (o : Option Int) (i : Int) : eqD (abD o) (.int i) = decide (o = some i) := by
  cases o with
  | none => rfl
  | some j => show eqD (.int j) (.int i) = _; rw [eq_int]; simp
theorem pl_ab (o : Option Int) : Pl 0 (abD o) := by cases o with | none => exact pl_non | some i => exact pl_int i
theorem non_in (w n c : Option Int) : (!inD .non [abD w, abD n, abD c]) = (w.isSome && n.isSome && c.isSome) := by
  cases w <;> cases n <;> cases c <;> rfl
theorem ab_in (c : Option Int) : (!inD (abD c) [.int 1, .int 2]) = !(decide (c = some 1) || decide (c = some 2)) := by
  unfold inD
  congr 1
  show (eqD (.int 1) (abD c) || (eqD (.int 2) (abD c) || false)) = _
  cases c with
  | none => rfl
  | some j =>
    show (eqD (.int 1) (.int j) || (eqD (.int 2) (.int j) || false)) = _
    rw [eq_int, eq_int, Bool.or_false]
    congr 1 <;> (rw [decide_eq_decide]; constructor <;> intro z <;> simp_all)
def stepD (places : List (Option Nat)) (e s : Bool) (mv : List Int) : D := .tup [.lst (places.map noD), .bl e, .bl s, .lst (mv.map .int)]
theorem kindsN_in (w n c b : Option Int) (e s : Bool) : ∀ k ∈ kindsN w n c b e s, k ∈ five := by
  intro k h
  rw [← kindsN_five] at h
  exact (List.mem_filter.mp h).1
theorem abD_get {state : List Int} {j : Nat} (h : j < state.length) : atI (state.map D.int) ((j : Nat) : Int) = some (abD (some (state.getD j 0))) := at_pos (k := j) (by rw [List.getElem?_map, List.getD_eq_getElem?_getD, List.getElem?_eq_getElem h]; rfl) rfl
section
variable {P : Program} {w : World} {K : PySem.W.Frag} {mg : Str → Option Value} {bs : Heap}
theorem law_kinds_next_ok (T : Tp K mg) : FnI P w K mg bs 1 "_law_kinds_next" ["_law_step_so", "_law_state_so", "_law_let_so"] (spD 3 fun ds d => ∃ (places : List (Option Nat)) (e s : Bool) (mv state : List Int) (w' n c b : Option Int), places.map (fun o => o.map fun j => state.getD j 0) = [w', n, c, b] ∧ (∀ j, some j ∈ places → j < state.length) ∧ ds = [stepD places e s mv, tD state, tD five] ∧ d = .lst ((kindsN w' n c b e s).map .int)) := by
  have sc : FnScope ["_law_step_so", "_law_state_so", "_law_let_so", "_law_near_so", "_law_west_so", "_law_north_so", "_law_corner_so", "_law_below_so", "_law_found", "_law_own"] ["_law_step_so", "_law_state_so", "_law_let_so"] (defScope (topS 76)) := ⟨rfl, rfl, rfl, by decide +kernel, rfl, by decide +kernel, by decide +kernel⟩
  refine fn_pure T.law_kinds_next sc (fun _ _ _ _ _ _ us hl => match us, hl with | [_, _, _], _ => rfl) ?_
  rintro f cdv A outer s H E hr ds d hl ⟨places, e, so, mv, state, w', n, c, b, hpl, hst, rfl, rfl⟩
  refine s_lc0 (k := .st) (own := [("_law_own", 9)]) (l := places) (f := noD) (g := fun o => abD (o.map fun j => state.getD j 0)) 3 (.one 9) rfl sc.nd (i_list (e_ix (d := .lst (places.map noD)) (e_var 0 rfl) e_int rfl)) (blkOk_by (by kernel_rfl)) (fun _ _ _ _ _ => t_one 9 sc.nd) (fun o ho _ _ _ _ _ => e_if (EvB.cast (b_c (c_isN (e_var 9 rfl))) (noD_is o)) (fun z => ?_) fun z => ?_) ?_
  · cases o with
    | none => exact e_non
    | some i => cases z
  · cases o with
    | none => cases z
    | some i => exact e_ix (d := abD (some (state.getD i 0))) (e_var 1 rfl) (Ev.cast (e_var 9 rfl) rfl) (abD_get (hst i ho)) (.tup _)
  have hl4 : places.map (fun o => abD (o.map fun j => state.getD j 0)) = [abD w', abD n, abD c, abD b] := by
    have := congrArg (List.map abD) hpl
    rw [List.map_map] at this
    exact this
  rw [hl4]
  refine x_cons (s_unl (js := [4, 5, 6, 7]) rfl (pgs_cons (pg_name sc.nd (i := 4) rfl (.inl rfl) (.inr rfl)) (pgs_cons (pg_name sc.nd (i := 5) rfl (.inl rfl) (.inr rfl)) (pgs_cons (pg_name sc.nd (i := 6) rfl (.inl rfl) (.inr rfl)) (pgs_cons (pg_name sc.nd (i := 7) rfl (.inl rfl) (.inr rfl)) pgs_nil)))) (e_var 3 rfl) ?_)
  show Ex _ [.dat (stepD places e so mv), .dat (tD state), .dat (tD five), .dat (.lst [abD w', abD n, abD c, abD b]), .dat (abD w'), .dat (abD n), .dat (abD c), .dat (abD b), .any, .any] _ _ _
  refine x_cons (s_if (p := decide (w' = some 1) && decide (n = some 2)) (EvW.toB (w_and (EvB.cast (b_c (c_eqD (rm64 hr) (e_var 4 rfl) e_int (pl_ab _).shp rfl)) (eq_ab _ _)) fun _ => (w_and1 (EvB.cast (b_c (c_eqD (rm64 hr) (e_var 5 rfl) e_int (pl_ab _).shp rfl)) (eq_ab _ _))))) (fun z => ?_) fun z => x_nil ?_)
  · refine x_one (s_ret (d := .lst []) (e_lst a_nil) ?_)
    rw [Bool.and_eq_true, decide_eq_true_eq, decide_eq_true_eq] at z
    unfold kindsN
    rw [if_pos z]; rfl
  have z0 : ¬ (w' = some 1 ∧ n = some 2) := fun q => by rw [decide_eq_true q.1, decide_eq_true q.2] at z; cases z
  have fin : ∀ k : Int, inD (.int k) (five.map .int) = decide (k ∈ five) := fun k => in_map eq_int k five
  have self : ∀ l : List Int, (∀ k ∈ l, k ∈ five) → l.filter (fun k => decide (k ∈ five)) = l := fun l h => List.filter_eq_self.mpr fun k hk => decide_eq_true (h k hk)
  refine x_cons (s_if (p := decide (w' = some 1) || decide (n = some 2)) (EvW.toB (w_or (EvB.cast (b_c (c_eqD (rm64 hr) (e_var 4 rfl) e_int (pl_ab _).shp rfl)) (eq_ab _ _)) fun _ => (w_or1 (EvB.cast (b_c (c_eqD (rm64 hr) (e_var 5 rfl) e_int (pl_ab _).shp rfl)) (eq_ab _ _))))) (fun z => ?_) fun z => ?_)
  · have z1 : w' = some 1 ∨ n = some 2 := by simpa using z
    have hk : kindsN w' n c b e so = [if w' = some 1 then 3 else 4] := by unfold kindsN; rw [if_neg z0, if_pos z1]
    have h5 := kindsN_in w' n c b e so
    rw [hk] at h5 ⊢
    refine x_one (s_asg (d := .lst ([if w' = some 1 then 3 else 4].map .int)) 8 sc.nd (e_lst (a_cons (e_if (EvB.cast (b_c (c_eqD (rm64 hr) (e_var 4 rfl) e_int (pl_ab _).shp rfl)) (eq_ab _ _)) (fun z => Ev.cast (e_int (i := 3)) (by rw [if_pos (of_decide_eq_true z)])) fun z => Ev.cast (e_int (i := 4)) (by rw [if_neg (of_decide_eq_false z)])) a_nil)) ?_)
    exact x_one (s_ret (e_lc (own := [("_law_own", 9)]) (l := [if w' = some 1 then 3 else 4]) (f := .int) (p := fun k => decide (k ∈ five)) (g := .int) (.one 9) rfl sc.nd (i_list (e_var 8 rfl)) (blkOk_by (by kernel_rfl)) (fun _ _ _ _ _ => t_one 9 sc.nd) (fun _ _ => trivial) (by decide) (fun k _ _ _ _ _ _ => ts_one (EvB.cast (b_c (c_in (rm65 hr) (e_var 9 rfl) (e_var 2 rfl) (.tup _) (pl_int k).shp (by decide +kernel))) (fin k))) (fun k _ _ _ _ _ _ _ => (e_var 9 rfl))) (by rw [self _ h5]))
  · have z1 : ¬ (w' = some 1 ∨ n = some 2) := by simpa using z
    obtain ⟨F0, hF0⟩ : ∃ F0 : List Int, F0 = [0] ++ (if e then [1] else []) ++ (if so && !decide (b = some 1) then [2] else []) := ⟨_, rfl⟩
    have hk : kindsN w' n c b e so = if (w'.isSome && n.isSome && c.isSome && !(decide (c = some 1) || decide (c = some 2))) = true then [] else F0 := by unfold kindsN; rw [if_neg z0, if_neg z1, hF0]
    refine x_cons (s_asg (d := .lst (F0.map .int)) 8 sc.nd (Ev.cast (e_cat (e_cat (e_lst (a_cons e_int a_nil)) (e_rep (e_lst (a_cons e_int a_nil)) (e_intB T.int (e_ix (d := .bl e) (e_var 0 rfl) e_int rfl)) ?_ ?_ ?_) ?_) (e_rep (e_lst (a_cons e_int a_nil)) (e_intB T.int (e_and (e_ix (d := .bl so) (e_var 0 rfl) e_int rfl) fun _ => (e_one (Ev.cast (e_c (c_neD (rm64 hr) (e_var 7 rfl) e_int (pl_ab _).shp rfl)) (congrArg D.bl (congrArg Bool.not (eq_ab _ _))))))) ?_ ?_ ?_) ?_) ?_) ?_)
    · split <;> decide
    · split <;> decide
    · cases e <;> exact Nat.le_trans (by decide : _ ≤ 100) (by decide)
    · cases e <;> exact Nat.le_trans (by decide : _ ≤ 100) (by decide)
    · split <;> decide
    · split <;> decide
    · split <;> exact Nat.le_trans (by decide : _ ≤ 100) (by decide)
    · cases e <;> cases (so && !decide (b = some 1)) <;> exact Nat.le_trans (by decide : _ ≤ 100) (by decide)
    · rw [hF0]
      cases e <;> cases (so && !decide (b = some 1)) <;> rfl
    have hF5 : ∀ k ∈ F0, k ∈ five := by
      rw [hF0]
      cases e <;> cases (so && !decide (b = some 1)) <;> decide
    show Ex _ [.dat (stepD places e so mv), .dat (tD state), .dat (tD five), .dat (.lst [abD w', abD n, abD c, abD b]), .dat (abD w'), .dat (abD n), .dat (abD c), .dat (abD b), .dat (.lst (F0.map .int)), .any] _ _ _
    refine x_one (s_if (p := (w'.isSome && n.isSome && c.isSome) && !(decide (c = some 1) || decide (c = some 2))) (EvW.toB (w_and (EvB.cast (b_c (c_notIn (rm65 hr) e_non (Ev.cast (e_sliceL (e_var 3 rfl) .none (.some e_int)) (show D.lst _ = .lst [abD w', abD n, abD c] from rfl)) (.lst _) pl_non.shp (lay_ts (n := 0) pl_ab [w', n, c]))) (non_in _ _ _)) fun _ => (w_and1 (EvB.cast (b_c (c_notIn (rm65 hr) (e_var 6 rfl) (e_tup (a_cons e_int (a_cons e_int a_nil))) (.tup _) (pl_ab c).shp (by decide +kernel))) (ab_in c))))) (fun zz => ?_) fun zz => x_nil ?_)
    · rw [hk, if_pos zz]
      refine x_one (s_asg (d := .lst (([] : List Int).map .int)) 8 sc.nd (e_lst a_nil) ?_)
      exact x_one (s_ret (e_lc (own := [("_law_own", 9)]) (l := ([] : List Int)) (f := .int) (p := fun k => decide (k ∈ five)) (g := .int) (.one 9) rfl sc.nd (i_list (e_var 8 rfl)) (blkOk_by (by kernel_rfl)) (fun _ _ _ _ _ => t_one 9 sc.nd) (fun _ _ => trivial) (by decide) (fun k _ _ _ _ _ _ => ts_one (EvB.cast (b_c (c_in (rm65 hr) (e_var 9 rfl) (e_var 2 rfl) (.tup _) (pl_int k).shp (by decide +kernel))) (fin k))) (fun k _ _ _ _ _ _ _ => (e_var 9 rfl))) rfl)
    · rw [hk, if_neg (by rw [zz]; exact Bool.false_ne_true)]
      exact x_one (s_ret (e_lc (own := [("_law_own", 9)]) (l := F0) (f := .int) (p := fun k => decide (k ∈ five)) (g := .int) (.one 9) rfl sc.nd (i_list (e_var 8 rfl)) (blkOk_by (by kernel_rfl)) (fun _ _ _ _ _ => t_one 9 sc.nd) (fun _ _ => trivial) (by decide) (fun k _ _ _ _ _ _ => ts_one (EvB.cast (b_c (c_in (rm65 hr) (e_var 9 rfl) (e_var 2 rfl) (.tup _) (pl_int k).shp (by decide +kernel))) (fin k))) (fun k _ _ _ _ _ _ _ => (e_var 9 rfl))) (by rw [self _ hF5]))
theorem law_moved_on_ok (T : Tp K mg) : FnI P w K mg bs 1 "_law_moved_on" ["_law_step_so", "_law_state_so", "_law_kind_so"] (spD 3 fun ds d => ∃ (places : List (Option Nat)) (e s : Bool) (mv state : List Int) (m : Int), (∀ j ∈ mv, j = -1 ∨ (0 ≤ j ∧ j.toNat < state.length)) ∧ ds = [stepD places e s mv, tD state, .int m] ∧ d = tD (mv.map fun j => if j = -1 then cut2 m else state.getD j.toNat 0)) := by
  have sc : FnScope ["_law_step_so", "_law_state_so", "_law_kind_so", "_law_mine_so", "_law_own"] ["_law_step_so", "_law_state_so", "_law_kind_so"] (defScope (topS 77)) := ⟨rfl, rfl, rfl, by decide +kernel, rfl, by decide +kernel, by decide +kernel⟩
  refine fn_pure T.law_moved_on sc (fun _ _ _ _ _ _ us hl => match us, hl with | [_, _, _], _ => rfl) ?_
  rintro f cdv A outer s H E hr ds d hl ⟨places, e, so, mv, state, m, hmv, rfl, rfl⟩
  refine x_cons (s_asg (d := .int (cut2 m)) 3 sc.nd (e_if (b_c (c_lt (e_var 2 rfl) e_int)) (fun z => Ev.cast (e_var 2 rfl) (by unfold cut2; rw [if_pos (of_decide_eq_true z)])) fun z => Ev.cast (e_int (i := 0)) (by unfold cut2; rw [if_neg (of_decide_eq_false z)])) ?_)
  refine x_one (s_ret (Ev.cast (e_tupleOf T.tuple (e_lc0 (k := .st) (own := [("_law_own", 4)]) (l := mv) (f := .int) (g := fun j => .int (if j = -1 then cut2 m else state.getD j.toNat 0)) (.one 4) rfl sc.nd (i_list (e_ix (d := .lst (mv.map .int)) (e_var 0 rfl) e_int rfl)) (blkOk_by (by kernel_rfl)) (fun _ _ _ _ _ => t_one 4 sc.nd) fun j hj _ _ _ _ _ => e_if (b_c (c_eqI (i := j) (j := -1) (e_var 4 rfl) (e_neg (i := 1) e_int))) (fun z => Ev.cast (e_var 3 rfl) (by rw [if_pos (of_decide_eq_true z)])) fun z => ?_)) (by unfold tD; rw [List.map_map]; rfl)) rfl)
  have z : ¬ j = -1 := of_decide_eq_false z
  have h1 := (hmv j hj).resolve_left z
  refine Ev.cast (e_ix (d := .int (state.getD j.toNat 0)) (e_var 1 rfl) (e_var 4 rfl) (at_pos (k := j.toNat) ?_ (by omega))) (by rw [if_neg z])
  rw [List.getElem?_map, List.getD_eq_getElem?_getD, List.getElem?_eq_getElem h1.2]; rfl
theorem law_lets_of_ok (T : Tp K mg) : FnI P w K mg bs 1 "_law_lets_of" ["_law_ground", "_law_lets_so"] (spD 2 fun ds d => ∃ r : List Sq, ds = [roomD r, .stp []] ∧ d = .lst (r.map fun _ => tD five)) := by
  have sc : FnScope ["_law_ground", "_law_lets_so", "_law_told_so", "_law_own"] ["_law_ground", "_law_lets_so"] (defScope (topS 78)) := ⟨rfl, rfl, rfl, by decide +kernel, rfl, by decide +kernel, by decide +kernel⟩
  refine fn_pure T.law_lets_of sc (fun _ _ _ _ _ _ us hl => match us, hl with | [_, _], _ => rfl) ?_
  rintro f cdv A outer s H E hr ds d hl ⟨r, rfl, rfl⟩
  refine x_cons (s_asg (d := lotsD []) 2 sc.nd (e_dictS rfl (rm64 hr) T.dict (e_var 1 rfl) (lots_ps (ls := [])) (lots_nd (ls := []) List.Pairwise.nil)) ?_)
  exact x_one (s_ret (e_lc0 (k := .st) (own := [("_law_own", 3)]) (l := r) (f := sqD) (g := fun _ => tD five) (.one 3) rfl sc.nd (i_tup (e_var 0 rfl)) (blkOk_by (by kernel_rfl)) (fun _ _ _ _ _ => t_one 3 sc.nd) fun p _ _ _ _ _ _ => Ev.cast (e_getT (kvs := []) (d := .tup [.int 0, .int 1, .int 2, .int 3, .int 4]) (kk := sqK p) (rm1 hr) (e_var 2 rfl) (e_var 3 rfl) (e_tup (a_cons e_int (a_cons e_int (a_cons e_int (a_cons e_int (a_cons e_int a_nil))))))) rfl) rfl)
def boxS (h wd : Nat) : List Sq := (List.range wd).flatMap fun x => (List.range h).map fun y => (((x : Nat) : Int), ((y : Nat) : Int))
theorem boxS_le (h : Nat) : ∀ l : List Nat, (l.flatMap fun x => (List.range h).map fun y => (((x : Nat) : Int), ((y : Nat) : Int))).length = l.length * h
  | [] => by simp
  | x :: l => by rw [List.flatMap_cons, List.length_append, boxS_le h l, List.length_map, List.length_range, List.length_cons, Nat.succ_mul, Nat.add_comm]
theorem law_boxed_ok (T : Tp K mg) : FnI P w K mg bs 1 "_law_boxed" ["_law_high_so", "_law_wide_so"] (spD 2 fun ds d => ∃ h wd : Nat, h ≤ 100 ∧ wd ≤ 100 ∧ ds = [.int (h : Nat), .int (wd : Nat)] ∧ d = roomD (boxS h wd)) := by
  have sc : FnScope ["_law_high_so", "_law_wide_so", "_law_found", "_law_x", "_law_y"] ["_law_high_so", "_law_wide_so"] (defScope (topS 80)) := ⟨rfl, rfl, rfl, by decide +kernel, rfl, by decide +kernel, by decide +kernel⟩
  refine fn_pure T.law_boxed sc (fun _ _ _ _ _ _ us hl => match us, hl with | [_, _], _ => rfl) ?_
  rintro f cdv A outer s H E hr ds d hl ⟨h, wd, hh, hw, rfl, rfl⟩
  refine x_cons (s_asg (d := .lst []) 2 sc.nd (e_lst a_nil) ?_)
  refine x_cons (s_for (l := List.range wd) (f := fun i : Nat => .int (i : Nat)) (.one 3) (fun done ρ' => ∃ a b, ρ' = [.dat (.int (h : Nat)), .dat (.int (wd : Nat)), .dat (.lst ((done.flatMap fun x => (List.range h).map fun y => (((x : Nat) : Int), ((y : Nat) : Int))).map sqD)), a, b]) rfl (i_rangeN T.range (e_var 1 rfl) rfl (by omega)) (t_one 3 sc.nd) (fun _ _ => trivial) ⟨_, _, rfl⟩ ?_ ?_)
  · rintro done x post hsp ρ' ⟨a, b, rfl⟩
    refine x_one (s_asg (k := .fr) (d := .lst (((done ++ [x]).flatMap fun x => (List.range h).map fun y => (((x : Nat) : Int), ((y : Nat) : Int))).map sqD)) 2 sc.nd (Ev.cast (e_cat (k1 := .st) (k2 := .fr) (e_var 2 rfl) (e_lc0 (k := .st) (own := [("_law_y", 4)]) (l := List.range h) (f := fun i : Nat => .int (i : Nat)) (g := fun y : Nat => sqD (((x : Nat) : Int), ((y : Nat) : Int))) (.one 4) rfl sc.nd (i_rangeN T.range (e_var 0 rfl) rfl (by omega)) (blkOk_by (by kernel_rfl)) (fun _ _ _ _ _ => t_one 4 sc.nd) fun y _ _ _ _ _ _ => (e_tup (a_cons (e_var 3 rfl) (a_cons (e_var 4 rfl) a_nil)))) ?_) ?_) ⟨_, _, rfl⟩)
    · rw [List.length_map, List.length_map, List.length_range, boxS_le]
      have hd : done.length ≤ 100 := by
        have := congrArg List.length hsp
        rw [List.length_range, List.length_append] at this
        omega
      have := Nat.mul_le_mul hd hh
      unfold sizeLine
      have h24 : (2 : Nat) ^ 24 = 16777216 := by decide
      omega
    · rw [List.flatMap_append, List.flatMap_cons, List.flatMap_nil, List.append_nil, List.map_append, List.map_map]; rfl
  · rintro ρ' ⟨a, b, rfl⟩
    exact x_one (s_ret (e_tupleOf T.tuple (e_var 2 rfl)) rfl)
end
end TR
/-! ## E9 -/
set_option Elab.async false
set_option linter.all false
set_option maxRecDepth 100000
set_option maxHeartbeats 2000000
namespace TR
open PySem L2
theorem known_num (r : List Sq) (q : Sq) : getT (((List.range r.length).zip r).map fun q => (sqK q.2, D.int (q.1 : Nat))) (sqK q) = (numO r q).map fun i => D.int (i : Nat) := by
  rw [getT_some (kf := fun q : Nat × Sq => sqK q.2) (vf := fun q : Nat × Sq => D.int (q.1 : Nat))]
  have e : (fun a : Nat × Sq => decide (sqK a.2 = sqK q)) = fun a => decide (a.2 = q) := funext fun a => by
    by_cases h : a.2 = q
    · rw [h]; simp
    · rw [decide_eq_false h, decide_eq_false fun z => h (sqK_inj z)]
  rw [e]
  have := num_find q r 0
  rw [← List.range_eq_range'] at this
  have h2 : (numO r q) = (((List.range r.length).zip r).find? fun a => decide (a.2 = q)).map (·.1) := by
    rw [this]; unfold numO; simp
  rw [h2, Option.map_map]; rfl
theorem num_is (r : List Sq) (q : Sq) : (numO r q).isSome = decide (q ∈ r) := by unfold numO; split <;> simp_all
theorem getI_put (kvs : List (Int × D)) (i : Int) (d : D) (j : Int) : getI (putI kvs i d) j = if j = i then some d else getI kvs j := by
  unfold putI
  split
  · rename_i h
    induction kvs with
    | nil => cases h
    | cons a kvs ih =>
      unfold getI at ih ⊢
      rw [List.map_cons, List.find?_cons, List.find?_cons]
      by_cases ha : a.1 = i
      · rw [if_pos ha]
        by_cases hj : j = i
        · rw [if_pos hj]; simp [ha, hj]
        · rw [if_neg hj]
          have n1 : ¬ i = j := fun z => hj z.symm
          simp only [ha, n1, decide_false]
          clear ih h
          congr 1
          induction kvs with
          | nil => rfl
          | cons b kvs ih =>
            rw [List.map_cons, List.find?_cons, List.find?_cons]
            by_cases hb : b.1 = i
            · rw [if_pos hb]; simp only [hb, n1, decide_false]; exact ih
            · rw [if_neg hb]; rw [ih]
      · rw [if_neg ha]
        have h2 : (kvs.any fun p => decide (p.1 = i)) = true := by
          rw [List.any_cons, decide_eq_false ha, Bool.false_or] at h; exact h
        have := ih h2
        by_cases hj : j = i
        · rw [if_pos hj] at this ⊢
          have n2 : ¬ a.1 = j := fun z => ha (by rw [z, hj])
          simp only [n2, decide_false]; exact this
        · rw [if_neg hj] at this ⊢
          cases decide (a.1 = j)
          · exact this
          · rfl
  · rename_i h
    have hn : ∀ p ∈ kvs, p.1 ≠ i := fun p hp e => h (List.any_eq_true.mpr ⟨p, hp, decide_eq_true e⟩)
    unfold getI
    rw [List.find?_append]
    by_cases hj : j = i
    · rw [if_pos hj]
      have : (kvs.find? fun p => decide (p.1 = j)) = none := by
        rw [List.find?_eq_none]
        intro p hp z
        exact hn p hp (by rw [of_decide_eq_true z, hj])
      rw [this]; simp [hj]
    · rw [if_neg hj]
      have n1 : ¬ i = j := fun z => hj z.symm
      cases (kvs.find? fun p => decide (p.1 = j)) with
      | none => simp [n1]
      | some x => rfl
theorem putI_len (kvs : List (Int × D)) (i : Int) (d : D) : (putI kvs i d).length ≤ kvs.length + 1 := by
  unfold putI; split <;> simp
theorem enum_split {α : Type} {l : List α} {done post : List (Nat × α)} {k : Nat} {a : α} (h : (List.range l.length).zip l = done ++ (k, a) :: post) : k = done.length ∧ ∃ e, l = done.map (·.2) ++ a :: e := by
  have h1 : ((List.range l.length).zip l)[done.length]? = some (k, a) := by rw [h, List.getElem?_append_right (Nat.le_refl _), Nat.sub_self]; rfl
  rw [List.getElem?_zip_eq_some] at h1
  have hl := (List.getElem?_eq_some_iff.mp h1.2).1
  have h2 := h1.1
  rw [List.getElem?_range hl] at h2
  have hk : done.length = k := Option.some.inj h2
  refine ⟨hk.symm, post.map (·.2), ?_⟩
  have h3 : ((List.range l.length).zip l).map (·.2) = l := List.map_snd_zip (by rw [List.length_range]; exact Nat.le_refl _)
  conv => lhs; rw [← h3, h, List.map_append, List.map_cons]
def needD (row : List (Option Nat)) : D := .lst (row.map noD)
def planD (r : List Sq) (q : Nat × Sq) : D := stepD (placesN r q.1 q.2) (decide (led q.2 1 ∈ r)) (decide (led q.2 2 ∈ r)) (movedN r q.1)
def natsD (l : List Nat) : D := .lst (l.map fun i => .int (i : Nat))
theorem natsI (l : List Nat) : (l.map fun i => D.int (i : Nat)) = (l.map fun i : Nat => (i : Int)).map .int := by rw [List.map_map]; rfl
section
variable {P : Program} {w : World} {K : PySem.W.Frag} {mg : Str → Option Value} {bs : Heap}
theorem law_plan_ok (T : Tp K mg) : FnI P w K mg bs 2 "_law_plan" ["_law_ground"] (spD 1 fun ds d => ∃ r : List Sq, SR r ∧ r.length ≤ 100 ∧ ds = [roomD r] ∧ d = .lst (((List.range r.length).zip r).map (planD r))) := by
  have sc : FnScope ["_law_ground", "_law_number_so", "_law_k", "_law_own", "_law_needs_so", "_law_x", "_law_y", "_law_near_so", "_law_last_so", "_law_row_so", "_law_found", "_law_kept_so", "_law_spot", "_law_places_so", "_law_later_so", "_law_moved_so"] ["_law_ground"] (defScope (topS 75)) := ⟨rfl, rfl, rfl, by decide +kernel, rfl, by decide +kernel, by decide +kernel⟩
  refine fn_pure T.law_plan sc (fun _ _ _ _ _ _ us hl => match us, hl with | [_], _ => rfl) ?_
  rintro f cdv A outer s H E hr ds d hl ⟨r, sr, r100, rfl, rfl⟩
  have h24 : (2 : Nat) ^ 24 = 16777216 := by decide
  have ndk : (((((List.range r.length).zip r).map fun q => (sqK q.2, D.int (q.1 : Nat)))).map (·.1)).Nodup := by
    have e : ((((List.range r.length).zip r).map fun q => (sqK q.2, D.int (q.1 : Nat)))).map (·.1) = r.map sqK := by
      conv => rhs; rw [← zip_snd r, List.map_map]
      rw [List.map_map]; rfl
    rw [e]; exact sq_nd sr.nd
  refine x_cons (s_asg (k := .fr) (d := knownD r) 1 sc.nd (e_dictS (cs := ((List.range r.length).zip r).map fun q => (sqK q.2, D.int (q.1 : Nat))) rfl (rm64 hr) T.dict (Ev.cast (e_lc0 (k := .st) (own := [("_law_k", 2), ("_law_own", 3)]) (l := (List.range r.length).zip r) (f := fun q => .tup [.int (q.1 : Nat), sqD q.2]) (g := fun q => prD (sqK q.2, .int (q.1 : Nat))) (.tup [2, 3]) rfl sc.nd (EvI.cast (i_enumT T.enumerate (e_var 0 rfl)) (enum_map sqD r)) (blkOk_by (by kernel_rfl)) (fun _ _ _ _ _ => t_two 2 3 rfl sc.nd) (fun q _ _ _ _ _ _ => (e_tup (a_cons (e_var 3 rfl) (a_cons (e_var 2 rfl) a_nil)))) (fun _ _ => rfl)) (show D.lst _ = .lst ((((List.range r.length).zip r).map fun q => (sqK q.2, D.int (q.1 : Nat))).map prD) by rw [List.map_map]; rfl)) (.lst _) ndk) ?_)
  refine x_cons (s_own (d := .lst []) 4 sc.nd (e_lst a_nil) fun c4 => ?_)
  refine x_cons (s_for (l := r) (f := sqD) (.tup [5, 6]) (fun done ρ' => ∃ a b e g h, ρ' = [.dat (roomD r), .dat (knownD r), .any, .any, .own false c4 (.lst ((done.map (needs r)).map needD)), a, b, e, .any, .any, .any, .any, .any, .any, g, h]) rfl (i_tup (e_var 0 rfl)) (t_two 5 6 rfl sc.nd) (fun _ _ => rfl) ⟨_, _, _, _, _, rfl⟩ ?_ ?_)
  · rintro done p post hsp ρ' ⟨a, b, e, g, h, rfl⟩
    refine x_cons (s_asg (k := .fr) (d := .lst ((nearSq p).map sqD)) 7 sc.nd (e_lst (a_cons (e_tup (a_cons (e_sub (e_var 5 rfl) e_int) (a_cons (e_var 6 rfl) a_nil))) (a_cons (e_tup (a_cons (e_var 5 rfl) (a_cons (e_sub (e_var 6 rfl) e_int) a_nil))) (a_cons (e_tup (a_cons (e_sub (e_var 5 rfl) e_int) (a_cons (e_sub (e_var 6 rfl) e_int) a_nil))) (a_cons (e_tup (a_cons (e_sub (e_var 5 rfl) e_int) (a_cons (e_add (e_var 6 rfl) e_int) a_nil))) a_nil))))) ?_)
    refine x_one (s_append (k := .fr) (d := needD (needs r p)) 4 rfl (Ev.cast (e_lc0 (k := .st) (own := [("_law_own", 3)]) (l := nearSq p) (f := sqD) (g := fun q => noD (numO r q)) (.one 3) rfl sc.nd (i_list (e_var 7 rfl)) (blkOk_by (by kernel_rfl)) (fun _ _ _ _ _ => t_one 3 sc.nd) fun q hq _ _ _ _ _ => e_if (p := (numO r q).isSome) (EvB.cast (b_c (c_inD (rm1 hr) (e_var 3 rfl) (e_var 1 rfl))) (by rw [known_num, Option.isSome_map])) (fun z => ?_) fun z => ?_) (by unfold needD needs; rw [List.map_map]; rfl)) ?_ ?_)
    · obtain ⟨i, hi⟩ := Option.isSome_iff_exists.mp z
      rw [hi]
      exact e_dget (rm1 hr) (e_var 1 rfl) (e_var 3 rfl) (by rw [known_num, hi]; rfl)
    · have : numO r q = none := by simpa using z
      rw [this]
      exact e_non
    · rw [List.map_append, List.map_append]; exact ⟨_, _, _, _, _, rfl⟩
    · rw [List.length_map, List.length_map]
      have := congrArg List.length hsp
      rw [List.length_append] at this
      unfold sizeLine; omega
  · rintro ρ' ⟨a, b, e, g, h, rfl⟩
    refine x_freeze 4 rfl ?_
    refine x_cons (s_own (d := .dI []) 8 sc.nd e_dnewI fun c8 => ?_)
    refine x_cons (s_for (l := (List.range (allNeeds r).length).zip (allNeeds r)) (f := fun q => .tup [.int (q.1 : Nat), needD q.2]) (.tup [2, 9]) (fun done ρ' => ∃ kvs : List (Int × D), (∀ i : Nat, (getI kvs (i : Int)).getD (.int (-1)) = .int (lastN (done.map (·.2)) i)) ∧ kvs.length ≤ 4 * done.length ∧ ∃ u2 u3 u5 u6 u7 u9, ρ' = [.dat (roomD r), .dat (knownD r), u2, u3, .dat (.lst ((allNeeds r).map needD)), u5, u6, u7, .own false c8 (.dI kvs), u9, .any, .any, .any, .any, g, h]) rfl (EvI.cast (i_enumL T.enumerate (e_var 4 rfl)) (enum_map needD (allNeeds r))) (t_two 2 9 rfl sc.nd) (fun _ _ => rfl) ⟨[], fun _ => rfl, Nat.zero_le _, _, _, _, _, _, _, rfl⟩ ?_ ?_)
    · rintro done ⟨k, row⟩ post hsp ρ' ⟨kvs, hget, hlen, u2, u3, u5, u6, u7, u9, rfl⟩
      obtain ⟨hk, ee, hall⟩ := enum_split hsp
      have hdl : done.length < r.length := by
        have := congrArg List.length hall
        unfold allNeeds at this
        rw [List.length_map, List.length_append, List.length_map, List.length_cons] at this
        omega
      have hr4 : row.length = 4 := by
        have : row ∈ allNeeds r := by rw [hall]; simp
        obtain ⟨p, _, rfl⟩ := List.mem_map.mp this
        rfl
      refine x_one (s_for (l := row) (f := noD) (.one 3) (fun dn ρ' => ∃ kvs : List (Int × D), (∀ i : Nat, (getI kvs (i : Int)).getD (.int (-1)) = .int (if some i ∈ dn then (done.length : Int) else lastN (done.map (·.2)) i)) ∧ kvs.length ≤ 4 * done.length + dn.length ∧ ∃ u3, ρ' = [.dat (roomD r), .dat (knownD r), .dat (.int (k : Nat)), u3, .dat (.lst ((allNeeds r).map needD)), u5, u6, u7, .own false c8 (.dI kvs), .dat (needD row), .any, .any, .any, .any, g, h]) rfl (i_list (Ev.cast (e_var 9 rfl) rfl)) (t_one 3 sc.nd) (fun _ _ => trivial) ⟨kvs, fun i => by rw [if_neg (by simp)]; exact hget i, by simpa using hlen, _, rfl⟩ ?_ ?_)
      · rintro dn o pk hs2 ρ' ⟨kv, hg, hlen2, u3', rfl⟩
        have hdn : dn.length ≤ 4 := by rw [← hr4, hs2]; simp
        refine x_one (s_if (p := !isNon (noD o)) (b_c (c_notN (e_var 3 rfl))) (fun z => ?_) fun z => ?_)
        · cases o with
          | none => cases z
          | some i =>
            refine x_one (s_dputI (kk := (i : Nat)) (d := .int (k : Nat)) 8 (rm1 hr) rfl (e_var 2 rfl) (Ev.cast (e_var 3 rfl) rfl) ⟨_, fun j => ?_, ?_, _, rfl⟩ ?_)
            · rw [getI_put]
              by_cases hj : (j : Int) = (i : Int)
              · have hj' : j = i := by omega
                rw [if_pos hj, hj', if_pos (by simp), hk]; rfl
              · have hj' : ¬ j = i := by omega
                rw [if_neg hj, hg j]
                congr 1
                by_cases c : some j ∈ dn
                · rw [if_pos c, if_pos (List.mem_append_left _ c)]
                · rw [if_neg c, if_neg fun z => (List.mem_append.mp z).elim c fun z => hj' (by simpa using z)]
            · have := putI_len kv (i : Nat) (.int (k : Nat))
              rw [List.length_append, List.length_singleton]; omega
            · unfold sizeLine; omega
        · cases o with
          | none =>
            refine x_nil ⟨kv, fun j => ?_, by rw [List.length_append]; omega, _, rfl⟩
            rw [hg j]
            congr 1
            by_cases c : some j ∈ dn
            · rw [if_pos c, if_pos (List.mem_append_left _ c)]
            · rw [if_neg c, if_neg fun z => (List.mem_append.mp z).elim c fun z => by simp at z]
          | some i => cases z
      · rintro ρ' ⟨kv, hg, hlen2, u3', rfl⟩
        refine ⟨kv, fun i => ?_, by rw [List.length_append, List.length_singleton]; omega, _, _, _, _, _, _, rfl⟩
        rw [hg i, List.map_append, List.map_singleton, lastN_snoc, List.length_map]
    · rintro ρ' ⟨kvs, hget, hlen, u2, u3, u5, u6, u7, u9, rfl⟩
      have hsnd : ((List.range (allNeeds r).length).zip (allNeeds r)).map (·.2) = allNeeds r := List.map_snd_zip (by rw [List.length_range]; exact Nat.le_refl _)
      rw [hsnd] at hget
      refine x_freeze 8 rfl ?_
      refine x_cons (s_disp (l := [(10, .fr, .lst []), (11, .fr, .lst [])]) (dp 10 (e_lst a_nil) (dp 11 (e_lst a_nil) dp_nil)) (t_two 10 11 rfl sc.nd) ?_)
      rintro _ ⟨c10, c11, rfl⟩
      refine x_freeze 11 rfl ?_
      refine x_cons (s_for (l := (List.range r.length).zip r) (f := fun q => .tup [.int (q.1 : Nat), sqD q.2]) (.tup [2, 12]) (fun done ρ' => ∃ u2 u3 u12 u13 u14 u15, ρ' = [.dat (roomD r), .dat (knownD r), u2, u3, .dat (.lst ((allNeeds r).map needD)), u5, u6, u7, .dat (.dI kvs), u9, .own false c10 (.lst (done.map (planD r))), .dat (natsD (keptN r done.length)), u12, u13, u14, u15]) rfl (EvI.cast (i_enumT T.enumerate (e_var 0 rfl)) (enum_map sqD r)) (t_two 2 12 rfl sc.nd) (fun _ _ => rfl) ⟨_, _, _, _, _, _, rfl⟩ ?_ ?_)
      · rintro done ⟨k, p⟩ post hsp ρ' ⟨v2, v3, v12, v13, v14, v15, rfl⟩
        obtain ⟨hk, ee, hall⟩ := enum_split hsp
        have hdl : (done.map (·.2)).length = k := by rw [List.length_map, hk]
        have hkr : k < r.length := by
          have := congrArg List.length hall
          rw [List.length_append, List.length_cons, hdl] at this
          omega
        have hneed : (allNeeds r)[k]? = some (needs r p) := by
          unfold allNeeds
          rw [List.getElem?_map, hall, List.getElem?_append_right (by omega), hdl, Nat.sub_self]; rfl
        have hkept : ∀ i, some i ∈ needs r p → i ∈ keptN r k := fun i hi => by rw [← hdl]; exact need_kept sr hall hi
        rw [← hk]
        refine s_lc0 (k := .st) (own := [("_law_own", 3)]) (l := needs r p) (f := noD) (g := fun o => noD (o.map fun i => (keptN r k).idxOf i)) 13 (.one 3) rfl sc.nd (i_list (e_ix (d := needD (needs r p)) (e_var 4 rfl) (e_var 2 rfl) (at_pos (k := k) (by rw [List.getElem?_map, hneed]; rfl) rfl))) (blkOk_by (by kernel_rfl)) (fun _ _ _ _ _ => t_one 3 sc.nd) (fun o ho _ _ _ _ _ => e_if (EvB.cast (b_c (c_isN (e_var 3 rfl))) (noD_is o)) (fun z => ?_) fun z => ?_) ?_
        · cases o with
          | none => exact e_non
          | some i => cases z
        · cases o with
          | none => cases z
          | some i =>
            refine Ev.cast (e_index (j := (keptN r k).idxOf i) (m := (i : Nat)) (Ev.cast (e_var 11 rfl) (congrArg D.lst (natsI _))) (Ev.cast (e_var 3 rfl) rfl) ?_ ?_) rfl
            · rw [List.getElem?_map, idx_get (hkept i ho)]; rfl
            · intro n hn z
              rw [List.getElem?_map] at z
              obtain ⟨i', h1, h2⟩ := Option.map_eq_some_iff.mp z
              have : i' = i := by omega
              rw [this] at h1
              exact idx_first (kept_nd r k) (hkept i ho) n hn h1
        refine s_lcF (k := .st) (own := [("_law_own", 3)]) (l := keptN r k ++ [k]) (f := fun i : Nat => .int (i : Nat)) (p := fun i => decide ((k : Int) < lastN (allNeeds r) i)) (g := fun i : Nat => .int (i : Nat)) 14 (.one 3) rfl sc.nd (i_list (k := .fr) (Ev.cast (e_cat (k1 := .st) (k2 := .fr) (Ev.cast (e_var 11 rfl) rfl) (e_lst (a_cons (e_var 2 rfl) a_nil)) ?_) (show D.lst _ = .lst ((keptN r k ++ [k]).map fun i => D.int (i : Nat)) by rw [List.map_append]; rfl))) (blkOk_by (by kernel_rfl)) (fun _ _ _ _ _ => t_one 3 sc.nd) (fun i _ _ _ _ _ _ => ts_one (b_c (c_gt (Ev.cast (e_getI (kk := (i : Nat)) (d := .int (-1)) (rm1 hr) (e_var 8 rfl) (e_var 3 rfl) (e_neg (i := 1) e_int)) (hget i)) (e_var 2 rfl)))) (fun i _ _ _ _ _ _ _ => (e_var 3 rfl)) ?_
        · rw [List.length_map]
          have := List.length_filter_le (fun i => decide ((k : Int) ≤ lastN (allNeeds r) i)) (List.range k)
          rw [List.length_range] at this
          have : (keptN r k).length ≤ k := this
          show _ + 1 ≤ _
          unfold sizeLine; omega
        rw [keptN_succ]
        refine s_lc0 (k := .st) (own := [("_law_own", 3)]) (l := keptN r (k + 1)) (f := fun i : Nat => .int (i : Nat)) (g := fun i => .int (if i = k then -1 else ((keptN r k).idxOf i : Int))) 15 (.one 3) rfl sc.nd (i_list (e_var 14 rfl)) (blkOk_by (by kernel_rfl)) (fun _ _ _ _ _ => t_one 3 sc.nd) (fun i hi _ _ _ _ _ => e_if (p := decide (i = k)) (EvB.cast (b_c (c_eqI (i := (i : Nat)) (j := (k : Nat)) (e_var 3 rfl) (e_var 2 rfl))) (by rw [decide_eq_decide]; omega)) (fun z => Ev.cast (e_neg (i := 1) e_int) (by rw [if_pos (of_decide_eq_true z)])) fun z => ?_) ?_
        · have z : ¬ i = k := of_decide_eq_false z
          have hm := kept_old hi z
          refine Ev.cast (e_index (j := (keptN r k).idxOf i) (m := (i : Nat)) (Ev.cast (e_var 11 rfl) (congrArg D.lst (natsI _))) (e_var 3 rfl) ?_ ?_) (by rw [if_neg z])
          · rw [List.getElem?_map, idx_get hm]; rfl
          · intro n hn z
            rw [List.getElem?_map] at z
            obtain ⟨i', h1, h2⟩ := Option.map_eq_some_iff.mp z
            have : i' = i := by omega
            rw [this] at h1
            exact idx_first (kept_nd r k) hm n hn h1
        have e13 : (needs r p).map (fun o => noD (o.map fun i => (keptN r k).idxOf i)) = (placesN r k p).map noD := by unfold placesN; rw [List.map_map]; rfl
        have e15 : (keptN r (k + 1)).map (fun i => D.int (if i = k then -1 else ((keptN r k).idxOf i : Int))) = (movedN r k).map .int := by unfold movedN; rw [List.map_map]; rfl
        rw [e13, e15]
        show Ex _ [.dat (roomD r), .dat (knownD r), .dat (.int (k : Nat)), v3, .dat (.lst ((allNeeds r).map needD)), u5, u6, u7, .dat (.dI kvs), u9, .own false c10 (.lst (done.map (planD r))), .dat (natsD (keptN r k)), .dat (sqD p), .dat (.lst ((placesN r k p).map noD)), .dat (natsD (keptN r (k + 1))), .dat (.lst ((movedN r k).map .int))] _ _ _
        refine x_cons (s_append (d := planD r (k, p)) 10 rfl (e_tup (a_cons (e_var 13 rfl) (a_cons (Ev.cast (e_c (c_inD (rm1 hr) (e_call (law_over_ok T) hr (a_cons (e_var 12 rfl) (a_cons e_int a_nil)) ⟨p, 1, by decide, rfl, rfl⟩) (e_var 1 rfl))) (by rw [known_in])) (a_cons (Ev.cast (e_c (c_inD (rm1 hr) (e_call (law_over_ok T) hr (a_cons (e_var 12 rfl) (a_cons e_int a_nil)) ⟨p, 2, by decide, rfl, rfl⟩) (e_var 1 rfl))) (by rw [known_in])) (a_cons (e_var 15 rfl) a_nil))))) ?_ ?_)
        · refine x_one (s_asg 11 sc.nd (e_var 14 rfl) ?_)
          rw [List.map_append, List.length_append, ← hk]
          exact ⟨_, _, _, _, _, _, rfl⟩
        · rw [List.length_map, ← hk]; unfold sizeLine; omega
      · rintro ρ' ⟨v2, v3, v12, v13, v14, v15, rfl⟩
        refine x_freeze 10 rfl ?_
        exact x_one (s_ret (e_var 10 rfl) rfl)
end
end TR
/-! ## E10 -/
set_option Elab.async false
set_option linter.all false
set_option maxRecDepth 100000
set_option maxHeartbeats 2000000
namespace TR
open PySem L2
def pairD (r : List Sq) (k : Nat) (laid : List Int) : D := .tup [tD laid, tD (stN r k laid)]
def growL (r : List Sq) (p : Sq) (l : List (List Int)) : List (List Int) := l.flatMap fun laid => (nextS r p laid).map fun k => laid ++ [k]
theorem growL_le (r : List Sq) (p : Sq) (l : List (List Int)) : (growL r p l).length ≤ l.length * 3 := flat_len (n := 3) (fun laid => by rw [List.length_map]; exact kindsN_le _ _ _ _ _ _) l
section
variable {P : Program} {w : World} {K : PySem.W.Frag} {mg : Str → Option Value} {bs : Heap}
theorem law_floors_ok (T : Tp K mg) : FnI P w K mg bs 3 "_law_floors" ["_law_ground", "_law_lets_so"] (spD 2 fun ds d => ∃ r : List Sq, SR r ∧ r ≠ [] ∧ r.length ≤ 9 ∧ ds = [roomD r, .stp []] ∧ d = rowsD (floorsM r)) := by
  have sc : FnScope ["_law_ground", "_law_lets_so", "_law_let_so", "_law_found", "_law_k", "_law_step_so", "_law_later_so", "_law_laid_so", "_law_state_so", "_law_kind_so", "_law_own"] ["_law_ground", "_law_lets_so"] (defScope (topS 79)) := ⟨rfl, rfl, rfl, by decide +kernel, rfl, by decide +kernel, by decide +kernel⟩
  refine fn_pure T.law_floors sc (fun _ _ _ _ _ _ us hl => match us, hl with | [_, _], _ => rfl) ?_
  rintro f cdv A outer s H E hr ds d hl ⟨r, sr, ne, r9, rfl, rfl⟩
  have h24 : (2 : Nat) ^ 24 = 16777216 := by decide
  obtain ⟨L, hL⟩ : ∃ L, L = (List.range r.length).zip r := ⟨_, rfl⟩
  have hLs : L.map (·.2) = r := by rw [hL]; exact zip_snd r
  have hLl : L.length = r.length := by rw [← List.length_map (f := (·.2)), hLs]
  refine x_cons (s_disp2 (i := 2) (j := 3) (l := [(2, .st, .lst (r.map fun _ => tD five)), (3, .fr, .lst [pairD r 0 []])]) rfl sc.nd (dp 2 (e_call (law_lets_of_ok T) hr (a_cons (e_var 0 rfl) (a_cons (e_var 1 rfl) a_nil)) ⟨r, rfl, rfl⟩) (dp 3 (e_lst (a_cons (e_tup (a_cons (e_tup a_nil) (a_cons (e_tup a_nil) a_nil))) a_nil)) dp_nil)) ?_)
  rintro _ ⟨c3, rfl⟩
  refine x_freeze 3 rfl ?_
  refine x_cons (s_for (l := (List.range L.length).zip L) (f := fun q => .tup [.int (q.1 : Nat), planD r q.2]) (.tup [4, 5]) (fun done ρ' => ∃ a b c e g h i, ρ' = [.dat (roomD r), .dat (.stp []), .dat (.lst (r.map fun _ => tD five)), .dat (.lst ((laids r (done.map fun q => q.2.2)).map (pairD r done.length))), a, b, c, e, g, h, i]) rfl (EvI.cast (i_enumL T.enumerate (e_call (law_plan_ok T) hr (a_cons (e_var 0 rfl) a_nil) ⟨r, sr, by omega, rfl, rfl⟩)) (by rw [← hL, enum_map])) (t_two 4 5 rfl sc.nd) (fun _ _ => rfl) ⟨_, _, _, _, _, _, _, rfl⟩ ?_ ?_)
  · rintro done ⟨k, k2, p⟩ post hsp ρ' ⟨a, b, c, e, g, h, i, rfl⟩
    obtain ⟨hk, ee, hall⟩ := enum_split hsp
    have hk2 : k2 = k := by
      have h1 : L[k]? = some (k2, p) := by rw [hall, List.getElem?_append_right (by rw [List.length_map]; omega), List.length_map, hk, Nat.sub_self]; rfl
      rw [hL, List.getElem?_zip_eq_some] at h1
      have hl2 := (List.getElem?_eq_some_iff.mp h1.2).1
      have h2 := h1.1
      rw [List.getElem?_range hl2] at h2
      exact (Option.some.inj h2).symm
    subst hk2
    have hsq : r = (done.map fun q => q.2.2) ++ p :: ee.map (·.2) := by
      rw [← hLs, hall, List.map_append, List.map_cons, List.map_map]; rfl
    have hdl : (done.map fun q => q.2.2).length = k2 := by rw [List.length_map, hk]
    have hkr : k2 < r.length := by
      have := congrArg List.length hsq
      rw [List.length_append, List.length_cons, hdl] at this
      omega
    rw [← hk]
    obtain ⟨sqs, hsqs⟩ : ∃ sqs, sqs = done.map fun q => q.2.2 := ⟨_, rfl⟩
    rw [← hsqs] at hsq hdl
    rw [← hsqs]
    have hlen := laids_len r sqs
    have hb : (laids r sqs).length ≤ 3 ^ 9 := Nat.le_trans (laids_le r sqs) (Nat.pow_le_pow_right (by decide) (by omega))
    have h39 : (3 : Nat) ^ 9 = 19683 := by decide
    refine x_cons (s_own (d := .lst []) 6 sc.nd (e_lst a_nil) fun c6 => ?_)
    refine x_cons (s_for (l := laids r sqs) (f := pairD r k2) (.tup [7, 8]) (fun dn ρ' => ∃ u7 u8 u9, ρ' = [.dat (roomD r), .dat (.stp []), .dat (.lst (r.map fun _ => tD five)), .dat (.lst ((laids r sqs).map (pairD r k2))), .dat (.int (k2 : Nat)), .dat (planD r (k2, p)), .own false c6 (.lst ((growL r p dn).map (pairD r (k2 + 1)))), u7, u8, u9, i]) rfl (i_list (e_var 3 rfl)) (t_two 7 8 rfl sc.nd) (fun _ _ => rfl) ⟨_, _, _, rfl⟩ ?_ ?_)
    · rintro dn laid pt hs2 ρ' ⟨u7, u8, u9, rfl⟩
      have hlm : laid ∈ laids r sqs := by rw [hs2]; simp
      have hll : laid.length = k2 := by rw [hlen laid hlm, hdl]
      have hdn : dn.length ≤ 19683 := by
        have : dn.length ≤ (laids r sqs).length := by rw [hs2]; simp
        omega
      have hgl := growL_le r p dn
      have hns := near_seen (laid := laid) sr hsq (by rw [hll, hdl])
      rw [hdl] at hns
      have hst : (stN r k2 laid).length = (keptN r k2).length := by unfold stN; rw [List.length_map]
      have hplc : ∀ j, some j ∈ placesN r k2 p → j < (stN r k2 laid).length := fun j hj => by
        obtain ⟨o, ho, e1⟩ := List.mem_map.mp hj
        cases o with
        | none => cases e1
        | some i' =>
          have e1 : (keptN r k2).idxOf i' = j := Option.some.inj e1
          rw [hst, ← e1]
          exact List.idxOf_lt_length_of_mem (by rw [← hdl]; exact need_kept sr hsq ho)
      have hmv : ∀ j ∈ movedN r k2, j = -1 ∨ (0 ≤ j ∧ j.toNat < (stN r k2 laid).length) := fun j hj => by
        obtain ⟨i', hi', e1⟩ := List.mem_map.mp hj
        by_cases cc : i' = k2
        · rw [if_pos cc] at e1; exact .inl e1.symm
        · rw [if_neg cc] at e1
          right
          rw [← e1, hst]
          exact ⟨by omega, by rw [Int.toNat_natCast]; exact List.idxOf_lt_length_of_mem (kept_old hi' cc)⟩
      have hS : growL r p [laid] = (nextS r p laid).map fun k => laid ++ [k] := by unfold growL; rw [List.flatMap_cons, List.flatMap_nil, List.append_nil]
      have hA : growL r p (dn ++ [laid]) = growL r p dn ++ (nextS r p laid).map fun k => laid ++ [k] := by rw [← hS]; exact List.flatMap_append
      have h3 : (nextS r p laid).length ≤ 3 := kindsN_le _ _ _ _ _ _
      refine x_one (s_for (l := nextS r p laid) (f := .int) (.one 9) (fun kd ρ' => ∃ u9, ρ' = [.dat (roomD r), .dat (.stp []), .dat (.lst (r.map fun _ => tD five)), .dat (.lst ((laids r sqs).map (pairD r k2))), .dat (.int (k2 : Nat)), .dat (planD r (k2, p)), .own false c6 (.lst ((growL r p dn ++ kd.map fun k => laid ++ [k]).map (pairD r (k2 + 1)))), .dat (tD laid), .dat (tD (stN r k2 laid)), u9, i]) rfl (i_list (e_call (law_kinds_next_ok T) hr (a_cons (e_var 5 rfl) (a_cons (e_var 8 rfl) (a_cons (e_ix (d := tD five) (l := r.map fun _ => tD five) (e_var 2 rfl) (e_var 4 rfl) (at_pos (k := k2) (by rw [List.getElem?_map, List.getElem?_eq_getElem hkr]; rfl) rfl) (.lst _)) a_nil))) ⟨placesN r k2 p, _, _, movedN r k2, stN r k2 laid, _, _, _, _, hns, hplc, rfl, rfl⟩)) (t_one 9 sc.nd) (fun _ _ => trivial) ⟨_, by rw [List.map_nil, List.append_nil]; rfl⟩ ?_ ?_)
      · rintro kd m pk hs3 ρ' ⟨u9', rfl⟩
        have hkd : kd.length ≤ 3 := by
          have : kd.length ≤ (nextS r p laid).length := by rw [hs3]; simp
          omega
        refine x_one (s_append (d := pairD r (k2 + 1) (laid ++ [m])) 6 rfl (Ev.cast (e_tup (a_cons (e_catT (e_var 7 rfl) (e_tup (a_cons (e_var 9 rfl) a_nil)) ?_) (a_cons (e_call (law_moved_on_ok T) hr (a_cons (e_var 5 rfl) (a_cons (e_var 8 rfl) (a_cons (e_var 9 rfl) a_nil))) ⟨placesN r k2 p, _, _, movedN r k2, stN r k2 laid, m, hmv, rfl, rfl⟩) a_nil))) (show D.tup [_, _] = pairD r (k2 + 1) (laid ++ [m]) by rw [st_next hll]; unfold pairD tD; rw [List.map_append]; rfl)) ?_ ?_)
        · rw [List.length_map, hll]
          show k2 + 1 ≤ _
          unfold sizeLine; omega
        · have hE : (growL r p dn ++ (kd ++ [m]).map fun k => laid ++ [k]).map (pairD r (k2 + 1)) = (growL r p dn ++ kd.map fun k => laid ++ [k]).map (pairD r (k2 + 1)) ++ [pairD r (k2 + 1) (laid ++ [m])] := by
            simp only [List.map_append, List.map_cons, List.map_nil, List.append_assoc]
          rw [hE]
          exact ⟨_, rfl⟩
        · rw [List.length_map, List.length_append, List.length_map]
          unfold sizeLine; omega
      · rintro ρ' ⟨u9', rfl⟩
        rw [hA]
        exact ⟨_, _, _, rfl⟩
    · rintro ρ' ⟨u7, u8, u9, rfl⟩
      refine x_freeze 6 rfl ?_
      refine x_one (s_asg 3 sc.nd (e_var 6 rfl) ?_)
      have hfin : laids r ((done ++ [(k2, k2, p)]).map fun q => q.2.2) = growL r p (laids r sqs) := by
        rw [List.map_append, List.map_singleton, ← hsqs, laids_snoc]; rfl
      rw [hfin, List.length_append, List.length_singleton, ← hk]
      exact ⟨_, _, _, _, _, _, _, rfl⟩
  · rintro ρ' ⟨a, b, c, e, g, h, i, rfl⟩
    have hfin : (((List.range L.length).zip L).map fun q => q.2.2) = r := by
      have e1 : (fun q : Nat × Nat × Sq => q.2.2) = (fun q : Nat × Sq => q.2) ∘ fun q : Nat × Nat × Sq => q.2 := rfl
      rw [e1, ← List.map_map, List.map_snd_zip (by rw [List.length_range]; exact Nat.le_refl _)]
      exact hLs
    rw [hfin]
    have hne : 2 ≤ (laids r r).length → ∀ row ∈ laids r r, row ≠ [] := fun _ row hrow e => by
      have := laids_len r r row hrow
      rw [e] at this
      exact ne (List.length_eq_zero_iff.mp this.symm)
    exact x_one (s_ret (e_sortL rfl (rm64 hr) T.sorted (e_lc0 (k := .st) (own := [("_law_own", 10)]) (l := laids r r) (f := pairD r ((List.range L.length).zip L).length) (g := tD) (.one 10) rfl sc.nd (i_list (e_var 3 rfl)) (blkOk_by (by kernel_rfl)) (fun _ _ _ _ _ => t_one 10 sc.nd) fun laid _ _ _ _ _ _ => (e_ix (d := tD laid) (l := [tD laid, tD (stN r ((List.range L.length).zip L).length laid)]) (e_var 10 rfl) e_int rfl (.tup _))) hne) rfl)
end
end TR
/-! ## E11 -/
set_option Elab.async false
set_option linter.all false
set_option maxRecDepth 100000
set_option maxHeartbeats 2000000
namespace TR
open PySem L2
/-! ### drawn lots -/
section
variable {α β : Type}
def stepP (st : List α × List α × T3) : List α × List α × T3 := (st.1 ++ (st.2.1[(tk st.2.2 (st.2.1.length : Nat)).1.toNat]?).toList, st.2.1.eraseIdx (tk st.2.2 (st.2.1.length : Nat)).1.toNat, (tk st.2.2 (st.2.1.length : Nat)).2)
def pickS (t : T3) (pool : List α) : Nat → List α × List α × T3
  | 0 => ([], pool, t)
  | n + 1 => stepP (pickS t pool n)
theorem erase_perm : ∀ (l : List α) (i : Nat) (h : i < l.length), (l[i] :: l.eraseIdx i).Perm l
  | a :: l, 0, _ => .refl _
  | a :: l, i + 1, h => (List.Perm.swap a _ _).trans ((erase_perm l i (Nat.lt_of_succ_lt_succ h)).cons a)
theorem erase_map (f : α → β) : ∀ (l : List α) (i : Nat), (l.map f).eraseIdx i = (l.eraseIdx i).map f
  | [], _ => rfl
  | a :: l, 0 => rfl
  | a :: l, i + 1 => congrArg _ (erase_map f l i)
theorem stepP_at {st : List α × List α × T3} (h : 0 < st.2.1.length) : ∃ x, st.2.1[(tk st.2.2 (st.2.1.length : Nat)).1.toNat]? = some x ∧ (stepP st).1 = st.1 ++ [x] ∧ (tk st.2.2 (st.2.1.length : Nat)).1.toNat < st.2.1.length := by
  have hlt := tk_lt (t := st.2.2) (n := ((st.2.1.length : Nat) : Int)) (by omega)
  have hj : (tk st.2.2 (st.2.1.length : Nat)).1.toNat < st.2.1.length := by omega
  refine ⟨_, List.getElem?_eq_getElem hj, ?_, hj⟩
  unfold stepP
  rw [List.getElem?_eq_getElem hj]; rfl
theorem pickS_len {t : T3} {pool : List α} : ∀ n, n ≤ pool.length → (pickS t pool n).1.length = n ∧ (pickS t pool n).2.1.length = pool.length - n
  | 0, _ => ⟨rfl, rfl⟩
  | n + 1, h => by
    obtain ⟨h1, h2⟩ := pickS_len (t := t) (pool := pool) n (by omega)
    obtain ⟨x, e1, e2, e3⟩ := stepP_at (st := pickS t pool n) (by rw [h2]; omega)
    show (stepP (pickS t pool n)).1.length = _ ∧ (stepP (pickS t pool n)).2.1.length = _
    refine ⟨by rw [e2, List.length_append, h1]; rfl, ?_⟩
    show ((pickS t pool n).2.1.eraseIdx _).length = _
    rw [List.length_eraseIdx_of_lt e3]; omega
theorem pickS_perm {t : T3} {pool : List α} : ∀ n, n ≤ pool.length → ((pickS t pool n).1 ++ (pickS t pool n).2.1).Perm pool
  | 0, _ => by show ([] ++ pool).Perm pool; exact .refl _
  | n + 1, h => by
    have h1 := pickS_len (t := t) (pool := pool) n (by omega)
    obtain ⟨x, e1, e2, e3⟩ := stepP_at (st := pickS t pool n) (by rw [h1.2]; omega)
    refine List.Perm.trans ?_ (pickS_perm (t := t) n (by omega))
    show ((stepP (pickS t pool n)).1 ++ (pickS t pool n).2.1.eraseIdx _).Perm _
    rw [e2, List.append_assoc]
    refine List.Perm.append_left _ ?_
    have hx : (pickS t pool n).2.1[(tk (pickS t pool n).2.2 ((pickS t pool n).2.1.length : Nat)).1.toNat] = x := by
      rw [List.getElem?_eq_getElem e3] at e1; exact Option.some.inj e1
    rw [← hx]
    exact erase_perm _ _ e3
theorem pickS_ok {t : T3} {pool : List α} {m : Nat} : ∀ n, okT (m + n) t → okT m (pickS t pool n).2.2
  | 0, h => h
  | n + 1, h => tk_ok (pickS_ok (m := m + 1) n (by rw [show m + 1 + n = m + (n + 1) by omega]; exact h))
theorem pickS_map (f : α → β) {t : T3} {pool : List α} : ∀ n, pickS t (pool.map f) n = ((pickS t pool n).1.map f, (pickS t pool n).2.1.map f, (pickS t pool n).2.2)
  | 0 => rfl
  | n + 1 => by
    show stepP (pickS t (pool.map f) n) = _
    rw [pickS_map f n]
    show ((pickS t pool n).1.map f ++ _, _, _) = ((stepP (pickS t pool n)).1.map f, (stepP (pickS t pool n)).2.1.map f, (stepP (pickS t pool n)).2.2)
    unfold stepP
    simp only [List.length_map, List.getElem?_map, List.map_append]
    refine Prod.ext ?_ (Prod.ext ?_ rfl)
    · show _ ++ _ = _ ++ _
      congr 1
      cases (pickS t pool n).2.1[(tk (pickS t pool n).2.2 ((pickS t pool n).2.1.length : Nat)).1.toNat]? <;> rfl
    · show List.eraseIdx (List.map f _) _ = List.map f (List.eraseIdx _ _)
      rw [erase_map]
end
section
variable {P : Program} {w : World} {K : PySem.W.Frag} {mg : Str → Option Value} {bs : Heap}
theorem law_pick_ok (T : Tp K mg) : FnI P w K mg bs 2 "_law_pick" ["_law_tin", "_law_goods_so", "_law_count_so"] (spM 3 fun tin ds d tin' => ∃ (t : T3) (pool : List D) (c : Nat), okT 100 t ∧ pool.length ≤ 90 ∧ c ≤ 90 ∧ tin = t3 t ∧ ds = [.lst pool, .int (c : Nat)] ∧ d = .lst (pickS t pool (min c pool.length)).1 ∧ tin' = t3 (pickS t pool (min c pool.length)).2.2) := by
  have sc : FnScope ["_law_tin", "_law_goods_so", "_law_count_so", "_law_pool_so", "_law_found", "_law_lap"] ["_law_tin", "_law_goods_so", "_law_count_so"] (defScope (topS 69)) := ⟨rfl, rfl, rfl, by decide +kernel, rfl, by decide +kernel, by decide +kernel⟩
  refine fn_mut T.law_pick sc (fun _ _ _ _ _ _ us hl => match us, hl with | [_, _, _], _ => rfl) ?_
  rintro f cdv A outer s H E hr b tin ds d tin' hl ⟨t, pool, c, ok, hp, hc, rfl, rfl, rfl, rfl⟩
  obtain ⟨n, hn⟩ : ∃ n, n = min c pool.length := ⟨_, rfl⟩
  rw [← hn]
  have hnp : n ≤ pool.length := by omega
  refine x_cons (s_disp2 (i := 3) (j := 4) (l := [(3, .fr, .lst pool), (4, .fr, .lst [])]) rfl sc.nd (dp 3 (e_listOf T.list (e_var 1 rfl)) (dp 4 (e_lst a_nil) dp_nil)) ?_)
  rintro _ ⟨c3, c4, rfl⟩
  refine x_cons (s_for (l := List.range n) (f := fun i : Nat => .int (i : Nat)) (.one 5) (fun done ρ' => ∃ u5, ρ' = [.own true b (.lst (t3 (pickS t pool done.length).2.2)), .dat (.lst pool), .dat (.int (c : Nat)), .own false c3 (.lst (pickS t pool done.length).2.1), .own false c4 (.lst (pickS t pool done.length).1), u5]) rfl (i_rangeN T.range (e_min2 rfl T.min (e_int1 T.int (e_var 2 rfl)) (e_len T.len (e_own 3 rfl) (.lst _))) (by rw [hn]; split <;> omega) (by omega)) (t_one 5 sc.nd) (fun _ _ => trivial) ⟨_, rfl⟩ ?_ ?_)
  · rintro done k post hsp ρ' ⟨u5, rfl⟩
    obtain ⟨rfl, hk⟩ := range_split hsp
    rw [List.length_range]
    obtain ⟨h1, h2⟩ := pickS_len (t := t) (pool := pool) k (by omega)
    have ok2 : okT (99 - k + 1) (pickS t pool k).2.2 := pickS_ok (m := 99 - k + 1) k (ok.mono (by omega))
    obtain ⟨x, e1, e2, e3⟩ := stepP_at (st := pickS t pool k) (by rw [h2]; omega)
    have hlt := tk_lt (t := (pickS t pool k).2.2) (n := (((pickS t pool k).2.1.length : Nat) : Int)) (by omega)
    refine x_one (s_appendM 4 rfl (m_popAt (i := (tk (pickS t pool k).2.2 ((pickS t pool k).2.1.length : Nat)).1) (j := (tk (pickS t pool k).2.2 ((pickS t pool k).2.1.length : Nat)).1.toNat) (d := x) 3 rfl (m_callM 0 (law_take_ok T) hr rfl (ma_cons (m_e (e_len T.len (e_own 3 rfl) (.lst _))) ma_nil) rfl ⟨(pickS t pool k).2.2, (((pickS t pool k).2.1.length : Nat) : Int), ok2.mono (by omega), by omega, by omega, rfl, rfl, rfl, rfl⟩) rfl ?_ e1 ⟨by omega, by omega⟩) rfl ?_ ?_)
    · unfold ixN
      rw [if_pos hlt.1, if_pos (by omega)]
    · rw [List.length_append, List.length_range, List.length_singleton]
      refine ⟨.dat (.int (k : Nat)), ?_⟩
      show _ = [Ent.own true b (.lst (t3 (stepP (pickS t pool k)).2.2)), _, _, Ent.own false c3 (.lst (stepP (pickS t pool k)).2.1), Ent.own false c4 (.lst (stepP (pickS t pool k)).1), _]
      rw [e2]
      rfl
    · rw [h1]
      unfold sizeLine
      have h24 : (2 : Nat) ^ 24 = 16777216 := by decide
      omega
  · rintro ρ' ⟨u5, rfl⟩
    rw [List.length_range]
    refine x_freeze 4 rfl ?_
    exact x_one (s_ret (e_var 4 rfl) ⟨rfl, rfl⟩)
end
end TR
/-! ## E12 -/
set_option Elab.async false
set_option linter.all false
set_option maxRecDepth 100000
set_option maxHeartbeats 2000000
namespace TR
open PySem L2
/-! ### squares in order -/
def unK (l : List Int) : Sq := (l.getD 0 0, l.getD 1 0)
theorem un_sq (p : Sq) : unK (sqK p) = p := rfl
def sSort (l : List Sq) : List Sq := (rSort (l.map sqK)).map unK
def sSet (l : List Sq) : List Sq := (setOf (l.map sqK)).map unK
theorem all_sq {m : List (List Int)} {l : List Sq} (h : ∀ z ∈ m, z ∈ l.map sqK) : (m.map unK).map sqK = m := by
  rw [List.map_map]
  conv => rhs; rw [← List.map_id m]
  refine List.map_congr_left fun z hz => ?_
  obtain ⟨p, _, rfl⟩ := List.mem_map.mp (h z hz)
  rfl
theorem sSort_K (l : List Sq) : (sSort l).map sqK = rSort (l.map sqK) := all_sq (l := l) fun z hz => (rSort_perm _).mem_iff.mp hz
theorem sSet_K (l : List Sq) : (sSet l).map sqK = setOf (l.map sqK) := all_sq (l := l) fun z hz => setOf_mem.mp hz
theorem sSort_perm (l : List Sq) : (sSort l).Perm l := by
  have := (rSort_perm (l.map sqK)).map unK
  rw [List.map_map, show (unK ∘ sqK) = id from funext fun p => rfl, List.map_id] at this
  exact this
theorem sSet_mem {l : List Sq} {p : Sq} : p ∈ sSet l ↔ p ∈ l := by
  unfold sSet
  rw [List.mem_map]
  constructor
  · rintro ⟨z, hz, rfl⟩
    obtain ⟨q, hq, rfl⟩ := List.mem_map.mp (setOf_mem.mp hz)
    exact hq
  · intro h; exact ⟨sqK p, setOf_mem.mpr (List.mem_map.mpr ⟨p, h, rfl⟩), rfl⟩
theorem lst_sSort (l : List Sq) : D.lst ((rSort (l.map sqK)).map tD) = .lst ((sSort l).map sqD) := by rw [← sSort_K, List.map_map]; rfl
theorem lst_sSet (l : List Sq) : D.lst ((setOf (l.map sqK)).map tD) = .lst ((sSet l).map sqD) := by rw [← sSet_K, List.map_map]; rfl
theorem sSort_SR {l : List Sq} (h : l.Nodup) : SR (sSort l) := by
  have h1 : ((sSort l).map sqK).Pairwise (· < ·) := by rw [sSort_K]; exact rSort_lt (sq_nd h)
  rw [List.pairwise_map] at h1
  refine h1.imp fun {a b} q => ?_
  have q : sqK a < sqK b := q
  rcases List.cons_lt_cons_iff.mp q with q | ⟨e, q⟩
  · exact .inl q
  · rcases List.cons_lt_cons_iff.mp q with q | ⟨_, q⟩
    · exact .inr ⟨e, q⟩
    · exact absurd q (List.lt_irrefl _)
/-! ### the drawn room -/
def baseM (t : T3) : List Sq × T3 :=
  let a := tk t 3
  let b := tk a.2 3
  let k := tk b.2 8
  let wd := tk k.2 3
  let hg := tk wd.2 2
  if k.1 = 0 then
    let w2 := tk hg.2 3
    (((boxS 1 (1 + w2.1).toNat).map fun p => (a.1 + p.1, b.1 + p.2)).take 9, w2.2)
  else (((boxS (2 + hg.1).toNat (2 + wd.1).toNat).map fun p => (a.1 + p.1, b.1 + p.2)).take 9, hg.2)
def nearM (found : List Sq) : List Sq := found.flatMap fun spot => (besideM spot).filter fun q => !decide (q ∈ found) && decide (0 ≤ min q.1 q.2)
def growM (st : List Sq × T3) : List Sq × T3 :=
  if st.1.length < 9 then (st.1 ++ ((sSet (nearM st.1))[(tk st.2 ((sSet (nearM st.1)).length : Nat)).1.toNat]?).toList, (tk st.2 ((sSet (nearM st.1)).length : Nat)).2) else st
def lapsM (st : List Sq × T3) : Nat → List Sq × T3
  | 0 => st
  | n + 1 => growM (lapsM st n)
def dropM (st : List Sq × T3) : List Sq × T3 :=
  let r := tk st.2 3
  if r.1 = 0 ∧ 4 < st.1.length then (st.1.erase ((sSort st.1)[(tk r.2 (st.1.length : Nat)).1.toNat]?.getD (0, 0)), (tk r.2 (st.1.length : Nat)).2) else (st.1, r.2)
def farM (st : List Sq × T3) : List Sq × T3 :=
  let r := tk st.2 8
  if r.1 = 0 ∧ st.1.length < 8 then (st.1 ++ [(hiX st.1 + 1 + (tk r.2 2).1, 7), (hiX st.1 + 1 + (tk r.2 2).1, 8)], (tk r.2 2).2) else (st.1, r.2)
def startM (t : T3) : List Sq × T3 := ((baseM t).1, (tk (baseM t).2 5).2)
def growsM (t : T3) : List Sq × T3 := lapsM (startM t) (tk (baseM t).2 5).1.toNat
def roomM (t : T3) : List Sq × T3 := (sSort (farM (dropM (growsM t))).1, (farM (dropM (growsM t))).2)
/-- what holds of the squares found -/
structure RI (n : Nat) (l : List Sq) : Prop where
  nd : l.Nodup
  ne : l ≠ []
  le : l.length ≤ 9
  at_ : ∀ p ∈ l, 0 ≤ p.1 ∧ p.1 ≤ 5 + (n : Int) ∧ 0 ≤ p.2
  c : ∀ x, (col l x).length ≤ 3 + n
theorem box_mem {h wd : Nat} {p : Sq} : p ∈ boxS h wd ↔ (0 ≤ p.1 ∧ p.1 < wd) ∧ (0 ≤ p.2 ∧ p.2 < h) := by
  unfold boxS
  rw [List.mem_flatMap]
  constructor
  · rintro ⟨x, hx, hp⟩
    obtain ⟨y, hy, rfl⟩ := List.mem_map.mp hp
    have := List.mem_range.mp hx
    have := List.mem_range.mp hy
    simp; omega
  · rintro ⟨⟨h1, h2⟩, h3, h4⟩
    refine ⟨p.1.toNat, List.mem_range.mpr (by omega), List.mem_map.mpr ⟨p.2.toNat, List.mem_range.mpr (by omega), ?_⟩⟩
    obtain ⟨a, b⟩ := p
    simp at *
    omega
theorem box_nd (h wd : Nat) : (boxS h wd).Nodup := by
  unfold boxS List.Nodup
  rw [List.pairwise_flatMap]
  refine ⟨fun x _ => List.pairwise_map.mpr (List.nodup_range.imp fun n e => n (by have := congrArg Prod.snd e; simp at this; omega)), List.nodup_range.imp fun {a b} n x hx y hy e => ?_⟩
  obtain ⟨u, _, rfl⟩ := List.mem_map.mp hx
  obtain ⟨v, _, rfl⟩ := List.mem_map.mp hy
  have := congrArg Prod.fst e
  simp at this
  exact n (by omega)
theorem base_ri {a b : Int} {h wd : Nat} (ha : 0 ≤ a ∧ a < 3) (hb : 0 ≤ b) (hh : 1 ≤ h ∧ h ≤ 3) (hw : 1 ≤ wd ∧ wd ≤ 4) : RI 0 (((boxS h wd).map fun p => (a + p.1, b + p.2)).take 9) := by
  have hm : ∀ p, p ∈ ((boxS h wd).map fun p => (a + p.1, b + p.2)).take 9 → ∃ q : Sq, ((0 ≤ q.1 ∧ q.1 < wd) ∧ (0 ≤ q.2 ∧ q.2 < h)) ∧ (a + q.1, b + q.2) = p := fun p hp => by
    obtain ⟨q, hq, e⟩ := List.mem_map.mp (List.mem_of_mem_take hp)
    exact ⟨q, box_mem.mp hq, e⟩
  have nd1 : ((boxS h wd).map fun p : Sq => ((a + p.1, b + p.2) : Sq)).Nodup := List.pairwise_map.mpr ((box_nd h wd).imp fun {p q} n e => n (by
    have e1 := congrArg Prod.fst e
    have e2 := congrArg Prod.snd e
    obtain ⟨p1, p2⟩ := p
    obtain ⟨q1, q2⟩ := q
    simp at *
    omega))
  have nd2 := nd1.sublist (List.take_sublist 9 _)
  refine ⟨nd2, fun z => ?_, by rw [List.length_take]; omega, fun p hp => ?_, fun x => ?_⟩
  · have h0 : ((a + 0, b + 0) : Sq) ∈ (boxS h wd).map fun p : Sq => ((a + p.1, b + p.2) : Sq) := List.mem_map.mpr ⟨(0, 0), box_mem.mpr (by simp; omega), rfl⟩
    have hl := List.length_pos_of_mem h0
    have := congrArg List.length z
    rw [List.length_take, List.length_nil] at this
    omega
  · obtain ⟨q, hq, rfl⟩ := hm p hp
    simp; omega
  · have n3 : ((col (((boxS h wd).map fun p => (a + p.1, b + p.2)).take 9) x).map (·.2)).Nodup := List.pairwise_map.mpr ((nd2.filter _).imp_of_mem fun {p q} hp hq n e => n (Prod.ext ((col_mem.mp hp).2.trans (col_mem.mp hq).2.symm) e))
    have := n3.length_le_of_subset (l₂ := (List.range h).map fun y : Nat => b + (y : Int)) fun z hz => by
      obtain ⟨p, hp, rfl⟩ := List.mem_map.mp hz
      obtain ⟨q, hq, rfl⟩ := hm p (col_mem.mp hp).1
      exact List.mem_map.mpr ⟨q.2.toNat, List.mem_range.mpr (by omega), by simp; omega⟩
    rw [List.length_map, List.length_map, List.length_range] at this
    omega
theorem tk_rng {t : T3} {n : Int} (h : 0 < n) : 0 ≤ (tk t n).1 ∧ (tk t n).1 < n := tk_lt h
theorem baseM_ok {t : T3} {m : Nat} (h : okT (m + 6) t) : RI 0 (baseM t).1 ∧ okT m (baseM t).2 := by
  have a1 := tk_rng (t := t) (n := 3) (by decide)
  have b1 := tk_rng (t := (tk t 3).2) (n := 3) (by decide)
  have w1 := tk_rng (t := (tk (tk (tk t 3).2 3).2 8).2) (n := 3) (by decide)
  have h1 := tk_rng (t := (tk (tk (tk (tk t 3).2 3).2 8).2 3).2) (n := 2) (by decide)
  have v1 := tk_rng (t := (tk (tk (tk (tk (tk t 3).2 3).2 8).2 3).2 2).2) (n := 3) (by decide)
  have o1 := tk_ok (n := 3) (m := m + 5) h
  have o2 := tk_ok (n := 3) (m := m + 4) o1
  have o3 := tk_ok (n := 8) (m := m + 3) o2
  have o4 := tk_ok (n := 3) (m := m + 2) o3
  have o5 := tk_ok (n := 2) (m := m + 1) o4
  have o6 := tk_ok (n := 3) (m := m) o5
  unfold baseM
  dsimp only
  split
  · exact ⟨base_ri ⟨a1.1, a1.2⟩ b1.1 ⟨by omega, by omega⟩ ⟨by omega, by omega⟩, o6⟩
  · exact ⟨base_ri ⟨a1.1, a1.2⟩ b1.1 ⟨by omega, by omega⟩ ⟨by omega, by omega⟩, o5.mono (by omega)⟩
theorem beside_mem {p q : Sq} (h : q ∈ besideM p) : p.1 - 1 ≤ q.1 ∧ q.1 ≤ p.1 + 1 := by
  simp only [besideM, List.map_cons, List.map_nil, List.mem_cons, List.not_mem_nil, or_false, led1, led2, led3, led4] at h
  rcases h with rfl | rfl | rfl | rfl <;> simp <;> omega
theorem near_mem {found : List Sq} {q : Sq} (h : q ∈ nearM found) : q ∉ found ∧ 0 ≤ q.1 ∧ 0 ≤ q.2 ∧ ∃ p ∈ found, q.1 ≤ p.1 + 1 := by
  obtain ⟨p, hp, hq⟩ := List.mem_flatMap.mp h
  obtain ⟨h1, h2⟩ := List.mem_filter.mp hq
  simp only [Bool.and_eq_true, Bool.not_eq_true', decide_eq_false_iff_not, decide_eq_true_eq] at h2
  exact ⟨h2.1, by omega, by omega, p, hp, (beside_mem h1).2⟩
theorem near_ne {n : Nat} {found : List Sq} (h : RI n found) : nearM found ≠ [] := fun z => by
  obtain ⟨p, hp, e⟩ := hiX_mem h.ne
  have hq : (p.1 + 1, p.2) ∈ nearM found := by
    refine List.mem_flatMap.mpr ⟨p, hp, List.mem_filter.mpr ⟨?_, ?_⟩⟩
    · unfold besideM
      rw [← led1]; simp
    · have h1 : (p.1 + 1, p.2) ∉ found := fun m => by
        have := hiX_ge m
        have : p.1 + 1 ≤ hiX found := this
        omega
      have := h.at_ p hp
      simp only [Bool.and_eq_true, Bool.not_eq_true', decide_eq_false_iff_not, decide_eq_true_eq]
      exact ⟨h1, by omega⟩
  rw [z] at hq; cases hq
theorem near_len (found : List Sq) : (nearM found).length ≤ found.length * 4 := flat_len (n := 4) (fun p => by
  refine Nat.le_trans (List.length_filter_le _ _) ?_
  show (([1, 2, 3, 4] : List Int).map (led p)).length ≤ 4
  simp) found
theorem sSet_len (l : List Sq) : (sSet l).length ≤ l.length := by
  unfold sSet
  rw [List.length_map]
  exact Nat.le_trans (setOf_le _) (by rw [List.length_map]; exact Nat.le_refl _)
theorem sSet_ne {l : List Sq} (h : l ≠ []) : 0 < (sSet l).length := by
  obtain ⟨p, hp⟩ := List.exists_mem_of_ne_nil _ h
  exact List.length_pos_of_mem (sSet_mem.mpr hp)
theorem tk_at {α : Type} {l : List α} {t : T3} (h : 0 < l.length) : ∃ x, l[(tk t (l.length : Nat)).1.toNat]? = some x ∧ x ∈ l := by
  have := tk_rng (t := t) (n := ((l.length : Nat) : Int)) (by omega)
  have hj : (tk t (l.length : Nat)).1.toNat < l.length := by omega
  exact ⟨_, List.getElem?_eq_getElem hj, List.getElem_mem hj⟩
theorem col_app (a b : List Sq) (x : Int) : col (a ++ b) x = col a x ++ col b x := List.filter_append ..
theorem growM_ok {n : Nat} {st : List Sq × T3} {m : Nat} (h : RI n st.1) (ht : okT (m + 1) st.2) : RI (n + 1) (growM st).1 ∧ okT m (growM st).2 := by
  unfold growM
  split
  · rename_i h9
    obtain ⟨x, hx, hxm⟩ := tk_at (l := sSet (nearM st.1)) (t := st.2) (sSet_ne (near_ne h))
    obtain ⟨n1, n2, n3, p, hp, n4⟩ := near_mem (sSet_mem.mp hxm)
    refine ⟨?_, tk_ok ht⟩
    show RI (n + 1) (st.1 ++ Option.toList _)
    rw [hx]
    show RI (n + 1) (st.1 ++ [x])
    refine ⟨List.nodup_append.mpr ⟨h.nd, List.pairwise_singleton _ _, fun a ha b hb e => n1 (by rw [← List.mem_singleton.mp hb, ← e]; exact ha)⟩, by simp, by rw [List.length_append, List.length_singleton]; omega, fun q hq => ?_, fun y => ?_⟩
    · rcases List.mem_append.mp hq with hq | hq
      · have := h.at_ q hq; omega
      · rw [List.mem_singleton.mp hq]
        have := h.at_ p hp
        omega
    · rw [col_app, List.length_append]
      have := h.c y
      have : (col [x] y).length ≤ 1 := Nat.le_trans (List.length_filter_le _ _) (by simp)
      omega
  · refine ⟨⟨h.nd, h.ne, h.le, fun q hq => ?_, fun y => ?_⟩, ht.mono (by omega)⟩
    · have := h.at_ q hq; omega
    · have := h.c y; omega
theorem lapsM_ok {st : List Sq × T3} {m : Nat} (h : RI 0 st.1) : ∀ n, okT (m + n) st.2 → RI n (lapsM st n).1 ∧ okT m (lapsM st n).2
  | 0, ht => ⟨h, ht⟩
  | n + 1, ht => by
    have ih := lapsM_ok (m := m + 1) h n (by rw [show m + 1 + n = m + (n + 1) by omega]; exact ht)
    exact growM_ok ih.1 ih.2
theorem dropM_ok {n : Nat} {st : List Sq × T3} {m : Nat} (h : RI n st.1) (ht : okT (m + 2) st.2) : RI n (dropM st).1 ∧ okT m (dropM st).2 := by
  have o1 := tk_ok (n := 3) (m := m + 1) ht
  unfold dropM
  dsimp only
  split
  · rename_i c
    suffices key : ∀ x : Sq, RI n (st.1.erase x) from ⟨key _, tk_ok o1⟩
    intro x
    have sub : (st.1.erase x).Sublist st.1 := List.erase_sublist
    have hl : st.1.length - 1 ≤ (st.1.erase x).length := by rw [List.length_erase]; split <;> omega
    refine ⟨h.nd.sublist sub, fun z => ?_, Nat.le_trans sub.length_le h.le, fun p hp => h.at_ p (sub.subset hp), fun y => Nat.le_trans (sub.filter _).length_le (h.c y)⟩
    rw [z] at hl
    simp at hl
    omega
  · exact ⟨h, o1.mono (by omega)⟩
/-- what holds of the room drawn -/
structure RF (l : List Sq) : Prop where
  nd : l.Nodup
  ne : l ≠ []
  le : l.length ≤ 9
  at_ : ∀ p ∈ l, 0 ≤ p.1 ∧ p.1 ≤ 100 ∧ 0 ≤ p.2
  c : ∀ x, (col l x).length ≤ 7
theorem farM_ok {n : Nat} (hn : n ≤ 4) {st : List Sq × T3} {m : Nat} (h : RI n st.1) (ht : okT (m + 2) st.2) : RF (farM st).1 ∧ okT m (farM st).2 := by
  have o1 := tk_ok (n := 8) (m := m + 1) ht
  unfold farM
  dsimp only
  split
  · rename_i c
    have r1 := tk_rng (t := (tk st.2 8).2) (n := 2) (by decide)
    refine ⟨?_, tk_ok o1⟩
    obtain ⟨far, hf⟩ : ∃ far, far = hiX st.1 + 1 + (tk (tk st.2 8).2 2).1 := ⟨_, rfl⟩
    rw [← hf]
    have gt : ∀ p ∈ st.1, p.1 < far := fun p hp => by have := hiX_ge hp; omega
    have hfar : far ≤ 50 ∧ 0 ≤ far := by
      obtain ⟨p, hp, e⟩ := hiX_mem h.ne
      have := h.at_ p hp
      omega
    refine ⟨List.nodup_append.mpr ⟨h.nd, by simp, fun a ha b hb e => ?_⟩, by simp, by rw [List.length_append]; simp; omega, fun p hp => ?_, fun x => ?_⟩
    · have := gt a ha
      rw [e] at this
      simp at hb
      rcases hb with rfl | rfl <;> simp at this
    · rcases List.mem_append.mp hp with hp | hp
      · have := h.at_ p hp; omega
      · simp at hp
        rcases hp with rfl | rfl <;> simp <;> omega
    · rw [col_app, List.length_append]
      have h1 := h.c x
      by_cases cx : x = far
      · have : col st.1 x = [] := by
          rw [List.eq_nil_iff_forall_not_mem]
          intro p hp
          have := gt p (col_mem.mp hp).1
          have := (col_mem.mp hp).2
          omega
        rw [this]
        have h2 : (col [(far, 7), (far, 8)] x).length ≤ 2 := Nat.le_trans (List.length_filter_le _ _) (by simp)
        rw [List.length_nil, Nat.zero_add]
        exact Nat.le_trans h2 (by decide)
      · have : col [(far, 7), (far, 8)] x = [] := by
          rw [List.eq_nil_iff_forall_not_mem]
          intro p hp
          obtain ⟨h2, h3⟩ := col_mem.mp hp
          rcases List.mem_cons.mp h2 with rfl | h2
          · exact cx h3.symm
          · rw [List.mem_singleton.mp h2] at h3
            exact cx h3.symm
        rw [this, List.length_nil]; omega
  · exact ⟨⟨h.nd, h.ne, h.le, fun p hp => by have := h.at_ p hp; omega, fun x => by have := h.c x; show (col st.1 x).length ≤ 7; omega⟩, o1.mono (by omega)⟩
theorem perm_col {a b : List Sq} (h : a.Perm b) (x : Int) : (col a x).length = (col b x).length := (h.filter _).length_eq
theorem roomM_ok {t : T3} {m : Nat} (h : okT (m + 100) t) : RF (roomM t).1 ∧ SR (roomM t).1 ∧ okT (m + 80) (roomM t).2 := by
  obtain ⟨b1, b2⟩ := baseM_ok (m := m + 94) h
  have l1 := tk_rng (t := (baseM t).2) (n := 5) (by decide)
  have o1 := tk_ok (n := 5) (m := m + 93) b2
  obtain ⟨g1, g2⟩ := lapsM_ok (st := startM t) (m := m + 89) b1 (tk (baseM t).2 5).1.toNat (o1.mono (by omega))
  obtain ⟨d1, d2⟩ := dropM_ok (m := m + 87) (st := growsM t) g1 g2
  obtain ⟨f1, f2⟩ := farM_ok (m := m + 85) (by omega) d1 d2
  have pm := sSort_perm (farM (dropM (growsM t))).1
  refine ⟨⟨pm.symm.nodup f1.nd, fun z => ?_, by rw [show (roomM t).1 = sSort (farM (dropM (growsM t))).1 from rfl, pm.length_eq]; exact f1.le, fun p hp => f1.at_ p (pm.mem_iff.mp hp), fun x => by rw [show (roomM t).1 = sSort (farM (dropM (growsM t))).1 from rfl, perm_col pm]; exact f1.c x⟩, sSort_SR f1.nd, f2.mono (by omega)⟩
  have z : sSort (farM (dropM (growsM t))).1 = [] := z
  rw [z] at pm
  exact f1.ne (List.nil_perm.mp pm)
end TR
/-! ## E13 -/
set_option Elab.async false
set_option linter.all false
set_option maxRecDepth 100000
set_option maxHeartbeats 2000000
namespace TR
open PySem L2
section
variable {X : Cx} {ρ ρ1 : En} {e elt tg it : Expr} {ifs : List Expr} {scope : Scope} {own : List (Str × Nat)} {k : Kd} {d : D} {pos pos' p : Pos} {N : NK} {R : RK} {x : Str} {st : Stmt} {rest body : List Stmt} {l : List D}
/-- names = a tuple, with effects -/
theorem s_unpM {ds : List D} {js : List Nat} (hT : TgOk X tg (.tup js)) (h : EvM k X ρ e (.tup ds) ρ1) (q : N (setEs js ds ρ1)) (hl : ds.length = js.length := by rfl) (hs : swapsWithSole [tg] e pos.line X.env = pure false := by rfl) (hw : swappedStores [tg] e X.env = pure none := by rfl)
    (h1 : (assignEach [tg] X.env).map (·.2) = [assign tg X.env] := by rfl) : ExS X ρ (.Assign [tg] e pos) N R := .mk fun F σ H hy E D w =>
  wS.of (ps_asg pe_w hT hs hw h1) (h.go F σ H E _ fun v H1 c1 E1 r1 => by
    obtain ⟨c, xs, rfl, n, ec, t⟩ := r1.rdOf.tup
    exact gOf_ok (T := .tup js) E1 (.tup n ec t) hl fun σ' E' _ => w.1 _ _ _ E' q)
/-- what holds behind one statement -/
theorem x_cut (W : NK) (h : ExS X ρ st W R) (hr : ∀ ρ', W ρ' → Ex X ρ' rest N R) : Ex X ρ (st :: rest) N R := x_cons (.mk fun F σ H hy E D w => h F σ H hy E D ⟨fun σ' H' ρ' E' q => w.1 σ' H' ρ' E' (hr ρ' q), w.2⟩)
/-- statements that change no object -/
structure ExE (X : Cx) (ρ : En) (body : List Stmt) (N : NK) : Prop where
  mk ::
  go : ∀ (F : Fr) (σ : St) (H : Hp), EnvAt F H σ ρ → ∀ Dn : L2.Ends, (∀ σ' H' ρ', Same H H' → EnvAt F H' σ' ρ' → N ρ' → Dn.nx σ' H') → wSs X body Dn σ H
instance {X : Cx} {ρ : En} {body : List Stmt} {N : NK} : CoeFun (ExE X ρ body N) fun _ => ∀ (F : Fr) (σ : St) (H : Hp), EnvAt F H σ ρ → ∀ Dn : L2.Ends, (∀ σ' H' ρ', Same H H' → EnvAt F H' σ' ρ' → N ρ' → Dn.nx σ' H') → wSs X body Dn σ H := ⟨ExE.go⟩
theorem xe_asg (i : Nat) (hN : X.N.Nodup) (h : Ev k X ρ e d) (q : N (ρ.set i (.dat d))) (hk : k ≠ .rd := by exact fun z => nomatch z) (hi : X.N[i]? = some x := by rfl) (hx : Loc X.env.scope x := by first | exact Or.inl rfl | exact Or.inr rfl)
    (hs : swapsWith e (some (.Name x pos')) pos.line X.env = pure false := by rfl) (hf : X.fn x = true ∨ X.env.scope.names.lookup x = some .local := by first | exact .inl rfl | exact .inr rfl | assumption) : ExE X ρ [.Assign [.Name x pos'] e pos] N := .mk fun F σ H E Dn w =>
  wSs.of (pss_one ps_w) (wS.of (ps_set hN hi hx pe_w hs hf) (h F σ H E _ fun v H1 s1 r1 => w _ _ _ s1 ((E.same s1).putDat i (r1.stOf hk E.avd)) q))
/-- sources whose list is one's own -/
structure EvI0 (X : Cx) (ρ : En) (tg it : Expr) (ds : List D) : Prop where
  mk ::
  go : ∀ (F : Fr) (σ : St) (H : Hp), EnvAt F H σ ρ → ∀ R : It → Hp → Prop, (∀ J H1, Same H H1 → Wk0 (fun b => Av F ρ b ∨ H1 b = none) J ds H1 → R J H1) → wI X tg it σ H R
instance {X : Cx} {ρ : En} {tg it : Expr} {ds : List D} : CoeFun (EvI0 X ρ tg it ds) fun _ => ∀ (F : Fr) (σ : St) (H : Hp), EnvAt F H σ ρ → ∀ R : It → Hp → Prop, (∀ J H1, Same H H1 → Wk0 (fun b => Av F ρ b ∨ H1 b = none) J ds H1 → R J H1) → wI X tg it σ H R := ⟨EvI0.go⟩
theorem i_own {c : Addr} {pp : Bool} (i : Nat) (hρ : ρ[i]? = some (.own pp c (.lst l))) (hN : X.N[i]? = some x := by rfl) (hv : Vis X.env.scope x := by first | exact Or.inl rfl | exact Or.inr (Or.inl rfl) | exact Or.inr (Or.inr rfl)) (hd : (x == ("__debug__" : Str)) = false := by decide) (hcd : (x == ("__classdict__" : Str)) = false := by decide) : EvI0 X ρ tg (.Name x p) l := .mk fun F σ H E R q => by
  obtain ⟨e1, ⟨xs, ex, t⟩, _⟩ := E.own hρ
  refine wI.info (wI.of (pi_list (pe_var hN hv hd hcd)) ⟨_, e1, _, rfl, ⟨_, SqL.of ex⟩, fun sz => q _ H (Same.refl H) ?_⟩)
  refine ⟨by rw [← t.length]; exact sz.1 _ _ ex, fun H' => H' c = some (.lst xs) ∧ Ats (fun b => Av F ρ b ∨ H b = none) H' xs l, ⟨ex, t.move (fun b z => z) fun _ _ _ e => e⟩, fun H1 H2 ⟨g1, g2⟩ s => ⟨s _ _ g1, g2.same s⟩, ?_⟩
  rw [← t.length]
  exact (walk_list (K := X.K) (a := c) (xs := xs)).mono (fun H' g => SqL.of g.1) fun i H' x H2 _ g y => by
    obtain ⟨rfl, y⟩ := y
    refine ⟨Same.refl _, fun Z' hz' _ => ?_⟩
    obtain ⟨d, e1, a1⟩ := g.2.get y
    exact ⟨d, e1, a1.weak hz'⟩
theorem s_forE {α : Type} {l : List α} {f : α → D} (T : Tg) (W : List α → En → Prop) (hc : X.calm = true) (hi : EvI0 X ρ tg it (l.map f)) (hT : TgOk X tg T) (hf : ∀ a ∈ l, fitsT T (f a)) (h0 : W [] ρ) (hmo : ∀ dn ρ', W dn ρ' → ∀ b, Mo ρ' b → Mo ρ b)
    (hs : ∀ done a post, l = done ++ a :: post → ∀ ρ', W done ρ' → ExE X (setE T (f a) ρ') body (W (done ++ [a]))) (hd : ∀ ρ', W l ρ' → N ρ')
    (hp : PassesOwn (model X.prog X.w) X.A X.env X.xe := by exact PassesOwn.never) (hfs : ∀ x, foldedSetIterable it X.env x = pure x := by intro _; rfl) : ExS X ρ (.For tg it body [] pos) N R := .mk fun F σ H hy E D w => by
  refine wS.of (ps_for hp hc pi_w hT pss_w hfs) (hi F σ H E _ fun J H1 s1 wk => ?_)
  obtain ⟨sz, G, g1, gk, wkk⟩ := wk
  have E1 := E.same s1
  refine for_it wkk (fun i σ' H' => Same H1 H' ∧ ∃ ρ', EnvAt F H' σ' ρ' ∧ W (l.take i) ρ') ⟨Same.refl _, ρ, E1, h0⟩ (fun i σ' H' _ pv => gk H1 H' g1 pv.1) ?_ ?_
  · rintro i x σ' Ha Hb hi' ⟨sa, ρ', E', hw⟩ ⟨sb, y⟩
    have hil : i < l.length := by rw [List.length_map] at hi'; exact hi'
    obtain ⟨d, e1, a1⟩ := y (Av F ρ') (fun b z => z.elim (fun z => .inl (.inl z)) fun z => z.elim (fun z => .inl (.inr (.inl z))) fun z => .inl (.inr (.inr (hmo _ _ hw b z)))) E'.avo
    rw [List.getElem?_map, List.getElem?_eq_getElem hil] at e1
    have ed : f l[i] = d := Option.some.inj e1
    rw [← ed] at a1
    have htk : l.take (i + 1) = l.take i ++ [l[i]] := by rw [List.take_succ, List.getElem?_eq_getElem hil]; rfl
    have hsp : l = l.take i ++ l[i] :: l.drop (i + 1) := by rw [List.getElem_cons_drop, List.take_append_drop]
    refine gOf_ok (E'.same sb) a1 (hf _ (List.getElem_mem hil)) fun σ2 E2 _ => ?_
    exact hs _ _ _ hsp ρ' hw F σ2 Hb E2 _ fun σ3 H3 ρ3 s3 E3 w3 => ⟨(sa.trans sb).trans s3, ρ3, E3, by rw [htk]; exact w3⟩
  · rintro σ' H' ⟨s, ρ', E', hw⟩
    rw [List.length_map, List.take_length] at hw
    exact w.1 σ' H' ρ' E' (hd ρ' hw)
/-- [e for .. in one's own list] -/
theorem e_lcO {α : Type} {l : List α} {f : α → D} {g : α → D} (T : Tg) (hc : X.calm = true) (hN : X.N.Nodup) (hi : EvI0 X ρ tg it (l.map f)) (ok : BlkOk X.N X.env.scope scope own) (hT : ∀ s H C cl fp, TgOk (blk X scope s H C cl fp) tg T) (he : ∀ a ∈ l, Bv k X scope (setE T (f a) (wipeE ρ (own.map (·.2)))) elt (g a)) (hf : ∀ a ∈ l, fitsT T (f a) := by intro _ _; trivial) (hown : ∀ j ∈ T.js, j ∈ own.map (·.2) := by decide) (hk : k ≠ .rd := by exact fun z => nomatch z)
    (hs : ∀ x, foldedSetIterable it X.env x = pure x := by intro _; rfl) : Ev .fr X ρ (.ListComp elt [⟨tg, it, [], 0⟩] scope pos) (.lst (l.map g)) :=
  Ev.cast (d := .lst ((l.filter fun _ => true).map g)) (.mk fun F σ H E Q q =>
  wT.of (pe_lc hc hN pi_w ok (fun s H C cl fp => hT s H C cl fp) (fun s H C cl fp => ⟨fun pins s' σ' H' Q' I h => h s H C cl fp pins s' I⟩) (fun s H C cl fp => ⟨fun pins s' σ' H' Q' I h => h s H C cl fp pins s' I⟩) hs)
    (lc_go (p := fun _ => true) E (fun R r => hi F σ H E R r) hf hown (fun _ _ _ _ _ _ _ => ts_nil) (fun a ha _ => he a ha) hk q)) (by rw [List.filter_eq_self.mpr fun _ _ => rfl])
end
end TR
/-! ## E14 -/
set_option Elab.async false
set_option linter.all false
set_option maxRecDepth 100000
set_option maxHeartbeats 4000000
namespace TR
open PySem L2
theorem cut9 (l : List D) : cutD l none (some 9) = l.take 9 := by
  unfold cutD HT.sIx
  simp
theorem erase_idx (l : List Sq) {x : Sq} (h : x ∈ l) : (l.map sqD).eraseIdx (l.idxOf x) = (l.erase x).map sqD := by
  rw [erase_map, List.erase_eq_eraseIdx_of_idxOf rfl]
def nearF (found : List Sq) (spot : Sq) : List Sq := (besideM spot).filter fun q => !decide (q ∈ found) && decide (0 ≤ min q.1 q.2)
theorem nearM_F (found : List Sq) : nearM found = found.flatMap (nearF found) := rfl
theorem EvMI.castR {X : Cx} {ρ ρ1 : En} {tg it : Expr} {ds ds' : List D} (e : ds = ds') (h : EvMI X ρ tg it ds ρ1) : EvMI X ρ tg it ds' ρ1 := by rw [← e]; exact h
section
variable {P : Program} {w : World} {K : PySem.W.Frag} {mg : Str → Option Value} {bs : Heap}
theorem law_room_ok (T : Tp K mg) : FnI P w K mg bs 3 "_law_room" ["_law_tin", "_law_most_so"] (spM 2 fun tin ds d tin' => ∃ t : T3, okT 100 t ∧ tin = t3 t ∧ ds = [.int 9] ∧ d = roomD (roomM t).1 ∧ tin' = t3 (roomM t).2) := by
  have sc : FnScope ["_law_tin", "_law_most_so", "_law_x", "_law_y", "_law_kind_so", "_law_wide_so", "_law_high_so", "_law_found", "_law_lap", "_law_near_so", "_law_spot", "_law_far_so", "_law_i", "_law_j", "_law_own"] ["_law_tin", "_law_most_so"] (defScope (topS 81)) := ⟨rfl, rfl, rfl, by decide +kernel, rfl, by decide +kernel, by decide +kernel⟩
  refine fn_mut T.law_room sc (fun _ _ _ _ _ _ us hl => match us, hl with | [_, _], _ => rfl) ?_
  rintro f cdv A outer s H E hr bb tin ds d tin' hl ⟨t, ok, rfl, rfl, rfl, rfl⟩
  have h24 : (2 : Nat) ^ 24 = 16777216 := by decide
  obtain ⟨a, ha⟩ : ∃ a, a = tk t 3 := ⟨_, rfl⟩
  obtain ⟨b, hb⟩ : ∃ b, b = tk a.2 3 := ⟨_, rfl⟩
  obtain ⟨k, hk⟩ : ∃ k, k = tk b.2 8 := ⟨_, rfl⟩
  obtain ⟨wd, hwd⟩ : ∃ wd, wd = tk k.2 3 := ⟨_, rfl⟩
  obtain ⟨hg, hhg⟩ : ∃ hg, hg = tk wd.2 2 := ⟨_, rfl⟩
  obtain ⟨w2, hw2⟩ : ∃ w2, w2 = tk hg.2 3 := ⟨_, rfl⟩
  have o1 : okT 99 a.2 := by rw [ha]; exact tk_ok ok
  have o2 : okT 98 b.2 := by rw [hb]; exact tk_ok o1
  have o3 : okT 97 k.2 := by rw [hk]; exact tk_ok o2
  have o4 : okT 96 wd.2 := by rw [hwd]; exact tk_ok o3
  have o5 : okT 95 hg.2 := by rw [hhg]; exact tk_ok o4
  have o6 : okT 94 w2.2 := by rw [hw2]; exact tk_ok o5
  have hbase : baseM t = if k.1 = 0 then (((boxS 1 (1 + w2.1).toNat).map fun p => (a.1 + p.1, b.1 + p.2)).take 9, w2.2) else (((boxS (2 + hg.1).toNat (2 + wd.1).toNat).map fun p => (a.1 + p.1, b.1 + p.2)).take 9, hg.2) := by
    rw [hw2, hhg, hwd, hk, hb, ha]; rfl
  obtain ⟨base1, base2⟩ := baseM_ok (m := 94) ok
  refine x_cons (s_unpM (k := .st) (js := [2, 3, 4]) (t_three 2 3 4 rfl sc.nd) (m_tup (ds := [.int a.1, .int b.1, .int k.1]) (ma_cons (m_callM 0 (law_take_ok T) hr rfl (ma_cons (m_e e_int) ma_nil) rfl ⟨t, 3, ok.mono (by decide), by decide, by decide, rfl, rfl, by rw [ha], by rw [← ha]⟩) (ma_cons (m_callM 0 (law_take_ok T) hr rfl (ma_cons (m_e e_int) ma_nil) rfl ⟨a.2, 3, o1.mono (by decide), by decide, by decide, rfl, rfl, by rw [hb], by rw [← hb]⟩) (ma_cons (m_callM 0 (law_take_ok T) hr rfl (ma_cons (m_e e_int) ma_nil) rfl ⟨b.2, 8, o2.mono (by decide), by decide, by decide, rfl, rfl, by rw [hk], by rw [← hk]⟩) ma_nil)))) ?_)
  refine x_cons (s_par2M (i := 5) (j := 6) (d1 := .int (2 + wd.1)) (d2 := .int (2 + hg.1)) rfl sc.nd (ma_cons (m_add (m_e e_int) (m_callM (d := .int wd.1) 0 (law_take_ok T) hr rfl (ma_cons (m_e e_int) ma_nil) rfl ⟨k.2, 3, o3.mono (by decide), by decide, by decide, rfl, rfl, by rw [hwd], by rw [← hwd]⟩)) (ma_cons (m_add (m_e e_int) (m_callM (d := .int hg.1) 0 (law_take_ok T) hr rfl (ma_cons (m_e e_int) ma_nil) rfl ⟨wd.2, 2, o4.mono (by decide), by decide, by decide, rfl, rfl, by rw [hhg], by rw [← hhg]⟩)) ma_nil)) ?_)
  refine x_cut (fun ρ' => ∃ (h v : Nat) (t1 : T3), h ≤ 100 ∧ v ≤ 100 ∧ baseM t = (((boxS h v).map fun p => (a.1 + p.1, b.1 + p.2)).take 9, t1) ∧ ρ' = [.own true bb (.lst (t3 t1)), .dat (.int 9), .dat (.int a.1), .dat (.int b.1), .dat (.int k.1), .dat (.int (v : Nat)), .dat (.int (h : Nat)), .any, .any, .any, .any, .any, .any, .any, .any]) (s_if (p := decide (k.1 = 0)) (b_c (c_eqI (e_var 4 rfl) e_int)) (fun z => ?_) fun z => ?_) ?_
  · have r2 := tk_rng (t := hg.2) (n := 3) (by decide)
    rw [← hw2] at r2
    refine x_one (s_par2M (i := 5) (j := 6) (d1 := .int (1 + w2.1)) (d2 := .int 1) rfl sc.nd (ma_cons (m_add (m_e e_int) (m_callM (d := .int w2.1) 0 (law_take_ok T) hr rfl (ma_cons (m_e e_int) ma_nil) rfl ⟨hg.2, 3, o5.mono (by decide), by decide, by decide, rfl, rfl, by rw [hw2], by rw [← hw2]⟩)) (ma_cons (m_e e_int) ma_nil)) ?_)
    refine ⟨1, (1 + w2.1).toNat, w2.2, by decide, by omega, by rw [hbase, if_pos (of_decide_eq_true z)], ?_⟩
    rw [show (((1 + w2.1).toNat : Nat) : Int) = 1 + w2.1 by omega]; rfl
  · have r3 := tk_rng (t := k.2) (n := 3) (by decide)
    have r4 := tk_rng (t := wd.2) (n := 2) (by decide)
    rw [← hwd] at r3
    rw [← hhg] at r4
    refine x_one (s_if (p := false) (EvB.cast (EvW.toB (w_and (b_c (c_eqI (i := k.1) (e_var 4 rfl) e_int)) fun _ => (w_and1 (b_c (c_gt (j := 11) (i := 9) (e_var 1 rfl) e_int))))) (by simp)) (fun z => by cases z) fun _ => x_nil ?_)
    refine ⟨(2 + hg.1).toNat, (2 + wd.1).toNat, hg.2, by omega, by omega, by rw [hbase, if_neg (of_decide_eq_false z)], ?_⟩
    rw [show (((2 + hg.1).toNat : Nat) : Int) = 2 + hg.1 by omega, show (((2 + wd.1).toNat : Nat) : Int) = 2 + wd.1 by omega]; rfl
  rintro ρ' ⟨h, v, t1, h100, v100, hbt, rfl⟩
  refine x_cons (s_own (d := .lst ((baseM t).1.map sqD)) 7 sc.nd (Ev.cast (e_sliceL (e_lc0 (k := .st) (own := [("_law_i", 12), ("_law_j", 13)]) (l := boxS h v) (f := sqD) (g := fun p => sqD (a.1 + p.1, b.1 + p.2)) (.tup [12, 13]) rfl sc.nd (i_tup (e_call (law_boxed_ok T) hr (a_cons (e_var 6 rfl) (a_cons (e_var 5 rfl) a_nil)) ⟨h, v, h100, v100, rfl, rfl⟩)) (blkOk_by (by kernel_rfl)) (fun _ _ _ _ _ => t_two 12 13 rfl sc.nd) (fun p _ _ _ _ _ _ => (e_tup (a_cons (e_add (e_var 2 rfl) (e_var 12 rfl)) (a_cons (e_add (e_var 3 rfl) (e_var 13 rfl)) a_nil)))) (fun _ _ => rfl)) .none (.some (e_var 1 rfl))) (by rw [cut9, hbt, List.map_take, List.map_map]; rfl)) fun c7 => ?_)
  have ht1 : t1 = (baseM t).2 := by rw [hbt]
  subst ht1
  have r5 := tk_rng (t := (baseM t).2) (n := 5) (by decide)
  obtain ⟨n, hn⟩ : ∃ n, n = (tk (baseM t).2 5).1.toNat := ⟨_, rfl⟩
  have o7 : okT 93 (startM t).2 := tk_ok (n := 5) (m := 93) base2
  refine x_cons (s_forM (l := List.range n) (f := fun i : Nat => .int (i : Nat)) (.one 8) (fun done ρ' => ∃ u8 u9 u10, (∀ p b d, u10 ≠ .own p b d) ∧ ρ' = [.own true bb (.lst (t3 (lapsM (startM t) done.length).2)), .dat (.int 9), .dat (.int a.1), .dat (.int b.1), .dat (.int k.1), .dat (.int (v : Nat)), .dat (.int (h : Nat)), .own false c7 (.lst ((lapsM (startM t) done.length).1.map sqD)), u8, u9, u10, .any, .any, .any, .any]) rfl (mi_range (n := (tk (baseM t).2 5).1) T.range (m_callM 0 (law_take_ok T) hr rfl (ma_cons (m_e e_int) ma_nil) rfl ⟨(baseM t).2, 5, base2.mono (by decide), by decide, by decide, rfl, rfl, rfl, rfl⟩) (by omega) (by omega) |> EvMI.castR (by unfold rangeD; rw [hn]; exact List.map_congr_left fun i _ => by rw [Int.zero_add])) (t_one 8 sc.nd) (fun _ _ => trivial) ⟨_, _, _, (fun _ _ _ z => by cases z), rfl⟩ ?_ ?_)
  · rintro done i post hsp ρ' ⟨u8, u9, u10, hu10, rfl⟩
    obtain ⟨rfl, hi⟩ := range_split hsp
    rw [List.length_range]
    obtain ⟨g1, g2⟩ := lapsM_ok (st := startM t) (m := 93 - i) base1 i (o7.mono (by omega))
    obtain ⟨st, hst⟩ : ∃ st, st = lapsM (startM t) i := ⟨_, rfl⟩
    have hnext : lapsM (startM t) (i + 1) = growM st := by rw [hst]; rfl
    rw [← hst] at g1 g2
    rw [← hst, List.length_append, List.length_range, List.length_singleton, hnext]
    refine x_cons (s_asg (d := .lst []) 9 sc.nd (e_lst a_nil) ?_)
    refine x_cons (s_forE (l := st.1) (f := sqD) (.one 10) (fun dn ρ' => ∃ u10, (∀ p b d, u10 ≠ .own p b d) ∧ ρ' = [.own true bb (.lst (t3 st.2)), .dat (.int 9), .dat (.int a.1), .dat (.int b.1), .dat (.int k.1), .dat (.int (v : Nat)), .dat (.int (h : Nat)), .own false c7 (.lst (st.1.map sqD)), .dat (.int (i : Nat)), .dat (.lst ((dn.flatMap (nearF st.1)).map sqD)), u10, .any, .any, .any, .any]) rfl (i_own 7 rfl) (t_one 10 sc.nd) (fun _ _ => trivial) ⟨_, hu10, rfl⟩ ?_ ?_ ?_)
    · rintro dn ρ' ⟨u10', hu, rfl⟩ y hy
      exact mo_set (j := 9) (e := .dat (.lst ((dn.flatMap (nearF st.1)).map sqD))) (fun p d => by intro z; cases z) (mo_set (j := 10) (e := u10') (fun p d => hu p _ d) hy)
    · rintro dn q pt hs2 ρ' ⟨u10', hu, rfl⟩
      have hdn : dn.length < 9 := by
        have := congrArg List.length hs2
        rw [List.length_append, List.length_cons] at this
        have := g1.le
        omega
      have hfl : (dn.flatMap (nearF st.1)).length ≤ dn.length * 4 := flat_len (n := 4) (fun p => Nat.le_trans (List.length_filter_le _ _) (show (besideM p).length ≤ 4 from Nat.le_refl 4)) dn
      have hnl : (nearF st.1 q).length ≤ 4 := Nat.le_trans (List.length_filter_le _ _) (show (besideM q).length ≤ 4 from Nat.le_refl 4)
      refine xe_asg (k := .fr) (d := .lst (((dn ++ [q]).flatMap (nearF st.1)).map sqD)) 9 sc.nd (Ev.cast (e_cat (k1 := .st) (k2 := .fr) (e_var 9 rfl) (e_lc (k := .st) (own := [("_law_own", 14)]) (l := besideM q) (f := sqD) (p := fun q => !decide (q ∈ st.1) && decide (0 ≤ min q.1 q.2)) (g := sqD) (.one 14) rfl sc.nd (i_list (e_call (law_beside_ok T) hr (a_cons (e_var 10 rfl) a_nil) ⟨q, rfl, rfl⟩)) (blkOk_by (by kernel_rfl)) (fun _ _ _ _ _ => t_one 14 sc.nd) (fun _ _ => trivial) (by decide) (fun u _ _ _ _ _ _ => ts_one (EvW.toB (w_and (EvB.cast (b_c (c_notIn (rm65 hr) (e_var 14 rfl) (e_own 7 rfl) (.lst _) (pl_tD _).shp (lay_ts (n := 1) (fun q : Sq => pl_tD (sqK q)) st.1))) (congrArg Bool.not (in_sq _ _))) fun _ => (w_and1 (b_c (c_ge (i := min u.1 u.2) (j := 0) (e_minT (n := u.1) (ns := [u.2]) rfl (rm1 hr) T.min (e_var 14 rfl) (Nat.le_of_ble_eq_true rfl)) e_int)))))) (fun u _ _ _ _ _ _ _ => (e_var 14 rfl))) ?_) ?_) ⟨.dat (sqD q), (fun _ _ _ z => by cases z), rfl⟩
      · rw [List.length_map, List.length_map]
        show _ + (nearF st.1 q).length ≤ _
        unfold sizeLine; omega
      · rw [List.flatMap_append, List.flatMap_cons, List.flatMap_nil, List.append_nil, List.map_append]; rfl
    · rintro ρ' ⟨u10', hu, rfl⟩
      rw [← nearM_F]
      refine x_one (s_if (p := decide (st.1.length < 9)) (EvB.cast (b_c (c_lt (e_len T.len (e_own 7 rfl) (.lst _)) (e_var 1 rfl))) (by rw [List.length_map, decide_eq_decide]; omega)) (fun z => ?_) fun z => ?_)
      · have z : st.1.length < 9 := of_decide_eq_true z
        have hnm := near_len st.1
        have hsl := sSet_len (nearM st.1)
        have hs0 := sSet_ne (near_ne g1)
        obtain ⟨x, hx, hxm⟩ := tk_at (l := sSet (nearM st.1)) (t := st.2) hs0
        have hgr : growM st = (st.1 ++ [x], (tk st.2 ((sSet (nearM st.1)).length : Nat)).2) := by unfold growM; rw [if_pos z, hx]; rfl
        rw [hgr]
        refine x_one (s_appendM 7 rfl (m_callM (d := sqD x) (tin' := t3 (tk st.2 ((sSet (nearM st.1)).length : Nat)).2) 0 (law_of_ok T) hr rfl (ma_cons (m_e (Ev.cast (e_sortSet (ks := (nearM st.1).map sqK) ((nearM st.1).map sqK) rfl (rm64 hr) T.sorted T.set (Ev.cast (e_var 9 rfl) (show D.lst ((nearM st.1).map sqD) = .lst (((nearM st.1).map sqK).map tD) by rw [List.map_map]; rfl)) (fun _ h => h) (by rw [List.length_map]; omega) (.inl fun r hr => by obtain ⟨p, _, rfl⟩ := List.mem_map.mp hr; exact fun z => by cases z)) (lst_sSet _))) ma_nil) rfl ⟨st.2, _, (sSet (nearM st.1)).map sqD, g2.mono (by omega), .lst _, by rw [List.length_map]; omega, by rw [List.length_map]; omega, rfl, rfl, by rw [List.length_map, List.getElem?_map, hx]; rfl, by rw [List.length_map]⟩) rfl ?_ (by rw [List.length_map]; unfold sizeLine; omega))
        refine ⟨.dat (.int (i : Nat)), .dat (.lst ((nearM st.1).map sqD)), u10', hu, ?_⟩
        dsimp only
        rw [List.map_append]; rfl
      · have z : ¬ st.1.length < 9 := of_decide_eq_false z
        have hgr : growM st = st := by unfold growM; rw [if_neg z]
        rw [hgr]
        exact x_nil ⟨_, _, _, hu, rfl⟩
  · rintro ρ' ⟨u8, u9, u10, hu10, rfl⟩
    rw [List.length_range]
    have hgs : lapsM (startM t) n = growsM t := by rw [hn]; rfl
    obtain ⟨g1, g2⟩ := lapsM_ok (st := startM t) (m := 89) base1 n (o7.mono (by omega))
    rw [hgs] at g1 g2 ⊢
    have hn4 : n ≤ 4 := by omega
    obtain ⟨st, hst⟩ : ∃ st, st = growsM t := ⟨_, rfl⟩
    rw [← hst] at g1 g2 ⊢
    obtain ⟨d1, d2⟩ := dropM_ok (m := 87) g1 g2
    refine x_cut (fun ρ' => ρ' = [.own true bb (.lst (t3 (dropM st).2)), .dat (.int 9), .dat (.int a.1), .dat (.int b.1), .dat (.int k.1), .dat (.int (v : Nat)), .dat (.int (h : Nat)), .own false c7 (.lst ((dropM st).1.map sqD)), u8, u9, u10, .any, .any, .any, .any]) (s_ifM (bb := decide ((tk st.2 3).1 = 0) && decide (4 < st.1.length)) (mb_and (mb_eqI (i := (tk st.2 3).1) (j := 0) (m_callM 0 (law_take_ok T) hr rfl (ma_cons (m_e e_int) ma_nil) rfl ⟨st.2, 3, g2.mono (by decide), by decide, by decide, rfl, rfl, rfl, rfl⟩) (m_e e_int)) fun _ => (w_and1 (EvB.cast (b_c (c_gt (e_len T.len (e_own 7 rfl) (.lst _)) e_int)) (by rw [List.length_map, decide_eq_decide]; omega)))) (fun z => ?_) fun z => ?_) ?_
    · have z : (tk st.2 3).1 = 0 ∧ 4 < st.1.length := by simpa using z
      have hsl : (sSort st.1).length = st.1.length := (sSort_perm st.1).length_eq
      have hle := g1.le
      obtain ⟨x, hx, hxm⟩ := tk_at (l := sSort st.1) (t := (tk st.2 3).2) (by omega)
      have hxs : x ∈ st.1 := (sSort_perm st.1).mem_iff.mp hxm
      have hdr : dropM st = (st.1.erase x, (tk (tk st.2 3).2 (st.1.length : Nat)).2) := by
        unfold dropM
        dsimp only
        rw [if_pos z, ← hsl, hx]; rfl
      rw [hdr]
      have hix := List.idxOf_lt_length_of_mem hxs
      refine x_one (s_removeM (j := st.1.idxOf x) (z := sqD x) 7 (rm65 hr) rfl (m_callM (d := sqD x) (tin' := t3 (tk (tk st.2 3).2 (st.1.length : Nat)).2) 0 (law_of_ok T) hr rfl (ma_cons (m_e (Ev.cast (e_sortL (ks := st.1.map sqK) rfl (rm64 hr) T.sorted (Ev.cast (e_own 7 rfl) (show D.lst (st.1.map sqD) = .lst ((st.1.map sqK).map tD) by rw [List.map_map]; rfl)) (fun _ r hr => by obtain ⟨p, _, rfl⟩ := List.mem_map.mp hr; exact fun z => by cases z)) (lst_sSort _))) ma_nil) rfl ⟨(tk st.2 3).2, _, (sSort st.1).map sqD, (tk_ok (n := 3) (m := 88) g2).mono (by decide), .lst _, by rw [List.length_map]; omega, by rw [List.length_map]; omega, rfl, rfl, by rw [List.length_map, List.getElem?_map, hx]; rfl, by rw [List.length_map, hsl]⟩) rfl ?_ (by rw [eq_sq]; simp) ?_ (lay_ts (n := 1) (fun q : Sq => pl_tD (sqK q)) st.1) (pl_tD _).shp ?_)
      · rw [List.getElem?_map, List.getElem?_eq_getElem hix, List.getElem_idxOf]; rfl
      · intro m z' hm hz
        rw [List.getElem?_map] at hz
        obtain ⟨y, hy, rfl⟩ := Option.map_eq_some_iff.mp hz
        rw [eq_sq, decide_eq_false_iff_not]
        intro e
        obtain ⟨hm2, hy2⟩ := List.getElem?_eq_some_iff.mp hy
        have := g1.nd.idxOf_getElem m hm2
        rw [hy2, e] at this
        omega
      · rw [erase_idx _ hxs]; rfl
    · have z : ¬ ((tk st.2 3).1 = 0 ∧ 4 < st.1.length) := by simpa using z
      have hdr : dropM st = (st.1, (tk st.2 3).2) := by unfold dropM; dsimp only; rw [if_neg z]
      rw [hdr]
      exact x_nil rfl
    rintro ρ' rfl
    have hro : roomM t = (sSort (farM (dropM st)).1, (farM (dropM st)).2) := by rw [hst]; rfl
    obtain ⟨s2, hs2⟩ : ∃ s2, s2 = dropM st := ⟨_, rfl⟩
    rw [← hs2] at d1 d2 hro ⊢
    refine x_cut (fun ρ' => ∃ c u11, ρ' = [.own true bb (.lst (t3 (farM s2).2)), .dat (.int 9), .dat (.int a.1), .dat (.int b.1), .dat (.int k.1), .dat (.int (v : Nat)), .dat (.int (h : Nat)), .own false c (.lst ((farM s2).1.map sqD)), u8, u9, u10, u11, .any, .any, .any]) (s_ifM (bb := decide ((tk s2.2 8).1 = 0) && decide (s2.1.length < 8)) (mb_and (mb_eqI (i := (tk s2.2 8).1) (j := 0) (m_callM 0 (law_take_ok T) hr rfl (ma_cons (m_e e_int) ma_nil) rfl ⟨s2.2, 8, d2.mono (by decide), by decide, by decide, rfl, rfl, rfl, rfl⟩) (m_e e_int)) fun _ => (w_and1 (EvB.cast (b_c (c_lt (e_len T.len (e_own 7 rfl) (.lst _)) (e_sub (e_var 1 rfl) e_int))) (by rw [List.length_map, decide_eq_decide]; omega)))) (fun z => ?_) fun z => ?_) ?_
    · have z : (tk s2.2 8).1 = 0 ∧ s2.1.length < 8 := by simpa using z
      have hfr : farM s2 = (s2.1 ++ [(hiX s2.1 + 1 + (tk (tk s2.2 8).2 2).1, 7), (hiX s2.1 + 1 + (tk (tk s2.2 8).2 2).1, 8)], (tk (tk s2.2 8).2 2).2) := by unfold farM; dsimp only; rw [if_pos z]
      rw [hfr]
      have hne := d1.ne
      refine x_cons (s_asgM (k := .st) (d := .int (hiX s2.1 + 1 + (tk (tk s2.2 8).2 2).1)) 11 sc.nd (m_add (m_e (e_add (e_maxM (l := s2.1) (ψ := fun p : Sq => p.1) (m := hiX s2.1) rfl T.max (e_lcO (k := .st) (own := [("_law_own", 14)]) (l := s2.1) (f := sqD) (g := fun p => .int p.1) (.one 14) rfl sc.nd (i_own 7 rfl) (blkOk_by (by kernel_rfl)) (fun _ _ _ _ _ => t_one 14 sc.nd) fun p _ _ _ _ _ _ => (e_ix (d := .int p.1) (e_var 14 rfl) e_int rfl)) (hiX_mem hne) (fun p hp => hiX_ge hp)) e_int)) (m_callM (d := .int (tk (tk s2.2 8).2 2).1) 0 (law_take_ok T) hr rfl (ma_cons (m_e e_int) ma_nil) rfl ⟨(tk s2.2 8).2, 2, (tk_ok (n := 8) (m := 86) d2).mono (by decide), by decide, by decide, rfl, rfl, rfl, rfl⟩)) ?_)
      refine x_one (s_own (d := .lst ((s2.1 ++ [(hiX s2.1 + 1 + (tk (tk s2.2 8).2 2).1, 7), (hiX s2.1 + 1 + (tk (tk s2.2 8).2 2).1, 8)]).map sqD)) 7 sc.nd (Ev.cast (e_cat (k1 := .rd) (k2 := .fr) (e_own 7 rfl) (e_lst (a_cons (e_tup (a_cons (e_var 11 rfl) (a_cons e_int a_nil))) (a_cons (e_tup (a_cons (e_var 11 rfl) (a_cons e_int a_nil))) a_nil))) ?_) ?_) fun c => ⟨c, _, rfl⟩)
      · rw [List.length_map]
        show _ + 2 ≤ _
        unfold sizeLine; omega
      · rw [List.map_append]; rfl
    · have z : ¬ ((tk s2.2 8).1 = 0 ∧ s2.1.length < 8) := by simpa using z
      have hfr : farM s2 = (s2.1, (tk s2.2 8).2) := by unfold farM; dsimp only; rw [if_neg z]
      rw [hfr]
      exact x_nil ⟨_, _, rfl⟩
    rintro ρ' ⟨c, u11, rfl⟩
    rw [hro]
    exact x_one (s_ret (e_tupleOf T.tuple (Ev.cast (e_sortL (ks := (farM s2).1.map sqK) rfl (rm64 hr) T.sorted (Ev.cast (e_own 7 rfl) (show D.lst ((farM s2).1.map sqD) = .lst (((farM s2).1.map sqK).map tD) by rw [List.map_map]; rfl)) (fun _ r hr => by obtain ⟨p, _, rfl⟩ := List.mem_map.mp hr; exact fun z => by cases z)) (lst_sSort _))) ⟨rfl, rfl⟩)
end
end TR
/-! ## E15 -/
set_option Elab.async false
set_option linter.all false
set_option maxRecDepth 100000
set_option maxHeartbeats 4000000
namespace TR
open PySem L2
/-! ### drawn lets -/
def someStep (st : Lets × T3) (p : Sq) : Lets × T3 :=
  let a := tk st.2 4
  let b := tk a.2 12
  let pk := pickS b.2 five (min (1 + a.1 - (if b.1 = 0 then 1 else 0)).toNat 5)
  (st.1 ++ [(p, iSort pk.1)], pk.2.2)
def spotsM (t : T3) (r : List Sq) (c : Int) : List Sq × T3 :=
  let n := tk t (c + 1)
  let pk := pickS n.2 r (min n.1.toNat r.length)
  (sSort pk.1, pk.2.2)
def someM (t : T3) (r : List Sq) : Lets × T3 := (spotsM t r 4).1.foldl someStep ([], (spotsM t r 4).2)
def toldStep (r : List Sq) (laid : List Int) (st : Lets × T3) (p : Sq) : Lets × T3 :=
  let a := tk st.2 3
  if a.1 = 0 then (st.1 ++ [(p, iSet [at0 (r.zip laid) p, (tk a.2 5).1])], (tk a.2 5).2) else (st.1 ++ [(p, iSet [at0 (r.zip laid) p, at0 (r.zip laid) p])], a.2)
def toldM (t : T3) (r : List Sq) (laid : List Int) : Lets × T3 := (spotsM t r 5).1.foldl (toldStep r laid) ([], (spotsM t r 5).2)
def drawnM (t : T3) (r : List Sq) (all : List (List Int)) : Lets × T3 :=
  let a := tk t 3
  if a.1 = 0 then someM a.2 r else toldM (tk a.2 (all.length : Nat)).2 r (all[(tk a.2 (all.length : Nat)).1.toNat]?.getD [])
theorem spotsM_ok {t : T3} {r : List Sq} {c : Int} {m : Nat} (nd : r.Nodup) (hc : 0 ≤ c ∧ c ≤ 5) (h : okT (m + 7) t) : SR (spotsM t r c).1 ∧ (∀ p ∈ (spotsM t r c).1, p ∈ r) ∧ (spotsM t r c).1.length ≤ 5 ∧ okT m (spotsM t r c).2 := by
  have r1 := tk_rng (t := t) (n := c + 1) (by omega)
  have o1 := tk_ok (n := c + 1) (m := m + 6) h
  obtain ⟨n, hn⟩ : ∃ n, n = min (tk t (c + 1)).1.toNat r.length := ⟨_, rfl⟩
  have hnr : n ≤ r.length := by omega
  obtain ⟨l1, _⟩ := pickS_len (t := (tk t (c + 1)).2) n hnr
  have pm := pickS_perm (t := (tk t (c + 1)).2) n hnr
  have nd2 : (pickS (tk t (c + 1)).2 r n).1.Nodup := (List.nodup_append.mp (pm.symm.nodup nd)).1
  have e : spotsM t r c = (sSort (pickS (tk t (c + 1)).2 r n).1, (pickS (tk t (c + 1)).2 r n).2.2) := by rw [hn]; rfl
  rw [e]
  refine ⟨sSort_SR nd2, fun p hp => pm.mem_iff.mp (List.mem_append_left _ ((sSort_perm _).mem_iff.mp hp)), ?_, (pickS_ok (m := m + 6 - n) n (o1.mono (by omega))).mono (by omega)⟩
  rw [(sSort_perm _).length_eq, l1]; omega
/-- lets built square by square -/
structure LI (r : List Sq) (done : List Sq) (ls : Lets) : Prop where
  sqs : ls.map (·.1) = done
  kd : ∀ q ∈ ls, ∀ k ∈ q.2, okK k = true
  up : ∀ q ∈ ls, upI q.2 = true
theorem LI.snoc {r done : List Sq} {ls : Lets} (h : LI r done ls) {p : Sq} {ks : List Int} (hk : ∀ k ∈ ks, k ∈ five) (hu : ks.Pairwise (· < ·)) : LI r (done ++ [p]) (ls ++ [(p, ks)]) := by
  refine ⟨by rw [List.map_append, h.sqs]; rfl, fun q hq => ?_, fun q hq => ?_⟩
  · rcases List.mem_append.mp hq with hq | hq
    · exact h.kd q hq
    · rw [List.mem_singleton.mp hq]; exact fun k hk' => okK_five.mpr (hk k hk')
  · rcases List.mem_append.mp hq with hq | hq
    · exact h.up q hq
    · rw [List.mem_singleton.mp hq]; exact pw_upI hu
theorem someStep_ok {r done : List Sq} {st : Lets × T3} {p : Sq} {m : Nat} (h : LI r done st.1) (ht : okT (m + 7) st.2) : LI r (done ++ [p]) (someStep st p).1 ∧ okT m (someStep st p).2 := by
  have o1 := tk_ok (n := 4) (m := m + 6) ht
  have o2 := tk_ok (n := 12) (m := m + 5) o1
  obtain ⟨n, hn⟩ : ∃ n, n = min (1 + (tk st.2 4).1 - (if (tk (tk st.2 4).2 12).1 = 0 then 1 else 0)).toNat 5 := ⟨_, rfl⟩
  have hn5 : n ≤ five.length := by show n ≤ 5; omega
  have pm := pickS_perm (t := (tk (tk st.2 4).2 12).2) n hn5
  have nd2 : (pickS (tk (tk st.2 4).2 12).2 five n).1.Nodup := (List.nodup_append.mp (pm.symm.nodup five_nd)).1
  have e : someStep st p = (st.1 ++ [(p, iSort (pickS (tk (tk st.2 4).2 12).2 five n).1)], (pickS (tk (tk st.2 4).2 12).2 five n).2.2) := by rw [hn]; rfl
  rw [e]
  have pms := iSort_perm (pickS (tk (tk st.2 4).2 12).2 five n).1
  refine ⟨h.snoc (fun k hk => pm.mem_iff.mp (List.mem_append_left _ (pms.mem_iff.mp hk))) ?_, (pickS_ok (m := m + 5 - n) n (o2.mono (by omega))).mono (by have : n ≤ 5 := hn5; omega)⟩
  have n1 := pms.symm.nodup nd2
  exact ((iSort_up _).and n1).imp fun {a b} q => by have := q.1; have := q.2; omega
theorem toldStep_ok {r done : List Sq} {laid : List Int} {st : Lets × T3} {p : Sq} {m : Nat} (h5 : at0 (r.zip laid) p ∈ five) (h : LI r done st.1) (ht : okT (m + 7) st.2) : LI r (done ++ [p]) (toldStep r laid st p).1 ∧ okT m (toldStep r laid st p).2 := by
  have o1 := tk_ok (n := 3) (m := m + 6) ht
  have o2 := tk_ok (n := 5) (m := m + 5) o1
  have r2 := tk_rng (t := (tk st.2 3).2) (n := 5) (by decide)
  unfold toldStep
  dsimp only
  split
  · refine ⟨h.snoc (fun k hk => ?_) (iSet_up _), o2.mono (by omega)⟩
    have := iSet_mem.mp hk
    simp only [List.mem_cons, List.not_mem_nil, or_false] at this
    rcases this with rfl | rfl
    · exact h5
    · simp [five]; omega
  · refine ⟨h.snoc (fun k hk => ?_) (iSet_up _), o1.mono (by omega)⟩
    have := iSet_mem.mp hk
    simp only [List.mem_cons, List.not_mem_nil, or_false, or_self] at this
    rw [this]; exact h5
theorem steps_ok {r : List Sq} {step : Lets × T3 → Sq → Lets × T3} (hs : ∀ (st : Lets × T3) (done : List Sq) (p : Sq) (m : Nat), p ∈ r → LI r done st.1 → okT (m + 7) st.2 → LI r (done ++ [p]) (step st p).1 ∧ okT m (step st p).2) {t0 : T3} : ∀ (done : List Sq) (m : Nat), (∀ p ∈ done, p ∈ r) → okT (m + 7 * done.length) t0 → LI r done (done.foldl step ([], t0)).1 ∧ okT m (done.foldl step ([], t0)).2 := by
  intro done
  induction done using snocRec with
  | h0 => intro m _ h; exact ⟨⟨rfl, fun q hq => (by cases hq), fun q hq => (by cases hq)⟩, h⟩
  | h1 l p ih =>
    intro m hp h
    obtain ⟨i1, i2⟩ := ih (m + 7) (fun q hq => hp q (List.mem_append_left _ hq)) (by rw [List.length_append, List.length_singleton] at h; rw [show m + 7 + 7 * l.length = m + 7 * (l.length + 1) by omega]; exact h)
    rw [List.foldl_append]
    exact hs _ l p m (hp p (by simp)) i1 i2
theorem SR_up {l : List Sq} (h : SR l) : upS l = true := by
  unfold upS
  rw [List.all_eq_true]
  intro q hq
  have lt : ∀ (l : List Sq), SR l → ∀ q ∈ l.zip (l.drop 1), sqLt q.1 q.2 = true := fun l => by
    induction l with
    | nil => intro _ q hq; cases hq
    | cons a l ih =>
      intro hl q hq
      cases l with
      | nil => cases hq
      | cons b l =>
        rcases List.mem_cons.mp hq with rfl | hq
        · have := (List.pairwise_cons.mp hl).1 b (by simp)
          unfold sqLt sqK
          show HT.lexLt [a.1, a.2] [b.1, b.2] = true
          rw [HT.lexLt_cons]
          split
          · rw [HT.lexLt_cons]
            split
            · omega
            · exact decide_eq_true (by omega)
          · exact decide_eq_true (by omega)
        · exact ih (List.pairwise_cons.mp hl).2 q hq
  exact lt l h q hq
theorem LI.okL {r done : List Sq} {ls : Lets} (h : LI r done ls) (sr : SR done) (hs : ∀ p ∈ done, p ∈ r) : okL r ls ∧ (ls.map (·.1)).Nodup := by
  refine ⟨⟨fun q hq => hs q.1 (by rw [← h.sqs]; exact List.mem_map.mpr ⟨q, hq, rfl⟩), h.kd, h.up, by rw [h.sqs]; exact SR_up sr⟩, by rw [h.sqs]; exact sr.nd⟩
theorem drawnM_ok {t : T3} {r : List Sq} {all : List (List Int)} {m : Nat} (sr : SR r) (hne : all ≠ []) (hall : ∀ own ∈ all, ∃ f, Fl r f ∧ own = r.map f) (h : okT (m + 50) t) : okL r (drawnM t r all).1 ∧ ((drawnM t r all).1.map (·.1)).Nodup ∧ okT m (drawnM t r all).2 := by
  have o1 := tk_ok (n := 3) (m := m + 49) h
  unfold drawnM
  dsimp only
  split
  · obtain ⟨s1, s2, s3, s4⟩ := spotsM_ok (m := m + 42) (c := 4) sr.nd (by decide) o1
    obtain ⟨l1, l2⟩ := steps_ok (r := r) (step := someStep) (fun st done p m _ a b => someStep_ok a b) (spotsM (tk t 3).2 r 4).1 m s2 (s4.mono (by omega))
    obtain ⟨k1, k2⟩ := l1.okL s1 s2
    exact ⟨k1, k2, l2⟩
  · obtain ⟨own, ho, hm⟩ := tk_at (l := all) (t := (tk t 3).2) (List.length_pos_iff.mpr hne)
    rw [ho]
    show okL r (toldM _ r own).1 ∧ _
    obtain ⟨f, fl, rfl⟩ := hall own hm
    have o2 := tk_ok (n := ((all.length : Nat) : Int)) (m := m + 48) o1
    obtain ⟨s1, s2, s3, s4⟩ := spotsM_ok (m := m + 41) (c := 5) sr.nd (by decide) o2
    obtain ⟨l1, l2⟩ := steps_ok (r := r) (step := toldStep r (r.map f)) (fun st done p m hp a b => toldStep_ok (by rw [at0_zip hp]; exact (fl.k p hp).1) a b) (spotsM (tk (tk t 3).2 ((all.length : Nat) : Int)).2 r 5).1 m s2 (s4.mono (by omega))
    obtain ⟨k1, k2⟩ := l1.okL s1 s2
    exact ⟨k1, k2, l2⟩
end TR
/-! ## E16 -/
set_option Elab.async false
set_option linter.all false
set_option maxRecDepth 100000
set_option maxHeartbeats 4000000
namespace TR
open PySem L2
section
variable {X : Cx} {ρ ρ1 ρ2 : En} {a e : Expr} {k : Kd} {d : D} {l : List D} {p pos : Pos}
theorem EvM.castE {ρ1' : En} {d' : D} (h : EvM k X ρ e d ρ1) (q : d = d') (q2 : ρ1 = ρ1') : EvM k X ρ e d' ρ1' := by rw [← q, ← q2]; exact h
theorem m_intB {i : Bool} (hm : X.mg "int" = none) (ha : EvM k X ρ a (.bl i) ρ1) (hk : k ≠ .rd := by exact fun z => nomatch z) (hg : Gl X "int" := by rfl) (h1 : starEach [a] X.env = (false, eval a X.env) :: starEach [] X.env := by rfl) : EvM .st X ρ (.Call (.Name "int" p) [a] [] pos) (.int (if i then 1 else 0)) ρ1 :=
  m_callTy (call_int1 (X := X)) hm PyProof.Rows.boot_int (ma_cons ha ma_nil hk h1) (fun Z H vs hz r Q q => by
    obtain ⟨v, rfl, r1⟩ := r.one
    rw [r1.bl]
    exact .inr ⟨i, rfl, q _ H (Same.refl H) (.int _)⟩) hg (by decide) (by decide) h1 rfl
theorem m_tupleOf (hm : X.mg "tuple" = none) (ha : EvM k X ρ a (.lst l) ρ1) (hk : k ≠ .rd := by exact fun z => nomatch z) (hg : Gl X "tuple" := by rfl) (h1 : starEach [a] X.env = (false, eval a X.env) :: starEach [] X.env := by rfl) : EvM .st X ρ (.Call (.Name "tuple" p) [a] [] pos) (.tup l) ρ1 :=
  m_callTy (call_tuple_of (X := X)) hm PyProof.Rows.boot_tuple (ma_cons ha ma_nil hk h1) (fun Z H vs hz r Q q => by
    obtain ⟨v, rfl, r1⟩ := r.one
    obtain ⟨a, xs, rfl, e1, t⟩ := r1.lst
    exact ⟨a, xs, rfl, .inl ⟨SqL.of e1, fun p hp => q _ _ (Same.new hp) (t.newTup hz hp)⟩⟩) hg (by decide) (by decide) h1 rfl
end
theorem map_sort (l : List Sq) : (rSort (l.map sqK)).map tD = (sSort l).map sqD := by rw [← sSort_K, List.map_map]; rfl
section
variable {P : Program} {w : World} {K : PySem.W.Frag} {mg : Str → Option Value} {bs : Heap}
theorem law_some_lets_ok (T : Tp K mg) : FnI P w K mg bs 3 "_law_some_lets" ["_law_tin", "_law_ground", "_law_count_so"] (spM 3 fun tin ds d tin' => ∃ (t : T3) (r : List Sq), SR r ∧ r.length ≤ 90 ∧ okT 300 t ∧ tin = t3 t ∧ ds = [roomD r, .int 4] ∧ d = letsS (someM t r).1 ∧ tin' = t3 (someM t r).2) := by
  have sc : FnScope ["_law_tin", "_law_ground", "_law_count_so", "_law_found", "_law_spot", "_law_kinds_so"] ["_law_tin", "_law_ground", "_law_count_so"] (defScope (topS 86)) := ⟨rfl, rfl, rfl, by decide +kernel, rfl, by decide +kernel, by decide +kernel⟩
  refine fn_mut T.law_some_lets sc (fun _ _ _ _ _ _ us hl => match us, hl with | [_, _, _], _ => rfl) ?_
  rintro f cdv A outer s H E hr bb tin ds d tin' hl ⟨t, r, sr, r90, ok, rfl, rfl, rfl, rfl⟩
  have h24 : (2 : Nat) ^ 24 = 16777216 := by decide
  have rn := tk_rng (t := t) (n := 5) (by decide)
  have on := tk_ok (n := 5) (m := 299) ok
  obtain ⟨S, hS⟩ : ∃ S, S = spotsM t r 4 := ⟨_, rfl⟩
  obtain ⟨s1, s2, s3, s4⟩ := spotsM_ok (m := 293) (c := 4) sr.nd (by decide) ok
  have hSe : S = (sSort (pickS (tk t 5).2 r (min (tk t 5).1.toNat r.length)).1, (pickS (tk t 5).2 r (min (tk t 5).1.toNat r.length)).2.2) := by rw [hS]; rfl
  rw [← hS] at s1 s2 s3 s4
  have hM : someM t r = S.1.foldl someStep ([], S.2) := by rw [hS]; rfl
  rw [hM]
  refine x_cons (s_own (d := .lst []) 3 sc.nd (e_lst a_nil) fun c3 => ?_)
  refine x_cons (s_forM (l := S.1) (f := sqD) (.one 4) (fun done ρ' => ∃ u4 u5, ρ' = [.own true bb (.lst (t3 (done.foldl someStep ([], S.2)).2)), .dat (roomD r), .dat (.int 4), .own false c3 (.lst ((done.foldl someStep ([], S.2)).1.map letD)), u4, u5]) rfl (mi_list (k := .fr) (m_sortL (ks := (pickS (tk t 5).2 r (min (tk t 5).1.toNat r.length)).1.map sqK) rfl (rm64 hr) T.sorted (EvM.castE (m_callM (d := .lst (pickS (tk t 5).2 (r.map sqD) (min (tk t 5).1.toNat (r.map sqD).length)).1) (tin' := t3 S.2) 0 (law_pick_ok T) hr rfl (ma_cons (m_e (e_listOf T.list (e_var 1 rfl))) (ma_cons (EvM.castE (m_callM (d := .int (tk t 5).1) (tin' := t3 (tk t 5).2) 0 (law_take_ok T) hr rfl (ma_cons (m_e (e_add (e_var 2 rfl) e_int)) ma_nil) rfl ⟨t, 5, ok.mono (by decide), by decide, by decide, rfl, rfl, rfl, rfl⟩) (show D.int (tk t 5).1 = .int (((tk t 5).1.toNat : Nat) : Int) by rw [show (((tk t 5).1.toNat : Nat) : Int) = (tk t 5).1 by omega]) rfl) ma_nil)) rfl ⟨(tk t 5).2, r.map sqD, (tk t 5).1.toNat, on.mono (by decide), by rw [List.length_map]; omega, by omega, rfl, rfl, rfl, by rw [hSe, List.length_map, pickS_map]⟩) (show D.lst _ = .lst (((pickS (tk t 5).2 r (min (tk t 5).1.toNat r.length)).1.map sqK).map tD) by rw [List.length_map, pickS_map, List.map_map]; rfl) rfl) (fun _ z hz => by obtain ⟨p, _, rfl⟩ := List.mem_map.mp hz; exact fun z => by cases z)) |> EvMI.castR (by rw [map_sort, hSe])) (t_one 4 sc.nd) (fun _ _ => trivial) ⟨_, _, rfl⟩ ?_ ?_)
  · rintro done p post hsp ρ' ⟨u4, u5, rfl⟩
    have hdn : done.length ≤ 5 := by rw [hsp, List.length_append] at s3; omega
    obtain ⟨st, hst⟩ : ∃ st, st = done.foldl someStep ([], S.2) := ⟨_, rfl⟩
    obtain ⟨i1, i2⟩ := steps_ok (r := r) (step := someStep) (fun st done p m _ a b => someStep_ok a b) (t0 := S.2) done 200 (fun q hq => s2 q (by rw [hsp]; exact List.mem_append_left _ hq)) (s4.mono (by omega))
    rw [← hst] at i1 i2
    have hnx : (done ++ [p]).foldl someStep ([], S.2) = someStep st p := by rw [List.foldl_append, hst]; rfl
    rw [hnx, ← hst]
    obtain ⟨a, ha⟩ : ∃ a, a = tk st.2 4 := ⟨_, rfl⟩
    obtain ⟨b, hb⟩ : ∃ b, b = tk a.2 12 := ⟨_, rfl⟩
    have ra := tk_rng (t := st.2) (n := 4) (by decide)
    rw [← ha] at ra
    have oa : okT 199 a.2 := by rw [ha]; exact tk_ok i2
    have ob : okT 198 b.2 := by rw [hb]; exact tk_ok oa
    obtain ⟨c, hc⟩ : ∃ c, c = (1 + a.1 - (if b.1 = 0 then 1 else 0)).toNat := ⟨_, rfl⟩
    have hcI : (1 + a.1 - (if b.1 = 0 then 1 else 0)) = (c : Int) := by rw [hc]; split <;> omega
    have hcle : c ≤ 4 := by
      have : (c : Int) ≤ 4 := by rw [← hcI]; split <;> omega
      omega
    have hse : someStep st p = (st.1 ++ [(p, iSort (pickS b.2 five (min c 5)).1)], (pickS b.2 five (min c 5)).2.2) := by rw [hc, hb, ha]; rfl
    rw [hse]
    refine x_cons (s_asgM (k := .st) (d := .lst ((pickS b.2 five (min c 5)).1.map .int)) 5 sc.nd (EvM.castE (m_callM (d := .lst (pickS b.2 (five.map D.int) (min c (five.map D.int).length)).1) (tin' := t3 (pickS b.2 five (min c 5)).2.2) 0 (law_pick_ok T) hr rfl (ma_cons (m_e (e_lst (a_cons e_int (a_cons e_int (a_cons e_int (a_cons e_int (a_cons e_int a_nil))))))) (ma_cons (EvM.castE (m_sub (m_add (m_e e_int) (m_callM (d := .int a.1) (tin' := t3 a.2) 0 (law_take_ok T) hr rfl (ma_cons (m_e e_int) ma_nil) rfl ⟨st.2, 4, i2.mono (by decide), by decide, by decide, rfl, rfl, by rw [ha], by rw [← ha]⟩)) (m_intB T.int (m_eqI (i := b.1) (j := 0) (m_callM (tin' := t3 b.2) 0 (law_take_ok T) hr rfl (ma_cons (m_e e_int) ma_nil) rfl ⟨a.2, 12, oa.mono (by decide), by decide, by decide, rfl, rfl, by rw [hb], by rw [← hb]⟩) (m_e e_int)))) (show D.int _ = .int (c : Int) by rw [← hcI]; simp) rfl) ma_nil)) rfl ⟨b.2, five.map D.int, c, ob.mono (by decide), by decide, by omega, rfl, rfl, rfl, by rw [pickS_map]; rfl⟩) (by rw [pickS_map]; rfl) rfl) ?_)
    refine x_one (s_append (d := letD (p, iSort (pickS b.2 five (min c 5)).1)) 3 rfl (e_tup (a_cons (e_var 4 rfl) (a_cons (e_tupleOf T.tuple (e_sortI T.sorted (e_var 5 rfl))) a_nil))) ?_ ?_)
    · refine ⟨.dat (sqD p), .dat (.lst ((pickS b.2 five (min c 5)).1.map .int)), ?_⟩
      dsimp only
      rw [List.map_append]; rfl
    · have := congrArg List.length i1.sqs
      rw [List.length_map] at this
      rw [List.length_map]
      unfold sizeLine; omega
  · rintro ρ' ⟨u4, u5, rfl⟩
    exact x_one (s_ret (e_tupleOfS T.tuple (e_own 3 rfl)) ⟨rfl, rfl⟩)
theorem law_told_lets_ok (T : Tp K mg) : FnI P w K mg bs 3 "_law_told_lets" ["_law_tin", "_law_ground", "_law_laid_so", "_law_count_so"] (spM 4 fun tin ds d tin' => ∃ (t : T3) (r : List Sq) (laid : List Int), SR r ∧ r.length ≤ 90 ∧ laid.length = r.length ∧ (∀ p ∈ r, at0 (r.zip laid) p ∈ five) ∧ okT 300 t ∧ tin = t3 t ∧ ds = [roomD r, tD laid, .int 5] ∧ d = letsS (toldM t r laid).1 ∧ tin' = t3 (toldM t r laid).2) := by
  have sc : FnScope ["_law_tin", "_law_ground", "_law_laid_so", "_law_count_so", "_law_kinds_so", "_law_found", "_law_spot"] ["_law_tin", "_law_ground", "_law_laid_so", "_law_count_so"] (defScope (topS 87)) := ⟨rfl, rfl, rfl, by decide +kernel, rfl, by decide +kernel, by decide +kernel⟩
  refine fn_mut T.law_told_lets sc (fun _ _ _ _ _ _ us hl => match us, hl with | [_, _, _, _], _ => rfl) ?_
  rintro f cdv A outer s H E hr bb tin ds d tin' hl ⟨t, r, laid, sr, r90, ll, h5, ok, rfl, rfl, rfl, rfl⟩
  have h24 : (2 : Nat) ^ 24 = 16777216 := by decide
  have rn := tk_rng (t := t) (n := 6) (by decide)
  have on := tk_ok (n := 6) (m := 299) ok
  obtain ⟨S, hS⟩ : ∃ S, S = spotsM t r 5 := ⟨_, rfl⟩
  obtain ⟨s1, s2, s3, s4⟩ := spotsM_ok (m := 293) (c := 5) sr.nd (by decide) ok
  have hSe : S = (sSort (pickS (tk t 6).2 r (min (tk t 6).1.toNat r.length)).1, (pickS (tk t 6).2 r (min (tk t 6).1.toNat r.length)).2.2) := by rw [hS]; rfl
  rw [← hS] at s1 s2 s3 s4
  have hM : toldM t r laid = S.1.foldl (toldStep r laid) ([], S.2) := by rw [hS]; rfl
  rw [hM]
  refine x_cons (s_disp2 (i := 4) (j := 5) (l := [(4, .fr, ahD (r.zip laid)), (5, .fr, .lst [])]) rfl sc.nd (dp 4 (Ev.cast (e_dictZip rfl (rm64 hr) T.dict T.zip (Ev.cast (e_var 1 rfl) (roomK r)) (e_var 2 rfl) (sq_nd sr.nd)) (zipAh r laid)) (dp 5 (e_lst a_nil) dp_nil)) ?_)
  rintro _ ⟨c4, c5, rfl⟩
  refine x_freeze 4 rfl ?_
  refine x_cons (s_forM (l := S.1) (f := sqD) (.one 6) (fun done ρ' => ∃ u6, ρ' = [.own true bb (.lst (t3 (done.foldl (toldStep r laid) ([], S.2)).2)), .dat (roomD r), .dat (tD laid), .dat (.int 5), .dat (ahD (r.zip laid)), .own false c5 (.lst ((done.foldl (toldStep r laid) ([], S.2)).1.map letD)), u6]) rfl (mi_list (k := .fr) (m_sortL (ks := (pickS (tk t 6).2 r (min (tk t 6).1.toNat r.length)).1.map sqK) rfl (rm64 hr) T.sorted (EvM.castE (m_callM (d := .lst (pickS (tk t 6).2 (r.map sqD) (min (tk t 6).1.toNat (r.map sqD).length)).1) (tin' := t3 S.2) 0 (law_pick_ok T) hr rfl (ma_cons (m_e (e_listOf T.list (e_var 1 rfl))) (ma_cons (EvM.castE (m_callM (d := .int (tk t 6).1) (tin' := t3 (tk t 6).2) 0 (law_take_ok T) hr rfl (ma_cons (m_e (e_add (e_var 3 rfl) e_int)) ma_nil) rfl ⟨t, 6, ok.mono (by decide), by decide, by decide, rfl, rfl, rfl, rfl⟩) (show D.int (tk t 6).1 = .int (((tk t 6).1.toNat : Nat) : Int) by rw [show (((tk t 6).1.toNat : Nat) : Int) = (tk t 6).1 by omega]) rfl) ma_nil)) rfl ⟨(tk t 6).2, r.map sqD, (tk t 6).1.toNat, on.mono (by decide), by rw [List.length_map]; omega, by omega, rfl, rfl, rfl, by rw [hSe, List.length_map, pickS_map]⟩) (show D.lst _ = .lst (((pickS (tk t 6).2 r (min (tk t 6).1.toNat r.length)).1.map sqK).map tD) by rw [List.length_map, pickS_map, List.map_map]; rfl) rfl) (fun _ z hz => by obtain ⟨p, _, rfl⟩ := List.mem_map.mp hz; exact fun z => by cases z)) |> EvMI.castR (by rw [map_sort, hSe])) (t_one 6 sc.nd) (fun _ _ => trivial) ⟨_, rfl⟩ ?_ ?_)
  · rintro done p post hsp ρ' ⟨u6, rfl⟩
    have hpr : p ∈ r := s2 p (by rw [hsp]; simp)
    have hdn : done.length ≤ 5 := by rw [hsp, List.length_append] at s3; omega
    obtain ⟨st, hst⟩ : ∃ st, st = done.foldl (toldStep r laid) ([], S.2) := ⟨_, rfl⟩
    obtain ⟨i1, i2⟩ := steps_ok (r := r) (step := toldStep r laid) (fun st done p m hp a b => toldStep_ok (h5 p hp) a b) (t0 := S.2) done 200 (fun q hq => s2 q (by rw [hsp]; exact List.mem_append_left _ hq)) (s4.mono (by omega))
    rw [← hst] at i1 i2
    have hnx : (done ++ [p]).foldl (toldStep r laid) ([], S.2) = toldStep r laid st p := by rw [List.foldl_append, hst]; rfl
    rw [hnx, ← hst]
    obtain ⟨a, ha⟩ : ∃ a, a = tk st.2 3 := ⟨_, rfl⟩
    have oa : okT 199 a.2 := by rw [ha]; exact tk_ok i2
    have hat : getT ((r.zip laid).map fun q => (sqK q.1, D.int q.2)) (sqK p) = some (.int (at0 (r.zip laid) p)) := ah_at (lookA_mem.mpr (by rw [zip_keys ll]; exact hpr))
    have hsz : (st.1.map letD).length < sizeLine := by
      have := congrArg List.length i1.sqs
      rw [List.length_map] at this
      rw [List.length_map]
      unfold sizeLine; omega
    obtain ⟨v, t', hv⟩ : ∃ v t', (v, t') = if a.1 = 0 then ((tk a.2 5).1, (tk a.2 5).2) else (at0 (r.zip laid) p, a.2) := ⟨_, _, rfl⟩
    have hse : toldStep r laid st p = (st.1 ++ [(p, iSet [at0 (r.zip laid) p, v])], t') := by
      unfold toldStep
      dsimp only
      rw [← ha]
      split
      · rename_i z; rw [if_pos z] at hv; rw [(Prod.mk.inj hv).1, (Prod.mk.inj hv).2]
      · rename_i z; rw [if_neg z] at hv; rw [(Prod.mk.inj hv).1, (Prod.mk.inj hv).2]
    rw [hse]
    refine x_one (s_appendM (k := .st) (d := letD (p, iSet [at0 (r.zip laid) p, v])) 5 rfl (m_tup (ma_cons (m_e (e_var 6 rfl)) (ma_cons (m_tupleOf T.tuple (m_sortSetI (ns := [at0 (r.zip laid) p, v]) rfl T.sorted T.set (m_lst (ma_cons (m_e (e_dget (rm1 hr) (e_var 4 rfl) (e_var 6 rfl) hat)) (ma_cons (m_if (k := .st) (bb := decide (a.1 = 0)) (d := .int v) (ρ2 := [.own true bb (.lst (t3 t')), .dat (roomD r), .dat (tD laid), .dat (.int 5), .dat (ahD (r.zip laid)), .own false c5 (.lst (st.1.map letD)), .dat (sqD p)]) (mb_eqI (i := a.1) (j := 0) (m_callM (tin' := t3 a.2) 0 (law_take_ok T) hr rfl (ma_cons (m_e e_int) ma_nil) rfl ⟨st.2, 3, i2.mono (by decide), by decide, by decide, rfl, rfl, by rw [ha], by rw [← ha]⟩) (m_e e_int)) (fun z => ?_) fun z => ?_) ma_nil))) (Nat.le_of_ble_eq_true rfl))) ma_nil))) rfl ?_ hsz)
    · have z : a.1 = 0 := of_decide_eq_true z
      rw [if_pos z] at hv
      exact EvM.castE (m_callM (d := .int (tk a.2 5).1) (tin' := t3 (tk a.2 5).2) 0 (law_take_ok T) hr rfl (ma_cons (m_e e_int) ma_nil) rfl ⟨a.2, 5, oa.mono (by decide), by decide, by decide, rfl, rfl, rfl, rfl⟩) (by rw [(Prod.mk.inj hv).1]) (by rw [(Prod.mk.inj hv).2]; rfl)
    · have z : ¬ a.1 = 0 := of_decide_eq_false z
      rw [if_neg z] at hv
      exact EvM.castE (m_e (e_dget (rm1 hr) (e_var 4 rfl) (e_var 6 rfl) hat)) (by rw [(Prod.mk.inj hv).1]) (by rw [(Prod.mk.inj hv).2]; rfl)
    · refine ⟨.dat (sqD p), ?_⟩
      dsimp only
      rw [List.map_append]; rfl
  · rintro ρ' ⟨u6, rfl⟩
    exact x_one (s_ret (e_tupleOfS T.tuple (e_own 5 rfl)) ⟨rfl, rfl⟩)
theorem law_lets_drawn_ok (T : Tp K mg) : FnI P w K mg bs 4 "_law_lets_drawn" ["_law_tin", "_law_ground", "_law_all_so"] (spM 3 fun tin ds d tin' => ∃ (t : T3) (r : List Sq) (all : List (List Int)), SR r ∧ r.length ≤ 90 ∧ all ≠ [] ∧ all.length < 1000000 ∧ (∀ own ∈ all, own.length = r.length ∧ ∀ p ∈ r, at0 (r.zip own) p ∈ five) ∧ okT 302 t ∧ tin = t3 t ∧ ds = [roomD r, rowsD all] ∧ d = letsS (drawnM t r all).1 ∧ tin' = t3 (drawnM t r all).2) := by
  have sc : FnScope ["_law_tin", "_law_ground", "_law_all_so"] ["_law_tin", "_law_ground", "_law_all_so"] (defScope (topS 88)) := ⟨rfl, rfl, rfl, by decide +kernel, rfl, by decide +kernel, by decide +kernel⟩
  refine fn_mut T.law_lets_drawn sc (fun _ _ _ _ _ _ us hl => match us, hl with | [_, _, _], _ => rfl) ?_
  rintro f cdv A outer s H E hr bb tin ds d tin' hl ⟨t, r, all, sr, r90, ne, la, hall, ok, rfl, rfl, rfl, rfl⟩
  have o1 := tk_ok (n := 3) (m := 301) ok
  refine x_cons (s_ifM (bb := decide ((tk t 3).1 = 0)) (mb_eqI (i := (tk t 3).1) (j := 0) (m_callM (tin' := t3 (tk t 3).2) 0 (law_take_ok T) hr rfl (ma_cons (m_e e_int) ma_nil) rfl ⟨t, 3, ok.mono (by decide), by decide, by decide, rfl, rfl, rfl, rfl⟩) (m_e e_int)) (fun z => ?_) fun z => x_nil ?_)
  · have hd : drawnM t r all = someM (tk t 3).2 r := by unfold drawnM; dsimp only; rw [if_pos (of_decide_eq_true z)]
    rw [hd]
    exact x_one (s_retM (m_callM (d := letsS (someM (tk t 3).2 r).1) (tin' := t3 (someM (tk t 3).2 r).2) 0 (law_some_lets_ok T) hr rfl (ma_cons (m_e (e_var 1 rfl)) (ma_cons (m_e e_int) ma_nil)) rfl ⟨(tk t 3).2, r, sr, r90, o1.mono (by decide), rfl, rfl, rfl, rfl⟩) ⟨rfl, rfl⟩)
  · obtain ⟨own, ho, hm⟩ := tk_at (l := all) (t := (tk t 3).2) (List.length_pos_iff.mpr ne)
    have hd : drawnM t r all = toldM (tk (tk t 3).2 (all.length : Nat)).2 r own := by unfold drawnM; dsimp only; rw [if_neg (of_decide_eq_false z), ho]; rfl
    rw [hd]
    have o2 := tk_ok (n := ((all.length : Nat) : Int)) (m := 300) o1
    refine x_one (s_retM (m_callM (d := letsS (toldM (tk (tk t 3).2 (all.length : Nat)).2 r own).1) (tin' := t3 (toldM (tk (tk t 3).2 (all.length : Nat)).2 r own).2) 0 (law_told_lets_ok T) hr rfl (ma_cons (m_e (e_var 1 rfl)) (ma_cons (m_callM (d := tD own) (tin' := t3 (tk (tk t 3).2 (all.length : Nat)).2) 0 (law_of_ok T) hr rfl (ma_cons (m_e (e_var 2 rfl)) ma_nil) rfl ⟨(tk t 3).2, _, all.map tD, o1.mono (by decide), .lst _, by rw [List.length_map]; exact List.length_pos_iff.mpr ne, by rw [List.length_map]; omega, rfl, rfl, by rw [List.length_map, List.getElem?_map, ho]; rfl, by rw [List.length_map]⟩) (ma_cons (m_e e_int) ma_nil))) rfl ⟨(tk (tk t 3).2 (all.length : Nat)).2, r, own, sr, r90, (hall own hm).1, (hall own hm).2, o2, rfl, rfl, rfl, rfl⟩) ⟨rfl, rfl⟩)
end
end TR
/-! ## E17 -/
set_option Elab.async false
set_option linter.all false
set_option maxRecDepth 100000
set_option maxHeartbeats 4000000
namespace TR
open PySem L2
abbrev Rows := List (List Int)
/-! ### bent reaches -/
def bD (q : Bool × Rows) : D := if q.1 then .lst (q.2.map tD) else rtD q.2
def bend (kind : Int) (bit : Rows) : Bool × Rows :=
  if kind = 0 ∧ bit ≠ [] then (false, bit.drop 1)
  else if kind = 1 ∧ bit ≠ [] then (false, bit ++ bit.take 1)
  else if kind = 3 ∧ bit ≠ [] ∧ bit.headD [] ≠ [] then (false, ((((bit.headD []).headD 0 + 1) % 5) :: (bit.headD []).drop 1) :: bit.drop 1)
  else if kind = 4 then (true, bit) else (false, bit)
def bentL (t : T3) (m : List Rows) : List (Bool × Rows) :=
  let a := tk t 6
  let k := (tk a.2 (m.length : Nat)).1.toNat
  if a.1 = 2 then (m.take k ++ m.drop (k + 1)).map (fun r => (false, r))
  else (m.take k).map (fun r => (false, r)) ++ [bend a.1 (m[k]?.getD [])] ++ (m.drop (k + 1)).map (fun r => (false, r))
def bentT (t : T3) (m : List Rows) : T3 := (tk (tk t 6).2 (m.length : Nat)).2
section
variable {α β : Type} [DecidableEq α]
theorem same_map {f : α → D} {g : β → D} {φ : β → α} (h : ∀ a b, sameD (f a) (g b) = decide (a = φ b)) : ∀ (l : List α) (m : List β), sameDs (l.map f) (m.map g) = decide (l = m.map φ)
  | [], [] => by simp [sameDs]
  | [], b :: m => by simp [sameDs]
  | a :: l, [] => by simp [sameDs]
  | a :: l, b :: m => by
    rw [List.map_cons, List.map_cons, sameDs, same_map h l m, h, List.map_cons]
    by_cases e : a = φ b <;> by_cases e2 : l = m.map φ <;> simp [e, e2]
theorem eqv_map2 {f : α → D} {g : β → D} {φ : β → α} (h : ∀ a b, eqD (f a) (g b) = decide (a = φ b)) : ∀ (l : List α) (m : List β), PyData.eqvAll (toPys (l.map f)) (toPys (m.map g)) = decide (l = m.map φ)
  | [], [] => by simp [toPys, PyData.eqvAll]
  | [], b :: m => by simp [toPys, PyData.eqvAll]
  | a :: l, [] => by simp [toPys, PyData.eqvAll]
  | a :: l, b :: m => by
    show PyData.eqvAll (toPy (f a) :: toPys (l.map f)) (toPy (g b) :: toPys (m.map g)) = _
    rw [PyData.eqvAll, eqv_map2 h l m, show (toPy (f a)).eqv (toPy (g b)) = decide (a = φ b) from h a b, List.map_cons]
    by_cases e : a = φ b <;> by_cases e2 : l = m.map φ <;> simp [e, e2]
end
theorem okS_map {α β : Type} {f : α → D} {g : β → D} (h : ∀ a b, okS (f a) (g b) = true) : ∀ (l : List α) (m : List β), okSs (l.map f) (m.map g) = true
  | [], _ => by cases ‹List β› <;> rfl
  | a :: l, [] => rfl
  | a :: l, b :: m => by rw [List.map_cons, List.map_cons, okSs, h a b, okS_map h l m]; rfl
theorem same_int (a b : Int) : sameD (.int a) (.int b) = decide (a = id b) := rfl
theorem same_tD (a b : List Int) : sameD (tD a) (tD b) = decide (a = id b) := by
  show sameDs (a.map .int) (b.map .int) = _
  rw [same_map same_int, List.map_id]; rfl
theorem same_rt (a b : Rows) : sameD (rtD a) (rtD b) = decide (a = b) := by
  show sameDs (a.map tD) (b.map tD) = _
  rw [same_map same_tD, List.map_id]
theorem same_b (q : Bool × Rows) (l : Rows) : sameD (bD q) (rtD l) = decide (q = (false, l)) := by
  obtain ⟨b, r⟩ := q
  cases b with
  | true => exact (decide_eq_false fun z => by cases z).symm
  | false =>
    show sameD (rtD r) (rtD l) = _
    rw [same_rt, decide_eq_decide]
    exact ⟨fun z => by rw [z], fun z => (Prod.mk.inj z).2⟩
def flatB (m : List Rows) : List (Bool × Rows) := m.map fun r => (false, r)
theorem same_bent (L : List (Bool × Rows)) (m : List Rows) : sameD (.tup (L.map bD)) (rchD m) = decide (L = flatB m) := same_map (φ := fun r => (false, r)) same_b L m
theorem eq_b (q : Bool × Rows) (l : Rows) : eqD (bD q) (rtD l) = decide (q = (false, l)) := by
  obtain ⟨b, r⟩ := q
  cases b with
  | true =>
    rw [decide_eq_false fun z => by cases z]
    show PyData.eqv (.list _) (.tuple _) = false
    rw [PyData.eqv]
    all_goals (intros; first | contradiction | (intro z; cases z))
  | false =>
    show eqD (rtD r) (rtD l) = _
    rw [show eqD (rtD r) (rtD l) = decide (r = l) from eq_tup eq_tD r l, decide_eq_decide]
    exact ⟨fun z => by rw [z], fun z => (Prod.mk.inj z).2⟩
theorem eq_bent (L : List (Bool × Rows)) (m : List Rows) : eqD (.tup (L.map bD)) (rchD m) = decide (L = flatB m) := by
  show PyData.eqv (.tuple _) (.tuple _) = _
  rw [PyData.eqv]; exact eqv_map2 (φ := fun r => (false, r)) eq_b L m
theorem okS_int (a b : Int) : okS (.int a) (.int b) = true := by simp [okS]
theorem okS_tD (a b : List Int) : okS (tD a) (tD b) = true := by
  show okS (.tup _) (.tup _) = true
  rw [okS]; exact okS_map okS_int a b
theorem okS_b (q : Bool × Rows) (l : Rows) : okS (bD q) (rtD l) = true := by
  obtain ⟨b, r⟩ := q
  cases b with
  | true => show okS (.lst _) (.tup _) = true; simp [okS]
  | false =>
    show okS (.tup _) (.tup _) = true
    rw [okS]; exact okS_map okS_tD r l
theorem okS_bent (L : List (Bool × Rows)) (m : List Rows) : okS (.tup (L.map bD)) (rchD m) = true := by
  show okS (.tup _) (.tup _) = true
  rw [okS]; exact okS_map okS_b L m
theorem areRows_rch (m : List Rows) : areRows (rchD m) = true := by
  unfold areRows
  have h1 : (items (rchD m)).all isTup = true := by
    show ((m.map rtD).all isTup) = true
    rw [List.all_map]; exact List.all_eq_true.mpr fun _ _ => rfl
  have h2 : ((flatI (rchD m)).all fun row => isTup row && (items row).all isNum) = true := by
    rw [List.all_eq_true]
    intro row hrow
    obtain ⟨l, hl, hr⟩ := List.mem_flatten.mp hrow
    obtain ⟨rows, hrows, rfl⟩ := List.mem_map.mp hl
    obtain ⟨r, hr0, rfl⟩ := List.mem_map.mp hrows
    obtain ⟨x, _, rfl⟩ := List.mem_map.mp (show row ∈ r.map tD from hr)
    show (true && (x.map D.int).all isNum) = true
    rw [List.all_map, Bool.true_and]; exact List.all_eq_true.mpr fun _ _ => rfl
  rw [h1, h2]; rfl
theorem is_bent (L : List (Bool × Rows)) (m : List Rows) : (areRows (.tup (L.map bD)) && eqD (.tup (L.map bD)) (rchD m)) = sameD (.tup (L.map bD)) (rchD m) := by
  rw [eq_bent, same_bent]
  by_cases h : L = flatB m
  · have e : D.tup (L.map bD) = rchD m := by rw [h]; unfold flatB rchD; rw [List.map_map]; rfl
    rw [e, areRows_rch]; rfl
  · rw [decide_eq_false h, Bool.and_false]
theorem pl_b (q : Bool × Rows) : Pl 2 (bD q) := by
  obtain ⟨b, r⟩ := q
  cases b with
  | true => exact pl_lst pl_tD r
  | false => exact pl_tup pl_tD r
theorem flat_bent (L : List (Bool × Rows)) (n : Nat) (h : ∀ q ∈ L, q.2.length ≤ n) : (flatI (.tup (L.map bD))).length ≤ L.length * n := by
  show (((L.map bD).map items).flatten).length ≤ _
  induction L with
  | nil => simp
  | cons q L ih =>
    rw [List.map_cons, List.map_cons, List.flatten_cons, List.length_append, List.length_cons, Nat.succ_mul]
    have h1 := ih fun q hq => h q (List.mem_cons_of_mem _ hq)
    have h2 : (items (bD q)).length ≤ n := by
      have := h q (by simp)
      obtain ⟨b, r⟩ := q
      cases b with
      | true => exact Nat.zero_le _
      | false => show (r.map tD).length ≤ n; rw [List.length_map]; exact this
    omega
theorem bend_len (k : Int) (bit : Rows) : (bend k bit).2.length ≤ bit.length + 1 := by
  unfold bend
  split
  · show (bit.drop 1).length ≤ _; rw [List.length_drop]; omega
  · split
    · show (bit ++ bit.take 1).length ≤ _; rw [List.length_append, List.length_take]; omega
    · split
      · show (_ :: bit.drop 1).length ≤ _; rw [List.length_cons, List.length_drop]; omega
      · split <;> (show bit.length ≤ _; omega)
theorem bentL_len {t : T3} {m : List Rows} : (bentL t m).length ≤ m.length + 1 := by
  unfold bentL
  dsimp only
  split
  · rw [List.length_map, List.length_append, List.length_take, List.length_drop]; omega
  · rw [List.length_append, List.length_append, List.length_map, List.length_map, List.length_take, List.length_drop]
    simp
    omega
theorem bentL_row {t : T3} {m : List Rows} {n : Nat} (h : ∀ r ∈ m, r.length ≤ n) : ∀ q ∈ bentL t m, q.2.length ≤ n + 1 := by
  intro q hq
  unfold bentL at hq
  dsimp only at hq
  have get : ∀ (k : Nat), (m[k]?.getD []).length ≤ n := fun k => by
    cases e : m[k]? with
    | none => exact Nat.zero_le _
    | some r => exact h r (List.mem_of_getElem? e)
  have flat : ∀ l : List Rows, (∀ r ∈ l, r ∈ m) → ∀ q ∈ l.map (fun r => (false, r)), q.2.length ≤ n + 1 := fun l hl q hq => by
    obtain ⟨r, hr, rfl⟩ := List.mem_map.mp hq
    have := h r (hl r hr)
    show r.length ≤ _; omega
  split at hq
  · refine flat _ (fun r hr => ?_) q hq
    rcases List.mem_append.mp hr with hr | hr
    · exact List.mem_of_mem_take hr
    · exact List.mem_of_mem_drop hr
  · rcases List.mem_append.mp hq with hq | hq
    · rcases List.mem_append.mp hq with hq | hq
      · exact flat _ (fun r hr => List.mem_of_mem_take hr) q hq
      · rw [List.mem_singleton.mp hq]
        have h1 := bend_len (tk t 6).1 (m[(tk (tk t 6).2 (m.length : Nat)).1.toNat]?.getD [])
        have h2 := get (tk (tk t 6).2 (m.length : Nat)).1.toNat
        omega
    · exact flat _ (fun r hr => List.mem_of_mem_drop hr) q hq
theorem cut_take {l : List D} {k : Nat} (h : k ≤ l.length) : cutD l none (some (k : Int)) = l.take k := by
  unfold cutD
  rw [HT.sIx_none, HT.sIx_nat, Nat.min_eq_left h, List.drop_zero, Nat.sub_zero]
theorem cut_drop {l : List D} {k : Nat} (h : k ≤ l.length) : cutD l (some (k : Int)) none = l.drop k := by
  unfold cutD
  rw [HT.sIx_none, HT.sIx_nat, Nat.min_eq_left h]
  exact List.take_of_length_le (by rw [List.length_drop]; exact Nat.le_refl _)
theorem enum_tail (bit : Rows) : (((List.range bit.length).zip bit).filter fun q => !decide ((q.1 : Int) = 0)).map (fun q => tD q.2) = (bit.drop 1).map tD := by
  cases bit with
  | nil => rfl
  | cons r bit =>
    rw [List.length_cons, List.range_succ_eq_map, List.zip_cons_cons, List.filter_cons]
    simp only [Int.ofNat_zero, decide_true, Bool.not_true, Bool.false_eq_true, if_false]
    rw [List.filter_eq_self.mpr]
    · rw [show (fun q : Nat × List Int => tD q.2) = tD ∘ (fun q : Nat × List Int => q.2) from rfl, ← List.map_map, List.map_snd_zip (by simp)]; rfl
    · intro q hq
      have := (List.of_mem_zip (a := q.1) (b := q.2) hq).1
      obtain ⟨i, _, e⟩ := List.mem_map.mp this
      simp
      omega
end TR
/-! ## E18 -/
set_option Elab.async false
set_option linter.all false
set_option maxRecDepth 100000
set_option maxHeartbeats 4000000
namespace TR
open PySem L2
section
variable {P : Program} {w : World} {K : PySem.W.Frag} {mg : Str → Option Value} {bs : Heap}
theorem law_bent_ok (T : Tp K mg) : FnI P w K mg bs 2 "_law_bent" ["_law_tin", "_law_matter"] (spM 2 fun tin ds d tin' => ∃ (t : T3) (m : List Rows), m ≠ [] ∧ m.length ≤ 1000 ∧ (∀ r ∈ m, r.length ≤ 10000) ∧ (∀ r ∈ m, ∀ row ∈ r, row.length ≤ 1000) ∧ okT 2 t ∧ tin = t3 t ∧ ds = [rchD m] ∧ d = .tup ((bentL t m).map bD) ∧ tin' = t3 (bentT t m)) := by
  have sc : FnScope ["_law_tin", "_law_matter", "_law_kind_so", "_law_k", "_law_bit_so", "_law_n", "_law_own"] ["_law_tin", "_law_matter"] (defScope (topS 91)) := ⟨rfl, rfl, rfl, by decide +kernel, rfl, by decide +kernel, by decide +kernel⟩
  refine fn_mut T.law_bent sc (fun _ _ _ _ _ _ us hl => match us, hl with | [_, _], _ => rfl) ?_
  rintro f cdv A outer s H E hr bb tin ds d tin' hl ⟨t, m, ne, m1000, hrl, hrw, ok, rfl, rfl, rfl, rfl⟩
  have h24 : (2 : Nat) ^ 24 = 16777216 := by decide
  have hm0 : 0 < m.length := List.length_pos_iff.mpr ne
  obtain ⟨a, ha⟩ : ∃ a, a = tk t 6 := ⟨_, rfl⟩
  obtain ⟨b, hb⟩ : ∃ b, b = tk a.2 (m.length : Nat) := ⟨_, rfl⟩
  have o1 : okT 1 a.2 := by rw [ha]; exact tk_ok ok
  have rb := tk_rng (t := a.2) (n := ((m.length : Nat) : Int)) (by omega)
  rw [← hb] at rb
  obtain ⟨k, hk⟩ : ∃ k, k = b.1.toNat := ⟨_, rfl⟩
  have hkm : k < m.length := by omega
  have hbI : b.1 = (k : Int) := by omega
  obtain ⟨bit, hbit⟩ : ∃ bit, m[k]? = some bit := ⟨_, List.getElem?_eq_getElem hkm⟩
  have hbm : bit ∈ m := List.mem_of_getElem? hbit
  have hT : bentT t m = b.2 := by rw [hb, ha]; rfl
  have hL : bentL t m = if a.1 = 2 then (m.take k ++ m.drop (k + 1)).map (fun r => (false, r)) else (m.take k).map (fun r => (false, r)) ++ [bend a.1 bit] ++ (m.drop (k + 1)).map (fun r => (false, r)) := by
    unfold bentL
    dsimp only
    rw [← ha, ← hb, ← hk, hbit]; rfl
  rw [hT, hL]
  have hlm : k ≤ (m.map rtD).length := by rw [List.length_map]; omega
  have hlm1 : k + 1 ≤ (m.map rtD).length := by rw [List.length_map]; omega
  have flatb : ∀ l : List Rows, (l.map fun r => ((false, r) : Bool × Rows)).map bD = l.map rtD := fun l => by rw [List.map_map]; rfl
  refine x_cons (s_par2M (i := 2) (j := 3) (d1 := .int a.1) (d2 := .int (k : Int)) rfl sc.nd (ma_cons (m_callM (tin' := t3 a.2) 0 (law_take_ok T) hr rfl (ma_cons (m_e e_int) ma_nil) rfl ⟨t, 6, ok.mono (by decide), by decide, by decide, rfl, rfl, by rw [ha], by rw [← ha]⟩) (ma_cons (m_callM (tin' := t3 b.2) 0 (law_take_ok T) hr rfl (ma_cons (m_e (Ev.cast (e_len T.len (e_var 1 rfl) (.tup _)) (congrArg D.int (show (((m.map rtD).length : Nat) : Int) = ((m.length : Nat) : Int) by rw [List.length_map])))) ma_nil) rfl ⟨a.2, (m.length : Nat), o1, by omega, by omega, rfl, rfl, by rw [← hbI, hb], by rw [← hb]⟩) ma_nil)) ?_)
  refine x_cons (s_asg (d := rtD bit) 4 sc.nd (e_ix (e_var 1 rfl) (e_var 3 rfl) (at_pos (k := k) (by rw [List.getElem?_map, hbit]; rfl) rfl) (.tup _)) ?_)
  have neb : (!eqD (rtD bit) (.tup [])) = !decide (bit = []) := congrArg Bool.not (eq_tup eq_tD bit [])
  have shb : shp (rtD bit) = true := (pl_tup pl_tD bit).shp
  have hbl := hrl bit hbm
  refine x_cut (fun ρ' => ∃ u5 u6, a.1 ≠ 2 ∧ ρ' = [.own true bb (.lst (t3 b.2)), .dat (rchD m), .dat (.int a.1), .dat (.int (k : Int)), .dat (bD (bend a.1 bit)), u5, u6]) (s_if (p := decide (a.1 = 0) && !decide (bit = [])) (EvW.toB (w_and (b_c (c_eqI (i := a.1) (e_var 2 rfl) e_int)) fun _ => (w_and1 (EvB.cast (b_c (c_neD (rm64 hr) (e_var 4 rfl) (e_tup a_nil) shb rfl)) neb)))) (fun z => ?_) fun z => ?_) ?_
  · have z : a.1 = 0 ∧ bit ≠ [] := by simpa using z
    have hbe : bend a.1 bit = (false, bit.drop 1) := by unfold bend; rw [if_pos z]
    rw [hbe]
    exact x_one (s_asg (d := rtD (bit.drop 1)) 4 sc.nd (Ev.cast (e_tupleOf T.tuple (e_lc (k := .st) (own := [("_law_n", 5), ("_law_own", 6)]) (l := (List.range bit.length).zip bit) (f := fun q => .tup [.int (q.1 : Nat), tD q.2]) (p := fun q => !decide ((q.1 : Int) = 0)) (g := fun q => tD q.2) (.tup [5, 6]) rfl sc.nd (EvI.cast (i_enumT T.enumerate (e_var 4 rfl)) (enum_map tD bit)) (blkOk_by (by kernel_rfl)) (fun _ _ _ _ _ => t_two 5 6 rfl sc.nd) (fun _ _ => rfl) (by decide) (fun q _ _ _ _ _ _ => ts_one (b_c (c_neI (i := (q.1 : Nat)) (e_var 5 rfl) e_int))) (fun q _ _ _ _ _ _ _ => (e_var 6 rfl)))) (by rw [enum_tail]; rfl)) ⟨_, _, by omega, rfl⟩)
  · have z0 : ¬ (a.1 = 0 ∧ bit ≠ []) := fun q => by rw [decide_eq_true q.1, decide_eq_false q.2] at z; cases z
    refine x_one (s_if (p := decide (a.1 = 1) && !decide (bit = [])) (EvW.toB (w_and (b_c (c_eqI (i := a.1) (e_var 2 rfl) e_int)) fun _ => (w_and1 (EvB.cast (b_c (c_neD (rm64 hr) (e_var 4 rfl) (e_tup a_nil) shb rfl)) neb)))) (fun z => ?_) fun z => ?_)
    · have z : a.1 = 1 ∧ bit ≠ [] := by simpa using z
      have hbe : bend a.1 bit = (false, bit ++ bit.take 1) := by unfold bend; rw [if_neg z0, if_pos z]
      rw [hbe]
      refine x_one (s_asg (d := rtD (bit ++ bit.take 1)) 4 sc.nd (Ev.cast (e_catT (e_var 4 rfl) (e_sliceT (e_var 4 rfl) .none (.some e_int)) ?_) ?_) ⟨_, _, by omega, rfl⟩)
      · rw [show cutD (bit.map tD) none (some 1) = (bit.map tD).take 1 from cut_take (k := 1) (by rw [List.length_map]; exact List.length_pos_iff.mpr z.2), List.length_take, List.length_map]
        unfold sizeLine; omega
      · rw [show cutD (bit.map tD) none (some 1) = (bit.map tD).take 1 from cut_take (k := 1) (by rw [List.length_map]; exact List.length_pos_iff.mpr z.2)]
        unfold rtD
        rw [List.map_append, List.map_take]
    · have z1 : ¬ (a.1 = 1 ∧ bit ≠ []) := fun q => by rw [decide_eq_true q.1, decide_eq_false q.2] at z; cases z
      refine x_one (s_if (p := decide (a.1 = 2)) (b_c (c_eqI (i := a.1) (e_var 2 rfl) e_int)) (fun z => ?_) fun z => ?_)
      · have z : a.1 = 2 := of_decide_eq_true z
        rw [if_pos z]
        refine x_one (s_ret (d := .tup ((m.take k ++ m.drop (k + 1)).map rtD)) (Ev.cast (e_catT (e_sliceT (e_var 1 rfl) .none (.some (e_var 3 rfl))) (e_sliceT (e_var 1 rfl) (.some (e_add (e_var 3 rfl) e_int)) .none) ?_) ?_) ⟨by rw [flatb], rfl⟩)
        · rw [cut_take hlm, show ((k : Int) + 1) = ((k + 1 : Nat) : Int) by omega, cut_drop hlm1, List.length_take, List.length_drop, List.length_map]
          unfold sizeLine; omega
        · rw [cut_take hlm, show ((k : Int) + 1) = ((k + 1 : Nat) : Int) by omega, cut_drop hlm1, List.map_append, List.map_take, List.map_drop]
      · have z2 : a.1 ≠ 2 := of_decide_eq_false z
        have hix : ∀ h : bit ≠ [], atI (bit.map tD) 0 = some (tD (bit.headD [])) := fun h => by
          cases bit with
          | nil => exact absurd rfl h
          | cons r rest => exact at_pos (k := 0) rfl rfl
        refine x_one (s_if (p := decide (a.1 = 3) && (!decide (bit = []) && !decide (bit.headD [] = []))) (EvW.toB (w_and (b_c (c_eqI (i := a.1) (e_var 2 rfl) e_int)) fun _ => (w_and (EvB.cast (b_c (c_neD (rm64 hr) (e_var 4 rfl) (e_tup a_nil) shb rfl)) neb) fun zz => (w_and1 (EvB.cast (b_c (c_neD (rm64 hr) (e_ix (d := tD (bit.headD [])) (l := bit.map tD) (e_var 4 rfl) e_int (hix (by simpa using zz)) (.tup _)) (e_tup a_nil) (shp_tD _) rfl)) (congrArg Bool.not (eq_tD _ []))))))) (fun z => ?_) fun z => ?_)
        · have z : a.1 = 3 ∧ bit ≠ [] ∧ bit.headD [] ≠ [] := by simpa using z
          have hbe : bend a.1 bit = (false, ((((bit.headD []).headD 0 + 1) % 5) :: (bit.headD []).drop 1) :: bit.drop 1) := by unfold bend; rw [if_neg z0, if_neg z1, if_pos z]
          rw [hbe]
          cases hbc : bit with
          | nil => exact absurd hbc z.2.1
          | cons r rest =>
            rw [hbc] at z hbl
            cases hrc : r with
            | nil => exact absurd (by rw [hrc]; rfl) z.2.2
            | cons x xs =>
              have hxl : (x :: xs).length ≤ 1000 := by rw [← hrc]; exact hrw bit hbm r (by rw [hbc]; simp)
              have c1 : ∀ (y : D) (ys : List D), cutD (y :: ys) (some 1) none = ys := fun y ys => cut_drop (l := y :: ys) (k := 1) (by simp)
              refine x_one (s_asg (d := rtD (((x + 1) % 5 :: xs) :: rest)) 4 sc.nd (Ev.cast (e_catT (e_tup (a_cons (e_catT (e_tup (a_cons (e_mod (e_add (e_int1 T.int (e_ix (d := .int x) (l := (x :: xs).map .int) (e_ix (d := tD (x :: xs)) (l := ((x :: xs) :: rest).map tD) (e_var 4 rfl) e_int (at_pos (k := 0) rfl rfl) (.tup _)) e_int (at_pos (k := 0) rfl rfl) (.tup _))) e_int) e_int (by decide)) a_nil)) (e_sliceT (e_ix (d := tD (x :: xs)) (l := ((x :: xs) :: rest).map tD) (e_var 4 rfl) e_int (at_pos (k := 0) rfl rfl) (.tup _)) (.some e_int) .none) ?_) a_nil)) (e_sliceT (e_var 4 rfl) (.some e_int) .none) ?_) ?_) ⟨_, _, by omega, rfl⟩)
              · rw [List.map_cons, c1, List.length_map]
                show 1 + xs.length ≤ _
                rw [List.length_cons] at hxl
                unfold sizeLine; omega
              · rw [show cutD (((x :: xs) :: rest).map tD) (some 1) none = rest.map tD from c1 _ _, List.length_map]
                show 1 + rest.length ≤ _
                rw [List.length_cons] at hbl
                unfold sizeLine; omega
              · rw [show cutD (((x :: xs) :: rest).map tD) (some 1) none = rest.map tD from c1 _ _, show cutD ((x :: xs).map D.int) (some 1) none = xs.map .int from c1 _ _]; rfl
        · have z3 : ¬ (a.1 = 3 ∧ bit ≠ [] ∧ bit.headD [] ≠ []) := fun q => by rw [decide_eq_true q.1, decide_eq_false q.2.1, decide_eq_false q.2.2] at z; cases z
          have hbe : bend a.1 bit = if a.1 = 4 then (true, bit) else (false, bit) := by unfold bend; rw [if_neg z0, if_neg z1, if_neg z3]
          rw [hbe]
          refine x_one (s_if (p := decide (a.1 = 4)) (b_c (c_eqI (i := a.1) (e_var 2 rfl) e_int)) (fun z => ?_) fun z => ?_)
          · have z : a.1 = 4 := of_decide_eq_true z
            rw [if_pos z]
            exact x_one (s_asg (k := .fr) (d := .lst (bit.map tD)) 4 sc.nd (e_listOf T.list (e_var 4 rfl) (.tup _)) ⟨_, _, z2, rfl⟩)
          · have z : ¬ a.1 = 4 := of_decide_eq_false z
            rw [if_neg z]
            exact x_nil ⟨_, _, z2, rfl⟩
  rintro ρ' ⟨u5, u6, z2, rfl⟩
  rw [if_neg z2]
  refine x_one (s_ret (d := .tup ((m.take k).map rtD ++ [bD (bend a.1 bit)] ++ (m.drop (k + 1)).map rtD)) (Ev.cast (e_catT (e_catT (e_sliceT (e_var 1 rfl) .none (.some (e_var 3 rfl))) (e_tup (a_cons (e_var 4 rfl) a_nil)) ?_) (e_sliceT (e_var 1 rfl) (.some (e_add (e_var 3 rfl) e_int)) .none) ?_) ?_) ⟨by rw [List.map_append, List.map_append, flatb, flatb]; rfl, rfl⟩)
  · rw [cut_take hlm, List.length_take, List.length_map]
    show _ + 1 ≤ _
    unfold sizeLine; omega
  · rw [cut_take hlm, show ((k : Int) + 1) = ((k + 1 : Nat) : Int) by omega, cut_drop hlm1, List.length_append, List.length_take, List.length_drop, List.length_map]
    show _ + 1 + _ ≤ _
    unfold sizeLine; omega
  · rw [cut_take hlm, show ((k : Int) + 1) = ((k + 1 : Nat) : Int) by omega, cut_drop hlm1, List.map_take, List.map_drop]
end
end TR
/-! ## E19 -/
set_option Elab.async false
set_option linter.all false
set_option maxRecDepth 100000
set_option maxHeartbeats 4000000
namespace TR
open PySem L2
/-! ### what the walks ask of a drawn room -/
theorem cols_split {r : List Sq} {d e : List (List Sq)} {c : List Sq} (h : cols r = d ++ c :: e) : d = (List.range d.length).map (cx r) ∧ c = cx r d.length ∧ d.length < nC r := by
  rw [cols_range] at h
  have hl := congrArg List.length h
  rw [List.length_map, List.length_range, List.length_append, List.length_cons] at hl
  have h1 : ((List.range (nC r)).map (cx r))[d.length]? = some c := by rw [h, List.getElem?_append_right (Nat.le_refl _), Nat.sub_self]; rfl
  rw [List.getElem?_map, List.getElem?_range (by omega)] at h1
  refine ⟨?_, (Option.some.inj h1).symm, by omega⟩
  have h2 : ((List.range (nC r)).map (cx r)).take d.length = d := by rw [h, List.take_left']; rfl
  conv => lhs; rw [← h2]
  rw [← List.map_take, List.take_range, Nat.min_eq_left (by omega)]
theorem okCol_of {r : List Sq} (sr : SR r) {x : Int} {ah : Ah} (h : ∀ q ∈ r, q.1 = x - 1 → (lookA ah q).isSome = true) : okCol r (col r x) ah := by
  refine ⟨fun d p e hs hu z => ?_, fun p hp q hq e => h q hq ?_⟩
  · have := last_up sr hs hu
    rw [z] at this; cases this
  · have := (col_mem.mp hp).2; omega
theorem okCol_at {r : List Sq} {ls : Lets} (sr : SR r) {k : Nat} {ah : Ah} (ha : ah ∈ aheadsOf r ls k) : okCol r (cx r k) ah := by
  refine okCol_of sr fun q hq e => ?_
  cases k with
  | zero => exact (lo_none hq (by omega)).elim
  | succ k =>
    obtain ⟨k', hk', rfl⟩ := List.mem_map.mp ha
    obtain ⟨a, haR, rfl⟩ := List.mem_map.mp (setOf_mem.mp hk')
    refine lookA_mem.mpr ?_
    rw [zip_keys (by unfold key; rw [List.length_map]; exact RS_len a haR)]
    exact col_mem.mpr ⟨hq, by omega⟩
theorem asc_of {r : List Sq} (h : SR r) : ascR r = true := by
  unfold ascR
  rw [List.all_eq_true]
  intro k hk
  have hk := List.mem_range.mp hk
  have h1 : k < r.length := by omega
  have h2 : k + 1 < r.length := by omega
  rw [List.getD_eq_getElem?_getD, List.getD_eq_getElem?_getD, List.getElem?_eq_getElem h1, List.getElem?_eq_getElem h2]
  have := List.pairwise_iff_getElem.mp h k (k + 1) h1 h2 (by omega)
  show HT.lexLt [r[k].1, r[k].2] [r[k + 1].1, r[k + 1].2] = true
  rw [HT.lexLt_cons]
  split
  · rw [HT.lexLt_cons]
    split
    · omega
    · exact decide_eq_true (by omega)
  · exact decide_eq_true (by omega)
theorem okX_of {r : List Sq} (ne : r ≠ []) (h : ∀ p ∈ r, 0 ≤ p.1 ∧ p.1 ≤ 100 ∧ 0 ≤ p.2) : okX r := by
  obtain ⟨p, hp, e1⟩ := loX_mem ne
  obtain ⟨q, hq, e2⟩ := hiX_mem ne
  have := h p hp
  have := h q hq
  exact ⟨ne, by omega, by omega, by omega⟩
theorem okF_of {r : List Sq} {ls : Lets} (ne : r ≠ []) (sr : SR r) (le : r.length ≤ 1000) (h : ∀ p ∈ r, 0 ≤ p.1 ∧ p.1 ≤ 100 ∧ 0 ≤ p.2) (c7 : ∀ x, (col r x).length ≤ 7) (cnt : ∀ c ∈ cols r, (rowsBy r ls c).length ≤ 1024) (ol : okL r ls) (ld : (ls.map (·.1)).Nodup) : okF r ls := by
  refine ⟨⟨ne, le, fun p hp => ⟨(h p hp).1, (h p hp).2.2⟩, asc_of sr⟩, ol, ⟨okX_of ne h, sr.nd, ld, fun c hc => ?_, cnt, fun d c e hs ah ha => ?_⟩⟩
  · obtain ⟨x, _, rfl⟩ := List.mem_map.mp hc
    exact c7 x
  · obtain ⟨h1, h2, h3⟩ := cols_split hs
    rw [h1, reachSt_range] at ha
    rw [h2]
    exact okCol_at sr ha
theorem okNx_of {r : List Sq} (sr : SR r) : okNx r := by
  intro d c c' e hs row hl
  obtain ⟨h1, h2, h3⟩ := cols_split hs
  have hs' : cols r = (d ++ [c]) ++ c' :: e := by rw [hs]; simp
  obtain ⟨h1', h2', h3'⟩ := cols_split hs'
  rw [List.length_append, List.length_singleton] at h2'
  rw [h2']
  refine okCol_of sr fun q hq e => ?_
  refine lookA_mem.mpr ?_
  rw [zip_keys hl, h2]
  exact col_mem.mpr ⟨hq, by omega⟩
/-! few rows -/
def eastN (r : List Sq) (p : Sq) : Nat := if (p.1 + 1, p.2) ∈ r then 1 else 0
def westN (r : List Sq) (p : Sq) : Nat := if (p.1 - 1, p.2) ∈ r then 1 else 0
def wayN (r : List Sq) (p : Sq) : Nat := 1 + eastN r p + westN r p
theorem fit_pow (r : List Sq) (ls : Lets) (p : Sq) (b : Bool) : ((kindsLet r ls p).filter fun k => decide (k = 4) == b).length ≤ 2 ^ wayN r p := by
  have nd : ((kindsLet r ls p).filter fun k => decide (k = 4) == b).Nodup := (kindsLet_nd r ls p).filter _
  have sub : ∀ z ∈ (kindsLet r ls p).filter fun k => decide (k = 4) == b, z ∈ (if b then [4] else [0, 2] ++ (if (p.1 + 1, p.2) ∈ r then [1] else []) ++ (if (p.1 - 1, p.2) ∈ r then [3] else [])) := fun z hz => by
    obtain ⟨h1, h2⟩ := List.mem_filter.mp hz
    obtain ⟨h5, hl, _⟩ := kl_kinds.mp h1
    rw [beq_iff_eq] at h2
    cases b with
    | true =>
      have : z = 4 := of_decide_eq_true h2
      rw [this]; simp
    | false =>
      have n4 : z ≠ 4 := of_decide_eq_false h2
      have h5 : z = 0 ∨ z = 1 ∨ z = 2 ∨ z = 3 ∨ z = 4 := by simpa [five] using h5
      rcases h5 with rfl | rfl | rfl | rfl | rfl
      · simp
      · rw [led1] at hl; rw [if_pos hl]; simp
      · simp
      · rw [led3] at hl; rw [if_pos hl]; simp
      · exact absurd rfl n4
  refine Nat.le_trans (nd.length_le_of_subset sub) ?_
  unfold wayN eastN westN
  cases b with
  | true => exact Nat.one_le_two_pow
  | false => by_cases c1 : (p.1 + 1, p.2) ∈ r <;> by_cases c2 : (p.1 - 1, p.2) ∈ r <;> simp [c1, c2]
theorem flat_le2 {α β : Type} {g : α → List β} {n : Nat} (h : ∀ a, (g a).length ≤ n) (l : List α) : (l.flatMap g).length ≤ l.length * n := flat_len h l
theorem rowsBy_pow (r : List Sq) (ls : Lets) (sqs : List Sq) : (rowsBy r ls sqs).length ≤ 2 ^ (sqs.map (wayN r)).sum := by
  induction sqs using snocRec with
  | h0 => exact Nat.le_refl _
  | h1 sqs p ih =>
    rw [rowsBy_snoc, List.map_append, List.sum_append, List.map_singleton]
    refine Nat.le_trans (flat_len (n := 2 ^ wayN r p) (fun row => by rw [List.length_map]; exact fit_pow r ls p _) _) ?_
    rw [show [wayN r p].sum = wayN r p by simp, Nat.pow_add]
    exact Nat.mul_le_mul_right _ ih
theorem way_sum (r : List Sq) : ∀ c : List Sq, (c.map (wayN r)).sum = c.length + (c.filter fun p => decide ((p.1 + 1, p.2) ∈ r)).length + (c.filter fun p => decide ((p.1 - 1, p.2) ∈ r)).length
  | [] => rfl
  | p :: c => by
    rw [List.map_cons, List.sum_cons, way_sum r c, List.filter_cons, List.filter_cons, List.length_cons]
    unfold wayN eastN westN
    by_cases c1 : (p.1 + 1, p.2) ∈ r <;> by_cases c2 : (p.1 - 1, p.2) ∈ r <;> simp [c1, c2] <;> omega
theorem three_cols (x : Int) : ∀ r : List Sq, (col r x).length + (col r (x + 1)).length + (col r (x - 1)).length ≤ r.length
  | [] => Nat.le_refl _
  | p :: r => by
    have ih := three_cols x r
    unfold col at ih ⊢
    rw [List.filter_cons, List.filter_cons, List.filter_cons, List.length_cons]
    by_cases c1 : p.1 = x
    · have c2 : ¬ p.1 = x + 1 := by omega
      have c3 : ¬ p.1 = x - 1 := by omega
      simp only [decide_eq_true c1, decide_eq_false c2, decide_eq_false c3]
      simp
      omega
    · by_cases c2 : p.1 = x + 1
      · have c3 : ¬ p.1 = x - 1 := by omega
        simp only [decide_eq_false c1, decide_eq_true c2, decide_eq_false c3]
        simp
        omega
      · by_cases c3 : p.1 = x - 1
        · simp only [decide_eq_false c1, decide_eq_false c2, decide_eq_true c3]
          simp
          omega
        · simp only [decide_eq_false c1, decide_eq_false c2, decide_eq_false c3]
          simp
          omega
theorem side_len {r : List Sq} (nd : r.Nodup) (x s : Int) : ((col r x).filter fun p => decide ((p.1 + s, p.2) ∈ r)).length ≤ (col r (x + s)).length := by
  have n1 : (((col r x).filter fun p => decide ((p.1 + s, p.2) ∈ r)).map fun p : Sq => ((p.1 + s, p.2) : Sq)).Nodup := List.pairwise_map.mpr (((col_nd nd x).filter _).imp fun {p q} n e => n (by
    have e1 := congrArg Prod.fst e
    have e2 := congrArg Prod.snd e
    obtain ⟨p1, p2⟩ := p
    obtain ⟨q1, q2⟩ := q
    simp at *
    omega))
  have := n1.length_le_of_subset (l₂ := col r (x + s)) fun z hz => by
    obtain ⟨p, hp, rfl⟩ := List.mem_map.mp hz
    obtain ⟨h1, h2⟩ := List.mem_filter.mp hp
    exact col_mem.mpr ⟨of_decide_eq_true h2, by have := (col_mem.mp h1).2; show p.1 + s = _; omega⟩
  rw [List.length_map] at this
  exact this
theorem cnt_of {r : List Sq} (nd : r.Nodup) (h9 : r.length ≤ 9) (ls : Lets) (x : Int) : (rowsBy r ls (col r x)).length ≤ 512 := by
  refine Nat.le_trans (rowsBy_pow r ls _) (Nat.le_trans (Nat.pow_le_pow_right (by decide) ?_) (by decide : 2 ^ 9 ≤ 512))
  rw [way_sum]
  have h1 := side_len nd x 1
  have h2 := side_len nd x (-1)
  have h3 := three_cols x r
  have e : (fun p : Sq => decide ((p.1 + -1, p.2) ∈ r)) = fun p => decide ((p.1 - 1, p.2) ∈ r) := rfl
  rw [e] at h2
  have e2 : x + -1 = x - 1 := rfl
  rw [e2] at h2
  omega
/-! ### what the law asks is what the program tells -/
theorem rows_set (r : List Sq) (ls : Lets) (x : Int) : setOf (rowsBy r ls (col r x)) = lawRows r ls x := up_ext (setOf_up _) (lawRows_up _ _ _) fun z => setOf_mem.trans lawRows_mem.symm
theorem leftD_eq {r : List Sq} {ls : Lets} (sr : SR r) (ne : r ≠ []) (nd : (ls.map (·.1)).Nodup) (sq : ∀ q ∈ ls, q.1 ∈ r) {k : Nat} (hk : k < nC r) : leftD r ls (loX r + (k : Int)) = rtD (setOf ((keptM r ls).map (restr r (loX r + (k : Int))))) := by
  have lh := lo_hi ne
  unfold leftD
  by_cases c : col r (loX r + (k : Int)) = []
  · rw [if_pos c]
    have hr : ∀ own, restr r (loX r + (k : Int)) own = [] := fun own => by
      unfold restr
      rw [c, List.map_eq_nil_iff, List.filter_eq_nil_iff]
      intro q _; simp
    have hl : (leftM r ls (pairsM r ls)).length = nC r := by
      rw [leftM_len]; unfold pairsM; rw [List.length_zip, reachM_len, Nat.min_self, cols_range, List.length_map, List.length_range]
    have hn : nC r - 1 < nC r := by omega
    have hm := mem_left (ls := ls) sr hn
    rw [List.getLast?_eq_getElem?, hl]
    by_cases ck : keptM r ls = []
    · have e : (leftM r ls (pairsM r ls))[nC r - 1]?.getD [] = [] := by
        apply List.eq_nil_iff_forall_not_mem.mpr
        intro row hrow
        obtain ⟨f, pf, _⟩ := (hm row).mp hrow
        have := (mem_kept sr nd sq _).mpr ⟨f, pf, rfl⟩
        rw [ck] at this; cases this
      rw [if_pos e, ck]; rfl
    · obtain ⟨own, ho⟩ := List.exists_mem_of_ne_nil _ ck
      obtain ⟨f, pf, rfl⟩ := (mem_kept sr nd sq own).mp ho
      have e : (leftM r ls (pairsM r ls))[nC r - 1]?.getD [] ≠ [] := fun z => by
        have := (hm _).mpr ⟨f, pf, rfl⟩
        rw [z] at this; cases this
      rw [if_neg e]
      have e2 : setOf ((keptM r ls).map (restr r (loX r + (k : Int)))) = [[]] := setOf_eq (List.pairwise_singleton _ _) fun z => by
        rw [List.mem_singleton, List.mem_map]
        exact ⟨fun e => ⟨_, ho, by rw [hr, e]⟩, fun ⟨own, _, e⟩ => by rw [← e, hr]⟩
      rw [e2]; rfl
  · rw [if_neg c, show (loX r + (k : Int) - loX r).toNat = k by omega, left_eq sr nd sq hk]
theorem restr_rows {r : List Sq} {ls : Lets} (sr : SR r) (nd : (ls.map (·.1)).Nodup) (sq : ∀ q ∈ ls, q.1 ∈ r) {k : Nat} (hk : k < nC r) : ∀ row ∈ (keptM r ls).map (restr r (loX r + (k : Int))), row ∈ rowsBy r ls (col r (loX r + (k : Int))) := by
  intro row h
  obtain ⟨own, ho, rfl⟩ := List.mem_map.mp h
  obtain ⟨f, pf, rfl⟩ := (mem_kept sr nd sq own).mp ho
  rw [restr_map]
  refine (mem_rowsBy sr).mpr ⟨f, pf.1 _ ?_, rfl⟩
  unfold nC at hk; omega
theorem zero_row (r : List Sq) (x : Int) : (col r x).map (fun _ => (0 : Int)) ∈ rowsBy r [] (col r x) := by
  have gen : ∀ sqs : List Sq, (∀ p ∈ sqs, p ∈ r) → sqs.map (fun _ => (0 : Int)) ∈ rowsBy r [] sqs := fun sqs => by
    induction sqs using snocRec with
    | h0 => intro _; exact List.mem_singleton.mpr rfl
    | h1 l p ih =>
      intro h
      rw [rowsBy_snoc, List.map_append]
      refine List.mem_flatMap.mpr ⟨_, ih fun q hq => h q (List.mem_append_left _ hq), List.mem_map.mpr ⟨0, List.mem_filter.mpr ⟨kl_kinds.mpr ⟨by decide, by rw [led0]; exact h p (by simp), rfl⟩, ?_⟩, rfl⟩⟩
      have : joined (l.map fun _ => (0 : Int)) = false := by
        unfold joined
        rw [decide_eq_false_iff_not, List.getLast?_map]
        cases l.getLast? with
        | none => simp
        | some a => simp
      rw [this]; rfl
  exact gen _ fun p hp => (col_mem.mp hp).1
theorem lawRows_ne (r : List Sq) (x : Int) : lawRows r [] x ≠ [] := fun z => by
  have := lawRows_mem.mpr (zero_row r x)
  rw [z] at this; cases this
end TR
/-! ## E20 -/
set_option Elab.async false
set_option linter.all false
set_option maxRecDepth 100000
set_option maxHeartbeats 8000000
namespace TR
open PySem L2
/-! ### small facts of data -/
theorem deps_map {α : Type} {f : α → D} {n : Nat} (h : ∀ a, dep (f a) ≤ n) : ∀ l : List α, deps (l.map f) ≤ n
  | [] => Nat.zero_le _
  | a :: l => by rw [List.map_cons, deps]; exact Nat.max_le.mpr ⟨h a, deps_map h l⟩
theorem dep_tD (l : List Int) : dep (tD l) ≤ 1 := by
  show deps (l.map .int) + 1 ≤ 1
  have := deps_map (f := D.int) (n := 0) (fun _ => Nat.le_refl _) l
  omega
theorem dep_room (r : List Sq) : dep (roomD r) ≤ 2 := by
  show deps (r.map sqD) + 1 ≤ 2
  have := deps_map (f := sqD) (n := 1) (fun p => dep_tD _) r
  omega
theorem dep_rt (l : Rows) : dep (rtD l) ≤ 2 := by
  show deps (l.map tD) + 1 ≤ 2
  have := deps_map (f := tD) (n := 1) dep_tD l
  omega
theorem dep_rch (m : List Rows) : dep (rchD m) ≤ 3 := by
  show deps (m.map rtD) + 1 ≤ 3
  have := deps_map (f := rtD) (n := 2) dep_rt m
  omega
theorem dep_let (q : Sq × List Int) : dep (letD q) ≤ 2 := by
  show max (dep (tD (sqK q.1))) (max (dep (tD q.2)) 0) + 1 ≤ 2
  have := dep_tD (sqK q.1)
  have := dep_tD q.2
  omega
theorem dep_lets (ls : Lets) : dep (letsS ls) ≤ 3 := by
  show deps (ls.map letD) + 1 ≤ 3
  have := deps_map (f := letD) (n := 2) dep_let ls
  omega
theorem tup_tD (l : List Int) : tupD (tD l) = tD l := by
  show D.tup (tupDs (l.map .int)) = _
  rw [tupDs_map, List.map_map]; rfl
theorem tup_room (r : List Sq) : tupD (roomD r) = roomD r := by
  show D.tup (tupDs (r.map sqD)) = _
  rw [tupDs_map, List.map_map]
  exact congrArg D.tup (List.map_congr_left fun p _ => tup_tD _)
theorem lst_tD (l : List Int) : lstD (tD l) = .lst (l.map .int) := by
  show D.lst (lstDs (l.map .int)) = _
  rw [lstDs_map, List.map_map]; rfl
theorem tup_lst_tD (l : List Int) : tupD (lstD (tD l)) = tD l := by
  rw [lst_tD]
  show D.tup (tupDs (l.map .int)) = _
  rw [tupDs_map, List.map_map]; rfl
theorem dep_lst_tD (l : List Int) : dep (lstD (tD l)) ≤ 1 := by rw [lst_tD]; exact dep_tD l
theorem argR0 (r : List Sq) : ArgR r (roomD r) := ⟨Nat.le_trans (dep_room r) (by decide), tup_room r⟩
theorem argR1 (r : List Sq) : ArgR r (lstD (roomD r)) := by
  have e : lstD (roomD r) = .lst (r.map fun p => lstD (sqD p)) := by
    show D.lst (lstDs (r.map sqD)) = _
    rw [lstDs_map, List.map_map]; rfl
  rw [e]
  refine ⟨?_, ?_⟩
  · show deps _ + 1 ≤ 4
    have := deps_map (f := fun p => lstD (sqD p)) (n := 1) (fun p => dep_lst_tD _) r
    omega
  · show D.tup (tupDs _) = _
    rw [tupDs_map, List.map_map]
    exact congrArg D.tup (List.map_congr_left fun p _ => tup_lst_tD _)
theorem tup_let (q : Sq × List Int) : tupD (letD q) = letD q := by
  show D.tup [tupD (tD (sqK q.1)), tupD (tD q.2)] = _
  rw [tup_tD, tup_tD]
theorem argL0 (ls : Lets) : ArgL ls (letsS ls) := by
  refine ⟨Nat.le_trans (dep_lets ls) (by decide), ?_⟩
  show D.stp (tupDs (ls.map letD)) = _
  rw [tupDs_map, List.map_map]
  exact congrArg D.stp (List.map_congr_left fun q _ => tup_let q)
theorem argL1 (ls : Lets) : ArgL ls (lstD (letsS ls)) := by
  have el : ∀ q : Sq × List Int, lstD (letD q) = .lst [lstD (tD (sqK q.1)), lstD (tD q.2)] := fun q => rfl
  have e : lstD (letsS ls) = .lst (ls.map fun q => lstD (letD q)) := by
    show D.lst (lstDs (ls.map letD)) = _
    rw [lstDs_map, List.map_map]; rfl
  rw [e]
  refine ⟨?_, ?_⟩
  · show deps _ + 1 ≤ 4
    have := deps_map (f := fun q : Sq × List Int => lstD (letD q)) (n := 2) (fun q => by
      rw [el]
      show max (dep (lstD (tD (sqK q.1)))) (max (dep (lstD (tD q.2))) 0) + 1 ≤ 2
      have := dep_lst_tD (sqK q.1)
      have := dep_lst_tD q.2
      omega) ls
    omega
  · show D.stp (tupDs _) = _
    rw [tupDs_map, List.map_map]
    refine congrArg D.stp (List.map_congr_left fun q _ => ?_)
    show tupD (lstD (letD q)) = _
    rw [el]
    show D.tup [tupD (lstD (tD (sqK q.1))), tupD (lstD (tD q.2))] = _
    rw [tup_lst_tD, tup_lst_tD]
theorem goods_map {α : Type} {f : α → D} (h : ∀ a, good (f a) = true) : ∀ l : List α, goods (l.map f) = true
  | [] => rfl
  | a :: l => by rw [List.map_cons, goods, h a, goods_map h l]; rfl
theorem goods_app : ∀ {a b : List D}, goods a = true → goods b = true → goods (a ++ b) = true
  | [], b, _, h => h
  | x :: a, b, h, h' => by
    have h : good x = true ∧ goods a = true := by simpa [goods] using h
    rw [List.cons_append, goods, h.1, goods_app h.2 h']; rfl
theorem good_tD (l : List Int) : good (tD l) = true := by
  show good (.tup _) = true
  rw [good]; exact goods_map (fun _ => by simp [good]) l
theorem good_room (r : List Sq) : good (roomD r) = true := by
  show good (.tup _) = true
  rw [good]; exact goods_map (fun p => good_tD _) r
theorem good_rt (l : Rows) : good (rtD l) = true := by
  show good (.tup _) = true
  rw [good]; exact goods_map good_tD l
theorem good_rch (m : List Rows) : good (rchD m) = true := by
  show good (.tup _) = true
  rw [good]; exact goods_map good_rt m
theorem deps_app : ∀ {a b : List D} {n : Nat}, deps a ≤ n → deps b ≤ n → deps (a ++ b) ≤ n
  | [], b, n, _, h => h
  | x :: a, b, n, h, h' => by
    rw [deps] at h
    rw [List.cons_append, deps]
    have := deps_app (a := a) (b := b) (n := n) (by omega) h'
    omega
/-! ### draws of the law's second half -/
def lapS (r : List Sq) (x : Int) (t : T3) : Nat → List Bool × T3
  | 0 => ([], t)
  | n + 1 =>
    let s := lapS r x t n
    let a := tk s.2 ((lawRows r [] (x - 1)).length : Nat)
    let b := tk a.2 ((lawRows r [] x).length : Nat)
    (s.1 ++ [rowFits r x ((lawRows r [] (x - 1))[a.1.toNat]?.getD []) ((lawRows r [] x)[b.1.toNat]?.getD [])], b.2)
theorem lapS_ok {r : List Sq} {x : Int} {t : T3} {m : Nat} : ∀ n, okT (m + 2 * n) t → okT m (lapS r x t n).2
  | 0, h => h
  | n + 1, h => by
    have ih := lapS_ok (r := r) (x := x) (m := m + 2) n (by rw [show m + 2 + 2 * n = m + 2 * (n + 1) by omega]; exact h)
    exact tk_ok (tk_ok (m := m + 1) ih)
theorem lapS_len {r : List Sq} {x : Int} {t : T3} : ∀ n, (lapS r x t n).1.length = n
  | 0 => rfl
  | n + 1 => by
    show (_ ++ [_]).length = _
    rw [List.length_append, lapS_len n]; rfl
def bentsT (m : List Rows) (t : T3) : Nat → T3
  | 0 => t
  | n + 1 => bentT (bentsT m t n) m
theorem bentsT_ok {m : List Rows} {t : T3} {k : Nat} : ∀ n, okT (k + 2 * n) t → okT k (bentsT m t n)
  | 0, h => h
  | n + 1, h => by
    have ih := bentsT_ok (m := m) (k := k + 2) n (by rw [show k + 2 + 2 * n = k + 2 * (n + 1) by omega]; exact h)
    exact tk_ok (tk_ok (m := k + 1) ih)
theorem rows_five {r : List Sq} {ls : Lets} {x : Int} (sr : SR r) {row : List Int} (h : row ∈ rowsBy r ls (col r x)) : ∀ k ∈ row, okK k = true := by
  obtain ⟨f, c, rfl⟩ := (mem_rowsBy sr).mp h
  intro k hk
  obtain ⟨p, hp, rfl⟩ := List.mem_map.mp hk
  have hp := col_mem.mp hp
  exact okK_five.mpr (kl_kinds.mp (c.k p hp.1 hp.2)).1
def tinR (t : T3) : T3 :=
  let g := roomM t
  let l := drawnM g.2 g.1 (floorsM g.1)
  let a := tk l.2 (nC g.1 : Nat)
  bentsT (reachM g.1 l.1) (lapS g.1 (loX g.1 + (a.1.toNat : Int)) a.2 3).2 4
end TR
/-! ## E21 -/
set_option Elab.async false
set_option linter.all false
set_option maxRecDepth 100000
set_option maxHeartbeats 8000000
namespace TR
open PySem L2
theorem okL_nil (r : List Sq) : okL r [] := ⟨fun q hq => (by cases hq), fun q hq => (by cases hq), fun q hq => (by cases hq), rfl⟩
section
variable {P : Program} {w : World} {K : PySem.W.Frag} {mg : Str → Option Value} {bs : Heap}
theorem law_right_ok (T : Tp K mg) : FnI P w K mg bs 9 "_law_right" ["_law_tin"] (spM 1 fun tin ds d tin' => ∃ t : T3, okT 2000 t ∧ tin = t3 t ∧ ds = [] ∧ d = .bl true ∧ tin' = t3 (tinR t)) := by
  have sc : FnScope ["_law_tin", "_law_ground", "_law_soft_so", "_law_all_so", "_law_lets_so", "_law_kept_so", "_law_due", "_law_marks_so", "_law_got", "_law_goals_so", "_law_x", "_law_spots_so", "_law_rows_so", "_law_ahead_so", "_law_lap", "_law_near_so", "_law_far_so", "_law_bents_so", "_law_own", "_law_spot", "_law_kind_so"] ["_law_tin"] (defScope (topS 93)) := ⟨rfl, rfl, rfl, by decide +kernel, rfl, by decide +kernel, by decide +kernel⟩
  refine fn_mut T.law_right sc (fun _ _ _ _ _ _ us hl => match us, hl with | [_], _ => rfl) ?_
  rintro f cdv A outer s H E hr bb tin ds d tin' hl ⟨t, ok, rfl, rfl, rfl, rfl⟩
  have h24 : (2 : Nat) ^ 24 = 16777216 := by decide
  obtain ⟨g, hg⟩ : ∃ g, g = roomM t := ⟨_, rfl⟩
  obtain ⟨rf, sr, o1⟩ := roomM_ok (m := 1900) ok
  rw [← hg] at rf sr o1
  obtain ⟨r, hr1⟩ : ∃ r, r = g.1 := ⟨_, rfl⟩
  rw [← hr1] at rf sr
  obtain ⟨l, hl1⟩ : ∃ l, l = drawnM g.2 r (floorsM r) := ⟨_, rfl⟩
  have hfl : ∀ own ∈ floorsM r, ∃ f, Fl r f ∧ own = r.map f := fun own ho => (mem_floors sr own).mp ho
  obtain ⟨ol, ld, o2⟩ := drawnM_ok (m := 1930) (t := g.2) sr (floors_ne sr) hfl o1
  rw [← hl1] at ol ld o2
  obtain ⟨ls, hls⟩ : ∃ ls, ls = l.1 := ⟨_, rfl⟩
  rw [← hls] at ol ld
  have sq := ol.sq
  have nd := sr.nd
  have okf : okF r ls := okF_of rf.ne sr (Nat.le_trans rf.le (by decide)) rf.at_ rf.c (fun c hc => by obtain ⟨x, _, rfl⟩ := List.mem_map.mp hc; exact Nat.le_trans (cnt_of nd rf.le ls x) (by decide)) ol ld
  have nx := okNx_of sr
  have lh := lo_hi rf.ne
  have hnC : 0 < nC r ∧ nC r ≤ 101 := by
    have h1 := okX_of rf.ne rf.at_
    obtain ⟨q, hq, e2⟩ := hiX_mem rf.ne
    have := rf.at_ q hq
    have := h1.2.1
    unfold nC; omega
  obtain ⟨a, ha⟩ : ∃ a, a = tk l.2 (nC r : Nat) := ⟨_, rfl⟩
  have ra := tk_rng (t := l.2) (n := ((nC r : Nat) : Int)) (by omega)
  rw [← ha] at ra
  have o3 : okT 1929 a.2 := by rw [ha]; exact tk_ok o2
  obtain ⟨k, hk⟩ : ∃ k, k = a.1.toNat := ⟨_, rfl⟩
  have hkn : k < nC r := by omega
  have hkI : a.1 = (k : Int) := by omega
  obtain ⟨X, hX⟩ : ∃ X, X = loX r + (k : Int) := ⟨_, rfl⟩
  have htin : tinR t = bentsT (reachM r ls) (lapS r X a.2 3).2 4 := by rw [hX, hk, ha, hls, hl1, hr1, hg]; rfl
  rw [htin]
  have hfll : (floorsM r).length ≤ 19683 := by
    unfold floorsM
    rw [(rSort_perm _).length_eq]
    exact Nat.le_trans (laids_le r r) (Nat.le_trans (Nat.pow_le_pow_right (by decide) rf.le) (by decide : 3 ^ 9 ≤ 19683))
  have hown : ∀ own ∈ floorsM r, own.length = r.length ∧ ∀ p ∈ r, at0 (r.zip own) p ∈ five := fun own ho => by
    obtain ⟨f, fl, rfl⟩ := hfl own ho
    exact ⟨by rw [List.length_map], fun p hp => by rw [at0_zip hp]; exact (fl.k p hp).1⟩
  refine x_cons (s_asgM (k := .st) (d := roomD r) 1 sc.nd (m_callM (tin' := t3 g.2) 0 (law_room_ok T) hr rfl (ma_cons (m_e e_int) ma_nil) rfl ⟨t, ok.mono (by decide), rfl, rfl, by rw [hr1, hg], by rw [hg]⟩) ?_)
  show Ex _ [.own true bb (.lst (t3 g.2)), .dat (roomD r), .any, .any, .any, .any, .any, .any, .any, .any, .any, .any, .any, .any, .any, .any, .any, .any, .any, .any, .any] _ _ _
  refine x_cons (s_disp (l := [(2, .st, lstD (roomD r)), (3, .st, rowsD (floorsM r))]) (dp 2 (e_call (law_lists_ok T 4) hr (a_cons (e_var 1 rfl) a_nil) ⟨_, rfl, (argR0 r).1, rfl⟩) (dp 3 (e_call (law_floors_ok T) hr (a_cons (e_var 1 rfl) (a_cons e_tup0S a_nil)) ⟨r, sr, rf.ne, rf.le, rfl, rfl⟩) dp_nil)) (t_two 2 3 rfl sc.nd) ?_)
  rintro _ rfl
  show Ex _ [.own true bb (.lst (t3 g.2)), .dat (roomD r), .dat (lstD (roomD r)), .dat (rowsD (floorsM r)), .any, .any, .any, .any, .any, .any, .any, .any, .any, .any, .any, .any, .any, .any, .any, .any, .any] _ _ _
  refine x_cons (s_asgM (k := .st) (d := letsS ls) 4 sc.nd (m_callM (tin' := t3 l.2) 0 (law_lets_drawn_ok T) hr rfl (ma_cons (m_e (e_var 1 rfl)) (ma_cons (m_e (e_var 3 rfl)) ma_nil)) rfl ⟨g.2, r, floorsM r, sr, Nat.le_trans rf.le (by decide), floors_ne sr, by omega, hown, o1.mono (by decide), rfl, rfl, by rw [hls, hl1], by rw [hl1]⟩) ?_)
  show Ex _ [.own true bb (.lst (t3 l.2)), .dat (roomD r), .dat (lstD (roomD r)), .dat (rowsD (floorsM r)), .dat (letsS ls), .any, .any, .any, .any, .any, .any, .any, .any, .any, .any, .any, .any, .any, .any, .any, .any] _ _ _
  refine s_lcF (k := .st) (own := [("_law_own", 18)]) (l := floorsM r) (f := tD) (p := keepsM r ls) (g := tD) 5 (.one 18) rfl sc.nd (i_list (e_var 3 rfl)) (blkOk_by (by kernel_rfl)) (fun _ _ _ _ _ => t_one 18 sc.nd) (fun own ho _ _ _ _ _ => ts_one (b_v (e_call (law_keeps_ok T) hr (a_cons (e_var 1 rfl) (a_cons (e_var 18 rfl) (a_cons (e_var 4 rfl) a_nil))) ⟨r, own, ls, nd, (hown own ho).1, sq, rfl, rfl⟩))) (fun own _ _ _ _ _ _ _ => (e_var 18 rfl)) ?_
  obtain ⟨kept, hkept⟩ : ∃ kept, kept = keptM r ls := ⟨_, rfl⟩
  rw [show (floorsM r).filter (keepsM r ls) = kept by rw [hkept]; rfl]
  show Ex _ [.own true bb (.lst (t3 l.2)), .dat (roomD r), .dat (lstD (roomD r)), .dat (rowsD (floorsM r)), .dat (letsS ls), .dat (rowsD kept), .any, .any, .any, .any, .any, .any, .any, .any, .any, .any, .any, .any, .any, .any, .any] _ _ _
  obtain ⟨m, hm⟩ : ∃ m, m = reachM r ls := ⟨_, rfl⟩
  refine x_cons (s_disp (l := [(6, .st, rchD m), (7, .fr, .lst (r.map fun p => .int p.1))]) (dp 6 (e_call (law_reaches_ok T) hr (a_cons (e_var 1 rfl) (a_cons (e_var 4 rfl) a_nil)) ⟨r, ls, sr, okX_of rf.ne rf.at_, Nat.le_trans rf.le (by decide), ol, ld, rf.c, rfl, by rw [hm]⟩) (dp 7 (e_lc0 (k := .st) (own := [("_law_own", 18)]) (l := r) (f := sqD) (g := fun p => .int p.1) (.one 18) rfl sc.nd (i_tup (e_var 1 rfl)) (blkOk_by (by kernel_rfl)) (fun _ _ _ _ _ => t_one 18 sc.nd) fun p _ _ _ _ _ _ => (e_ix (e_var 18 rfl) e_int rfl)) dp_nil)) (t_two 6 7 rfl sc.nd) ?_)
  rintro _ ⟨c7, rfl⟩
  refine x_freeze 7 rfl ?_
  show Ex _ [.own true bb (.lst (t3 l.2)), .dat (roomD r), .dat (lstD (roomD r)), .dat (rowsD (floorsM r)), .dat (letsS ls), .dat (rowsD kept), .dat (rchD m), .dat (.lst (r.map fun p => .int p.1)), .any, .any, .any, .any, .any, .any, .any, .any, .any, .any, .any, .any, .any] _ _ _
  obtain ⟨last, hlast, hshut⟩ := shut_eq (ls := ls) sr rf.ne ld sq
  obtain ⟨far, hfar⟩ : ∃ n : Int, n = ((m.filter fun l => !decide (l = [])).length : Nat) := ⟨_, rfl⟩
  refine x_cons (s_own (d := .lst [rchD m, .bl (decide (kept = [])), .int far]) 8 sc.nd (e_lst (a_cons (e_call (reaches_ok T) hr (a_cons (e_var 2 rfl) (a_cons (e_call (law_lists_ok T 4) hr (a_cons (e_var 4 rfl) a_nil) ⟨_, rfl, (argL0 ls).1, rfl⟩) a_nil)) ⟨r, ls, _, _, okf, argR1 r, argL1 ls, rfl, by rw [hm]⟩) (a_cons (e_call (is_shut_ok T) hr (a_cons (e_var 1 rfl) (a_cons (e_var 4 rfl) a_nil)) ⟨r, ls, _, _, last, okf, argR0 r, argL0 ls, hlast, rfl, by rw [hshut, hkept]⟩) (a_cons (e_call (how_far_ok T) hr (a_cons (e_var 2 rfl) (a_cons (e_var 4 rfl) a_nil)) ⟨r, ls, _, _, okf, argR1 r, argL0 ls, rfl, by rw [hfar, hm]⟩) a_nil)))) fun c8 => ?_)
  show Ex _ [.own true bb (.lst (t3 l.2)), .dat (roomD r), .dat (lstD (roomD r)), .dat (rowsD (floorsM r)), .dat (letsS ls), .dat (rowsD kept), .dat (rchD m), .dat (.lst (r.map fun p => .int p.1)), .own false c8 (.lst [rchD m, .bl (decide (kept = [])), .int far]), .any, .any, .any, .any, .any, .any, .any, .any, .any, .any, .any, .any] _ _ _
  refine x_cons (s_own (d := .lst [rchD m, .bl (decide (kept = [])), .int far]) 9 sc.nd (e_lst (a_cons (e_var 6 rfl) (a_cons (Ev.cast (e_c (c_eqD (rm64 hr) (e_var 5 rfl) (e_lst a_nil) (pl_lst (n := 1) pl_tD kept).shp rfl)) (congrArg D.bl ((eq_lnil (kept.map tD)).trans (by simp)))) (a_cons (Ev.cast (e_len T.len (e_lc (k := .st) (own := [("_law_own", 18)]) (l := m) (f := rtD) (p := fun l => !decide (l = [])) (g := rtD) (.one 18) rfl sc.nd (i_tup (e_var 6 rfl)) (blkOk_by (by kernel_rfl)) (fun _ _ _ _ _ => t_one 18 sc.nd) (fun _ _ => trivial) (by decide) (fun l _ _ _ _ _ _ => ts_one (EvB.cast (b_c (c_neD (rm64 hr) (e_var 18 rfl) (e_tup a_nil) (pl_tup pl_tD l).shp rfl)) (congrArg Bool.not (eq_tup eq_tD l [])))) (fun l _ _ _ _ _ _ _ => (e_var 18 rfl)))) (by rw [List.length_map, hfar])) a_nil)))) fun c9 => ?_)
  show Ex _ [.own true bb (.lst (t3 l.2)), .dat (roomD r), .dat (lstD (roomD r)), .dat (rowsD (floorsM r)), .dat (letsS ls), .dat (rowsD kept), .dat (rchD m), .dat (.lst (r.map fun p => .int p.1)), .own false c8 (.lst [rchD m, .bl (decide (kept = [])), .int far]), .own false c9 (.lst [rchD m, .bl (decide (kept = [])), .int far]), .any, .any, .any, .any, .any, .any, .any, .any, .any, .any, .any] _ _ _
  have hml : m.length = nC r := by rw [hm, reachM_len, cols_range, List.length_map, List.length_range]
  refine x_cons (s_asgM (k := .st) (d := .int X) 10 sc.nd (EvM.castE (m_add (m_e (e_minM (m := loX r) (ψ := fun p : Sq => p.1) rfl T.min (e_var 7 rfl) (loX_mem rf.ne) (fun p hp => loX_le hp))) (m_callM (d := .int a.1) (tin' := t3 a.2) 0 (law_take_ok T) hr rfl (ma_cons (m_e (Ev.cast (e_len T.len (e_var 6 rfl) (.tup _)) (congrArg D.int (show (((m.map rtD).length : Nat) : Int) = ((nC r : Nat) : Int) by rw [List.length_map, hml])))) ma_nil) rfl ⟨l.2, (nC r : Nat), o2.mono (by decide), by omega, by omega, rfl, rfl, by rw [ha], by rw [ha]⟩)) (by rw [hX, hkI]) rfl) ?_)
  show Ex _ [.own true bb (.lst (t3 a.2)), .dat (roomD r), .dat (lstD (roomD r)), .dat (rowsD (floorsM r)), .dat (letsS ls), .dat (rowsD kept), .dat (rchD m), .dat (.lst (r.map fun p => .int p.1)), .own false c8 (.lst [rchD m, .bl (decide (kept = [])), .int far]), .own false c9 (.lst [rchD m, .bl (decide (kept = [])), .int far]), .dat (.int X), .any, .any, .any, .any, .any, .any, .any, .any, .any, .any] _ _ _
  refine x_cons (s_asg (d := roomD (col r X)) 11 sc.nd (e_call (law_column_ok T) hr (a_cons (e_var 1 rfl) (a_cons (e_var 10 rfl) a_nil)) ⟨r, X, rfl, rfl⟩) ?_)
  show Ex _ [.own true bb (.lst (t3 a.2)), .dat (roomD r), .dat (lstD (roomD r)), .dat (rowsD (floorsM r)), .dat (letsS ls), .dat (rowsD kept), .dat (rchD m), .dat (.lst (r.map fun p => .int p.1)), .own false c8 (.lst [rchD m, .bl (decide (kept = [])), .int far]), .own false c9 (.lst [rchD m, .bl (decide (kept = [])), .int far]), .dat (.int X), .dat (roomD (col r X)), .any, .any, .any, .any, .any, .any, .any, .any, .any] _ _ _
  have hset := rows_set r ls X
  have hleft : leftD r ls X = rtD (setOf (kept.map (restr r X))) := by rw [hX, hkept]; exact leftD_eq sr rf.ne ld sq hkn
  refine x_cons (s_own (d := .lst [rchD m, .bl (decide (kept = [])), .int far, roomD (col r X), rtD (lawRows r ls X), rtD (setOf (kept.map (restr r X)))]) 8 sc.nd (Ev.cast (e_cat (k1 := .rd) (k2 := .fr) (e_own 8 rfl) (e_lst (a_cons (e_call (column_ok T) hr (a_cons (e_var 2 rfl) (a_cons (e_var 10 rfl) a_nil)) ⟨r, _, X, okf.rm, argR1 r, rfl, rfl⟩) (a_cons (e_call (rows_at_ok T) hr (a_cons (e_var 2 rfl) (a_cons (e_var 4 rfl) (a_cons (e_var 10 rfl) a_nil))) ⟨r, ls, _, _, X, okf, rf.c X, Nat.le_trans (cnt_of nd rf.le ls X) (by decide), argR1 r, argL0 ls, rfl, by rw [hset]⟩) (a_cons (e_call (rows_left_ok T) hr (a_cons (e_var 1 rfl) (a_cons (e_call (law_lists_ok T 4) hr (a_cons (e_var 4 rfl) a_nil) ⟨_, rfl, (argL0 ls).1, rfl⟩) (a_cons (e_var 10 rfl) a_nil))) ⟨r, ls, _, _, X, okf, nx, argR0 r, argL1 ls, rfl, by rw [hleft]⟩) a_nil)))) (Nat.le_trans (Nat.le_of_ble_eq_true rfl : _ ≤ 100) (by decide))) rfl) fun c8' => ?_)
  show Ex _ [.own true bb (.lst (t3 a.2)), .dat (roomD r), .dat (lstD (roomD r)), .dat (rowsD (floorsM r)), .dat (letsS ls), .dat (rowsD kept), .dat (rchD m), .dat (.lst (r.map fun p => .int p.1)), (.own false c8' (.lst [rchD m, .bl (decide (kept = [])), .int far, roomD (col r X), rtD (lawRows r ls X), rtD (setOf (kept.map (restr r X)))])), .own false c9 (.lst [rchD m, .bl (decide (kept = [])), .int far]), .dat (.int X), .dat (roomD (col r X)), .any, .any, .any, .any, .any, .any, .any, .any, .any] _ _ _
  refine x_cons (s_own (d := .lst [rchD m, .bl (decide (kept = [])), .int far, roomD (col r X), rtD (lawRows r ls X)]) 9 sc.nd (Ev.cast (e_cat (k1 := .rd) (k2 := .fr) (e_own 9 rfl) (e_lst (a_cons (e_var 11 rfl) (a_cons (e_tupleOf T.tuple (e_call (law_rows_ok T) hr (a_cons (e_var 1 rfl) (a_cons (e_var 4 rfl) (a_cons (e_var 10 rfl) a_nil))) ⟨r, ls, X, ol, ld, rf.c X, rfl, rfl⟩)) a_nil))) (Nat.le_trans (Nat.le_of_ble_eq_true rfl : _ ≤ 100) (by decide))) rfl) fun c9' => ?_)
  show Ex _ [.own true bb (.lst (t3 a.2)), .dat (roomD r), .dat (lstD (roomD r)), .dat (rowsD (floorsM r)), .dat (letsS ls), .dat (rowsD kept), .dat (rchD m), .dat (.lst (r.map fun p => .int p.1)), (.own false c8' (.lst [rchD m, .bl (decide (kept = [])), .int far, roomD (col r X), rtD (lawRows r ls X), rtD (setOf (kept.map (restr r X)))])), (.own false c9' (.lst [rchD m, .bl (decide (kept = [])), .int far, roomD (col r X), rtD (lawRows r ls X)])), .dat (.int X), .dat (roomD (col r X)), .any, .any, .any, .any, .any, .any, .any, .any, .any] _ _ _
  have hkl : kept.length ≤ 19683 := by rw [hkept]; exact Nat.le_trans (List.length_filter_le _ _) hfll
  have hrest : ∀ row ∈ kept.map (restr r X), row ∈ rowsBy r ls (col r X) := by rw [hkept, hX]; exact restr_rows sr ld sq hkn
  refine x_cons (s_append (d := rtD (setOf (kept.map (restr r X)))) 9 rfl (e_tupleOf T.tuple (e_sortSet (ks := kept.map (restr r X)) (rowsBy r ls (col r X)) rfl (rm64 hr) T.sorted T.set (Ev.cast (e_lc0 (k := .st) (own := [("_law_own", 18)]) (l := kept) (f := tD) (g := fun own => tD (restr r X own)) (.one 18) rfl sc.nd (i_list (e_var 5 rfl)) (blkOk_by (by kernel_rfl)) (fun _ _ _ _ _ => t_one 18 sc.nd) fun own _ _ _ _ _ _ => Ev.cast (e_tupleOf T.tuple (e_lc (k := .st) (own := [("_law_spot", 19), ("_law_kind_so", 20)]) (l := r.zip own) (f := fun q => .tup [sqD q.1, .int q.2]) (p := fun q => decide (q.1 ∈ col r X)) (g := fun q => .int q.2) (.tup [19, 20]) rfl sc.nd (EvI.cast (i_zipT T.zip (e_var 1 rfl) (e_var 18 rfl)) (by unfold zipD; rw [List.zip_map, List.map_map]; rfl)) (blkOk_by (by kernel_rfl)) (fun _ _ _ _ _ => t_two 19 20 rfl sc.nd) (fun _ _ => rfl) (by decide) (fun q _ _ _ _ _ _ => ts_one (EvB.cast (b_c (c_in (rm65 hr) (e_var 19 rfl) (e_var 11 rfl) (.tup _) (pl_tD _).shp (lay_ts (n := 1) (fun q : Sq => pl_tD (sqK q)) (col r X)))) (in_sq _ _))) (fun q _ _ _ _ _ _ _ => (e_var 20 rfl)))) (by unfold restr tD; rw [List.map_map]; rfl)) (by rw [List.map_map]; rfl)) hrest (Nat.le_trans (cnt_of nd rf.le ls X) (by decide)) ?_)) ?_ ?_)
  · have hlen := rowsBy_len r ls (col r X)
    by_cases h0 : (col r X).length = 0
    · right; intro x hx; exact List.length_eq_zero_iff.mp ((hlen x (hrest x hx)).trans h0)
    · left; intro x hx z; have := hlen x (hrest x hx); rw [z] at this; exact h0 this.symm
  · obtain ⟨G0, hG0⟩ : ∃ G0 : List D, G0 = [rchD m, .bl (decide (kept = [])), .int far, roomD (col r X), rtD (lawRows r ls X), rtD (setOf (kept.map (restr r X)))] := ⟨_, rfl⟩
    show Ex _ [.own true bb (.lst (t3 a.2)), .dat (roomD r), .dat (lstD (roomD r)), .dat (rowsD (floorsM r)), .dat (letsS ls), .dat (rowsD kept), .dat (rchD m), .dat (.lst (r.map fun p => .int p.1)), (.own false c8' (.lst [rchD m, .bl (decide (kept = [])), .int far, roomD (col r X), rtD (lawRows r ls X), rtD (setOf (kept.map (restr r X)))])), (.own false c9' (.lst [rchD m, .bl (decide (kept = [])), .int far, roomD (col r X), rtD (lawRows r ls X), rtD (setOf (kept.map (restr r X)))])), .dat (.int X), .dat (roomD (col r X)), .any, .any, .any, .any, .any, .any, .any, .any, .any] _ _ _
    rw [← hG0]
    obtain ⟨A', hA⟩ : ∃ A', A' = lawRows r [] (X - 1) := ⟨_, rfl⟩
    obtain ⟨B', hB⟩ : ∃ B', B' = lawRows r [] X := ⟨_, rfl⟩
    refine x_cons (s_disp2 (i := 12) (j := 13) (l := [(12, .st, rowsD B'), (13, .st, rowsD A')]) rfl sc.nd (dp 12 (e_call (law_rows_ok T) hr (a_cons (e_var 1 rfl) (a_cons e_tup0S (a_cons (e_var 10 rfl) a_nil))) ⟨r, [], X, okL_nil r, .nil, rf.c X, rfl, by rw [hB]⟩) (dp 13 (e_call (law_rows_ok T) hr (a_cons (e_var 1 rfl) (a_cons e_tup0S (a_cons (e_sub (e_var 10 rfl) e_int) a_nil))) ⟨r, [], X - 1, okL_nil r, .nil, rf.c (X - 1), rfl, by rw [hA]⟩) dp_nil)) ?_)
    rintro _ rfl
    show Ex _ [.own true bb (.lst (t3 a.2)), .dat (roomD r), .dat (lstD (roomD r)), .dat (rowsD (floorsM r)), .dat (letsS ls), .dat (rowsD kept), .dat (rchD m), .dat (.lst (r.map fun p => .int p.1)), (.own false c8' (.lst G0)), (.own false c9' (.lst G0)), .dat (.int X), .dat (roomD (col r X)), .dat (rowsD B'), .dat (rowsD A'), .any, .any, .any, .any, .any, .any, .any] _ _ _
    have hg0 : G0.length = 6 := by rw [hG0]; rfl
    have hA0 : 0 < A'.length := by rw [hA]; exact List.length_pos_iff.mpr (lawRows_ne r _)
    have hB0 : 0 < B'.length := by rw [hB]; exact List.length_pos_iff.mpr (lawRows_ne r _)
    have hAl : A'.length ≤ 512 := by rw [hA]; unfold lawRows; rw [(rSort_perm _).length_eq]; exact cnt_of nd rf.le [] (X - 1)
    have hBl : B'.length ≤ 512 := by rw [hB]; unfold lawRows; rw [(rSort_perm _).length_eq]; exact cnt_of nd rf.le [] X
    refine x_cons (s_for (l := List.range 3) (f := fun i : Nat => .int (i : Nat)) (.one 14) (fun done ρ' => ∃ u14 u15 u16, ρ' = [.own true bb (.lst (t3 (lapS r X a.2 done.length).2)), .dat (roomD r), .dat (lstD (roomD r)), .dat (rowsD (floorsM r)), .dat (letsS ls), .dat (rowsD kept), .dat (rchD m), .dat (.lst (r.map fun p => .int p.1)), (.own false c8' (.lst (G0 ++ (lapS r X a.2 done.length).1.map .bl))), (.own false c9' (.lst (G0 ++ (lapS r X a.2 done.length).1.map .bl))), .dat (.int X), .dat (roomD (col r X)), .dat (rowsD B'), .dat (rowsD A'), u14, u15, u16, .any, .any, .any, .any]) rfl (i_rangeN T.range e_int rfl (by omega)) (t_one 14 sc.nd) (fun _ _ => trivial) ⟨.any, .any, .any, by show _ = [_, _, _, _, _, _, _, _, Ent.own false c8' (.lst (G0 ++ [])), Ent.own false c9' (.lst (G0 ++ [])), _, _, _, _, _, _, _, _, _, _, _]; rw [List.append_nil]; rfl⟩ ?_ ?_)
    · rintro done i post hsp ρ' ⟨u14, u15, u16, rfl⟩
      obtain ⟨rfl, hi⟩ := range_split hsp
      rw [List.length_append, List.length_range, List.length_singleton]
      have os := lapS_ok (r := r) (x := X) (m := 1900) (t := a.2) i (o3.mono (by omega))
      have hsl := lapS_len (r := r) (x := X) (t := a.2) i
      obtain ⟨sl, hsle⟩ : ∃ sl, sl = lapS r X a.2 i := ⟨_, rfl⟩
      obtain ⟨na, hna, hnam⟩ := tk_at (l := A') (t := sl.2) hA0
      obtain ⟨ta, hta⟩ : ∃ ta, ta = (tk sl.2 (A'.length : Nat)).2 := ⟨_, rfl⟩
      obtain ⟨nb, hnb, hnbm⟩ := tk_at (l := B') (t := ta) hB0
      obtain ⟨tb, htb⟩ : ∃ tb, tb = (tk ta (B'.length : Nat)).2 := ⟨_, rfl⟩
      have hnx : lapS r X a.2 (i + 1) = (sl.1 ++ [rowFits r X na nb], tb) := by
        show (let s := lapS r X a.2 i; let a := tk s.2 ((lawRows r [] (X - 1)).length : Nat); let b := tk a.2 ((lawRows r [] X).length : Nat); (s.1 ++ [rowFits r X ((lawRows r [] (X - 1))[a.1.toNat]?.getD []) ((lawRows r [] X)[b.1.toNat]?.getD [])], b.2)) = _
        dsimp only
        rw [← hsle, ← hA, ← hB, ← hta, hna, hnb, ← htb]; rfl
      rw [hnx, ← hsle]
      rw [← hsle] at os hsl
      have hra : na ∈ rowsBy r [] (col r (X - 1)) := lawRows_mem.mp (by rw [← hA]; exact hnam)
      have hrb : nb ∈ rowsBy r [] (col r X) := lawRows_mem.mp (by rw [← hB]; exact hnbm)
      have la := rowsBy_len r [] _ na hra
      have lb := rowsBy_len r [] _ nb hrb
      have ota : okT 1899 ta := by rw [hta]; exact tk_ok os
      refine x_cons (s_par2M (i := 15) (j := 16) (d1 := tD na) (d2 := tD nb) rfl sc.nd (ma_cons (m_callM (tin' := t3 ta) 0 (law_of_ok T) hr rfl (ma_cons (m_e (e_var 13 rfl)) ma_nil) rfl ⟨sl.2, _, A'.map tD, os.mono (by decide), .lst _, by rw [List.length_map]; exact hA0, by rw [List.length_map]; omega, rfl, rfl, by rw [List.length_map, List.getElem?_map, hna]; rfl, by rw [List.length_map, hta]⟩) (ma_cons (m_callM (tin' := t3 tb) 0 (law_of_ok T) hr rfl (ma_cons (m_e (e_var 12 rfl)) ma_nil) rfl ⟨ta, _, B'.map tD, ota.mono (by decide), .lst _, by rw [List.length_map]; exact hB0, by rw [List.length_map]; omega, rfl, rfl, by rw [List.length_map, List.getElem?_map, hnb]; rfl, by rw [List.length_map, htb]⟩) ma_nil)) ?_)
      have hsz : (G0 ++ sl.1.map D.bl).length < sizeLine := by
        rw [List.length_append, List.length_map, hg0, hsl]; unfold sizeLine; omega
      refine x_cons (s_append (d := .bl (rowFits r X na nb)) 8 rfl (e_call (fit_behind_ok T) hr (a_cons (e_var 2 rfl) (a_cons (e_var 10 rfl) (a_cons (e_listOf T.list (e_var 15 rfl) (.tup _)) (a_cons (e_var 16 rfl) a_nil)))) ⟨r, _, X, na, nb, .lst (na.map .int), tD nb, okf.rm, nd, argR1 r, la, lb, rows_five sr hra, rows_five sr hrb, Nat.le_trans (dep_tD na) (by decide), by rw [← lst_tD]; exact tup_lst_tD na, Nat.le_trans (dep_tD nb) (by decide), tup_tD nb, rfl, rfl⟩) ?_ hsz)
      refine x_one (s_append (d := .bl (rowFits r X na nb)) 9 rfl (e_call (law_row_fits_ok T) hr (a_cons (e_var 1 rfl) (a_cons (e_var 10 rfl) (a_cons (e_var 15 rfl) (a_cons (e_var 16 rfl) a_nil)))) ⟨r, X, na, nb, nd, Nat.le_trans rf.le (by decide), la, lb, rfl, rfl⟩) ?_ hsz)
      refine ⟨.dat (.int (i : Nat)), .dat (tD na), .dat (tD nb), ?_⟩
      dsimp only
      rw [List.map_append, ← List.append_assoc]; rfl
    · rintro ρ' ⟨u14, u15, u16, rfl⟩
      rw [List.length_range]
      obtain ⟨t9, ht9⟩ : ∃ t9, t9 = (lapS r X a.2 3).2 := ⟨_, rfl⟩
      obtain ⟨G1, hG1⟩ : ∃ G1 : List D, G1 = G0 ++ (lapS r X a.2 3).1.map .bl := ⟨_, rfl⟩
      have o9 : okT 1900 t9 := by rw [ht9]; exact lapS_ok (m := 1900) 3 (o3.mono (by omega))
      rw [← ht9, ← hG1]
      have hg1 : G1.length = 9 := by rw [hG1, List.length_append, List.length_map, hg0, lapS_len]
      have hmr : ∀ q ∈ m, q.length ≤ 512 := fun q hq => by
        rw [hm, reachM_range] at hq
        obtain ⟨i, _, rfl⟩ := List.mem_map.mp hq
        rw [RS_step]
        exact Nat.le_trans (stepR_le r ls _ _) (cnt_of nd rf.le ls _)
      have hmw : ∀ q ∈ m, ∀ row ∈ q, row.length ≤ 1000 := fun q hq row hrow => by
        rw [hm, reachM_range] at hq
        obtain ⟨i, _, rfl⟩ := List.mem_map.mp hq
        rw [RS_len row hrow]
        exact Nat.le_trans (rf.c _) (by decide)
      have hmne : m ≠ [] := fun z => by rw [z] at hml; simp at hml; omega
      obtain ⟨gB, hgB⟩ : ∃ gB : Nat → D, gB = fun i => .tup ((bentL (bentsT m t9 i) m).map bD) := ⟨_, rfl⟩
      refine x_forget 14 ?_
      refine x_cons (s_setLcM (y := ("_law_lap" : Str)) (k := .st) (n := 4) 17 14 (fun i => [.own true bb (.lst (t3 (bentsT m t9 i))), .dat (roomD r), .dat (lstD (roomD r)), .dat (rowsD (floorsM r)), .dat (letsS ls), .dat (rowsD kept), .dat (rchD m), .dat (.lst (r.map fun p => .int p.1)), (.own false c8' (.lst G1)), (.own false c9' (.lst G1)), .dat (.int X), .dat (roomD (col r X)), .dat (rowsD B'), .dat (rowsD A'), .any, u15, u16, .any, .any, .any, .any]) gB rfl sc.nd (i_rangeN T.range e_int rfl (by omega)) (blkOk_by (by kernel_rfl)) (fun _ _ _ _ _ => t_one 14 sc.nd) rfl (fun i => mo_change (i := 0) (pp := true) (cc := bb) (d := .lst (t3 t9)) (d2 := .lst (t3 (bentsT m t9 i))) rfl) (fun i => rfl) (fun i hi s0 H00 C cl fp => ?_) ?_)
      · have ob := bentsT_ok (m := m) (k := 1800) i (o9.mono (by omega))
        rw [hgB]
        exact EvM.castE (m_callM (tin' := t3 (bentsT m t9 (i + 1))) 0 (law_bent_ok T) hr rfl (ma_cons (m_e (e_var 6 rfl)) ma_nil) rfl ⟨bentsT m t9 i, m, hmne, by rw [hml]; omega, fun q hq => Nat.le_trans (hmr q hq) (by decide), hmw, ob.mono (by decide), rfl, rfl, rfl, rfl⟩) rfl rfl
      show Ex _ [.own true bb (.lst (t3 (bentsT m t9 4))), .dat (roomD r), .dat (lstD (roomD r)), .dat (rowsD (floorsM r)), .dat (letsS ls), .dat (rowsD kept), .dat (rchD m), .dat (.lst (r.map fun p => .int p.1)), (.own false c8' (.lst G1)), (.own false c9' (.lst G1)), .dat (.int X), .dat (roomD (col r X)), .dat (rowsD B'), .dat (rowsD A'), .any, u15, u16, .dat (.lst ((List.range 4).map gB)), .any, .any, .any] _ _ _
      obtain ⟨bl, hbl⟩ : ∃ bl : Nat → Bool, bl = fun i => sameD (.tup ((bentL (bentsT m t9 i) m).map bD)) (rchD m) := ⟨_, rfl⟩
      have hsz : G1.length < sizeLine := by rw [hg1]; unfold sizeLine; omega
      have hfl2 : ∀ i, (flatI (gB i)).length ≤ 1000000 := fun i => by
        rw [hgB]
        have h1 := flat_bent (bentL (bentsT m t9 i) m) 513 (bentL_row hmr)
        have h2 := bentL_len (t := bentsT m t9 i) (m := m)
        have h3 : (bentL (bentsT m t9 i) m).length * 513 ≤ 102 * 513 := Nat.mul_le_mul_right _ (by omega)
        exact Nat.le_trans h1 (Nat.le_trans h3 (by decide))
      refine x_cons (s_append (k := .fr) (d := .lst ((List.range 4).map fun i => .bl (bl i))) 8 rfl (e_lc0 (k := .st) (own := [("_law_own", 18)]) (l := List.range 4) (f := gB) (g := fun i => .bl (bl i)) (.one 18) rfl sc.nd (i_list (e_var 17 rfl)) (blkOk_by (by kernel_rfl)) (fun _ _ _ _ _ => t_one 18 sc.nd) fun i _ _ _ _ _ _ => (e_call (is_reaches_ok T) hr (a_cons (e_var 2 rfl) (a_cons (e_var 4 rfl) (a_cons (e_var 18 rfl) a_nil))) ⟨r, ls, _, _, gB i, okf, argR1 r, argL0 ls, hfl2 i, by rw [hgB]; exact (pl_tup pl_b _).shp, rfl, by rw [hbl, ← hm, hgB]; exact congrArg D.bl (is_bent _ _).symm⟩)) ?_ hsz)
      refine x_cons (s_append (k := .fr) (d := .lst ((List.range 4).map fun i => .bl (bl i))) 9 rfl (e_lc0 (k := .st) (own := [("_law_own", 18)]) (l := List.range 4) (f := gB) (g := fun i => .bl (bl i)) (.one 18) rfl sc.nd (i_list (e_var 17 rfl)) (blkOk_by (by kernel_rfl)) (fun _ _ _ _ _ => t_one 18 sc.nd) fun i _ _ _ _ _ _ => (e_call (law_is_own_ok T 4) hr (a_cons (e_var 18 rfl) (a_cons (e_var 6 rfl) a_nil)) ⟨(bentL (bentsT m t9 i) m).map bD, rchD m, by rw [hgB], Nat.le_trans (dep_rch m) (by decide), okS_bent _ _, by rw [hbl]⟩)) ?_ hsz)
      obtain ⟨G2, hG2⟩ : ∃ G2 : List D, G2 = G1 ++ [.lst ((List.range 4).map fun i => .bl (bl i))] := ⟨_, rfl⟩
      rw [← hG2]
      refine x_freeze 8 rfl ?_
      refine x_freeze 9 rfl ?_
      have hgd : good (.lst G2) = true := by
        rw [good, hG2, hG1, hG0]
        refine goods_app (goods_app ?_ (goods_map (fun _ => by simp [good]) _)) ?_
        · simp only [goods, good_rch, good_room, good_rt, Bool.true_and, Bool.and_true]
          simp [good]
        · show (good (.lst _) && true) = true
          rw [good, goods_map (fun _ => by simp [good])]; rfl
      have hdp : dep (.lst G2) ≤ 5 := by
        show deps G2 + 1 ≤ 5
        rw [hG2, hG1, hG0]
        have h1 := dep_rch m
        have h2 := dep_room (col r X)
        have h3 := dep_rt (lawRows r ls X)
        have h4 := dep_rt (setOf (kept.map (restr r X)))
        have h5 : deps ((lapS r X a.2 3).1.map D.bl) ≤ 0 := deps_map (f := D.bl) (n := 0) (fun _ => Nat.le_refl _) _
        have h6 : deps ((List.range 4).map fun i => D.bl (bl i)) ≤ 0 := deps_map (f := fun i : Nat => D.bl (bl i)) (n := 0) (fun _ => Nat.le_refl _) _
        have : deps (([rchD m, .bl (decide (kept = [])), .int far, roomD (col r X), rtD (lawRows r ls X), rtD (setOf (kept.map (restr r X)))] ++ (lapS r X a.2 3).1.map D.bl) ++ [.lst ((List.range 4).map fun i => .bl (bl i))]) ≤ 4 := by
          refine deps_app (deps_app ?_ (Nat.le_trans h5 (by decide))) ?_
          · show max (dep (rchD m)) (max 0 (max 0 (max (dep (roomD (col r X))) (max (dep (rtD (lawRows r ls X))) (max (dep (rtD (setOf (kept.map (restr r X))))) 0))))) ≤ 4
            omega
          · show max (deps ((List.range 4).map fun i => D.bl (bl i)) + 1) 0 ≤ 4
            omega
        omega
      obtain ⟨go1, go2⟩ := good_ok hgd
      exact x_one (s_ret (Ev.cast (e_call (law_same_ok T 5) hr (a_cons (e_var 8 rfl) (a_cons (e_var 9 rfl) a_nil)) ⟨.lst G2, .lst G2, rfl, hdp, go1, rfl⟩) (congrArg D.bl go2)) ⟨rfl, by rw [← hm]; rfl⟩)
  · show 5 < sizeLine
    unfold sizeLine; omega
end
end TR
/-! ## E22 -/
set_option Elab.async false
set_option linter.all false
set_option maxRecDepth 100000
set_option maxHeartbeats 4000000
namespace TR
open PySem L2
/-! ### by hand: rooms told outright -/
def chkL (r : List Sq) (ls : Lets) : Bool := (ls.all fun q => decide (q.1 ∈ r) && q.2.all okK && upI q.2) && upS (ls.map (·.1)) && decide ((ls.map (·.1)).Nodup)
def chkR (r : List Sq) : Bool := decide (r ≠ []) && decide (r.length ≤ 1000) && (r.all fun p => decide (0 ≤ p.1 ∧ p.1 ≤ 100 ∧ 0 ≤ p.2) && decide ((col r p.1).length ≤ 7)) && decide (r.Pairwise fun a b => a.1 < b.1 ∨ (a.1 = b.1 ∧ a.2 < b.2))
def chkC (r : List Sq) (ls : Lets) : Bool := (cols r).all fun c => decide ((rowsBy r ls c).length ≤ 1024)
theorem chkL_ok {r : List Sq} {ls : Lets} (h : chkL r ls = true) : okL r ls ∧ (ls.map (·.1)).Nodup := by
  unfold chkL at h
  simp only [Bool.and_eq_true, List.all_eq_true, decide_eq_true_eq] at h
  exact ⟨⟨fun q hq => (h.1.1 q hq).1.1, fun q hq => (h.1.1 q hq).1.2, fun q hq => (h.1.1 q hq).2, h.1.2⟩, h.2⟩
theorem chkR_ok {r : List Sq} (h : chkR r = true) : r ≠ [] ∧ SR r ∧ r.length ≤ 1000 ∧ (∀ p ∈ r, 0 ≤ p.1 ∧ p.1 ≤ 100 ∧ 0 ≤ p.2) ∧ ∀ x, (col r x).length ≤ 7 := by
  unfold chkR at h
  simp only [Bool.and_eq_true, List.all_eq_true, decide_eq_true_eq] at h
  refine ⟨h.1.1.1, h.2, h.1.1.2, fun p hp => (h.1.2 p hp).1, fun x => ?_⟩
  by_cases c : col r x = []
  · rw [c]; exact Nat.zero_le _
  · obtain ⟨p, hp⟩ := List.exists_mem_of_ne_nil _ c
    have := (h.1.2 p (col_mem.mp hp).1).2
    rw [(col_mem.mp hp).2] at this
    exact this
theorem chk_okF {r : List Sq} {ls : Lets} (h1 : chkR r = true) (h2 : chkL r ls = true) (h3 : chkC r ls = true) : okF r ls := by
  obtain ⟨a, b, c, d, e⟩ := chkR_ok h1
  obtain ⟨f, g⟩ := chkL_ok h2
  unfold chkC at h3
  simp only [List.all_eq_true, decide_eq_true_eq] at h3
  exact okF_of a b c d e h3 f g
def twoR : List Sq := [(0, 0), (0, 1), (1, 0), (1, 1)]
def threeR : List Sq := [(0, 0), (0, 1), (0, 2), (1, 0), (1, 1), (1, 2), (2, 0), (2, 1), (2, 2)]
def gapR : List Sq := [(0, 0), (2, 0)]
def ragR : List Sq := [(0, 0), (1, 1)]
def halvesL : Lets := [((0, 0), [0]), ((0, 1), [0]), ((1, 0), [0])]
def amidL : Lets := [((1, 1), [0])]
def ragL : Lets := [((0, 0), [1])]
def noneL : Lets := [((0, 0), [])]
def oneL : Lets := [((0, 1), [2])]
def firstL : Lets := [((0, 0), [2])]
def sevenR : List Sq := boxS 7 2
def sixR : List Sq := boxS 6 2
theorem two_box : boxS 2 2 = twoR := by decide +kernel
theorem three_box : boxS 3 3 = threeR := by decide +kernel
theorem cR2 : chkR twoR = true := by decide +kernel
theorem cR3 : chkR threeR = true := by decide +kernel
theorem cRg : chkR gapR = true := by decide +kernel
theorem cRr : chkR ragR = true := by decide +kernel
theorem cR7 : chkR sevenR = true := by decide +kernel
theorem cR6 : chkR sixR = true := by decide +kernel
theorem f2n : okF twoR [] := chk_okF cR2 (by decide +kernel) (by decide +kernel)
theorem f2h : okF twoR halvesL := chk_okF cR2 (by decide +kernel) (by decide +kernel)
theorem f20 : okF twoR noneL := chk_okF cR2 (by decide +kernel) (by decide +kernel)
theorem f2f : okF twoR firstL := chk_okF cR2 (by decide +kernel) (by decide +kernel)
theorem f3n : okF threeR [] := chk_okF cR3 (by decide +kernel) (by decide +kernel)
theorem f3o : okF threeR oneL := chk_okF cR3 (by decide +kernel) (by decide +kernel)
theorem f3a : okF threeR amidL := chk_okF cR3 (by decide +kernel) (by decide +kernel)
theorem fgn : okF gapR [] := chk_okF cRg (by decide +kernel) (by decide +kernel)
theorem frr : okF ragR ragL := chk_okF cRr (by decide +kernel) (by decide +kernel)
theorem f7n : okF sevenR [] := chk_okF cR7 (by decide +kernel) (by decide +kernel)
theorem f6n : okF sixR [] := chk_okF cR6 (by decide +kernel) (by decide +kernel)
theorem nx2 : okNx twoR := okNx_of (chkR_ok cR2).2.1
theorem nx3 : okNx threeR := okNx_of (chkR_ok cR3).2.1
theorem nxg : okNx gapR := okNx_of (chkR_ok cRg).2.1
/-! what is told -/
theorem v_c1 : col threeR 1 = [(1, 0), (1, 1), (1, 2)] := by decide +kernel
theorem v_c7 : col threeR 7 = [] := by decide +kernel
theorem v_c2 : col twoR 1 = [(1, 0), (1, 1)] := by decide +kernel
theorem v_r1 : setOf (rowsBy twoR [] (col twoR 1)) = [[0, 0], [0, 3], [2, 4], [3, 0], [3, 3]] := by decide +kernel
theorem v_r2 : (setOf (rowsBy threeR [] (col threeR 1))).length = 33 := by decide +kernel
theorem v_r3 : setOf (rowsBy threeR oneL (col threeR 0)) = [[0, 2, 4], [1, 2, 4]] := by decide +kernel
theorem v_r4 : setOf (rowsBy twoR [] (col twoR 5)) = [[]] := by decide +kernel
theorem v_r5 : setOf (rowsBy twoR firstL (col twoR 0)) = [[2, 4]] := by decide +kernel
theorem v_m1 : reachM twoR halvesL = [[[0, 0]], []] := by decide +kernel
theorem v_m2 : reachM gapR [] = [[[0]], [[]], [[0]]] := by decide +kernel
theorem v_m3 : reachM ragR ragL = [[], []] := by decide +kernel
theorem v_m4 : ((reachM twoR noneL).filter fun l => !decide (l = [])).length = 0 := by decide +kernel
theorem v_m5 : (reachM twoR []).getLast?.map (fun l => decide (l = [])) = some false := by decide +kernel
theorem v_m6 : (reachM threeR amidL)[0]?.map (·.length) = some 12 := by decide +kernel
theorem v_l1 : (leftM twoR halvesL (pairsM twoR halvesL)).map setOf = [[], []] := by decide +kernel
theorem v_l2 : ((leftM twoR [] (pairsM twoR [])).getLast?.getD [] = []) = False := by
  have : decide ((leftM twoR [] (pairsM twoR [])).getLast?.getD [] = []) = false := by decide +kernel
  simpa using this
theorem v_l3 : (leftM gapR [] (pairsM gapR [])).getLast?.getD [] = [[0]] := by decide +kernel
theorem v_l4 : setOf ((leftM threeR amidL (pairsM threeR amidL))[0]?.getD []) = [[1, 2, 4], [2, 4, 1]] := by decide +kernel
theorem v_l5 : setOf ((leftM threeR amidL (pairsM threeR amidL))[1]?.getD []) = [[1, 0, 3], [3, 0, 1]] := by decide +kernel
end TR
/-! ## E23 -/
set_option Elab.async false
set_option linter.all false
set_option maxRecDepth 100000
set_option maxHeartbeats 4000000
namespace TR
open PySem L2 PySem.Spec PyProof.Rows
/-! ### calls with keywords, of defs as they stand -/
theorem fd_same {K : PySem.W.Frag} {mg : Str → Option Value} {x : Str} {st : Stmt} {f : Addr} {fd : FuncData} (T : FnT K mg x st) (hm : mg x = some (.ref f)) (h : ∃ (p : Arguments) (b : List Stmt) (s : Scope), FunD K x x p b s [] [] f fd) : FunD K x x (defArgs st) (defBody st) (defScope st) [] [] f fd := by
  obtain ⟨f', fd', F, hm'⟩ := T.ex
  rw [hm] at hm'
  have e : f = f' := Value.ref.inj (Option.some.inj hm')
  subst e
  obtain ⟨p, b, s, G⟩ := h
  obtain ⟨_, _, _, _, _, _, _, _, _, _, _, l1, _⟩ := F.ex
  obtain ⟨_, _, _, _, _, _, _, _, _, _, _, l2, _⟩ := G.ex
  rw [l1] at l2
  have e2 : fd' = fd := by
    have := Option.some.inj l2
    injection this with _ _ h3 _
    injection h3
  rw [← e2]; exact F
theorem kb_of {K : PySem.W.Frag} {x : Str} {st : Stmt} {f : Addr} {fd : FuncData} {ps ks : List Str} (F : FunD K x x (defArgs st) (defBody st) (defScope st) [] [] f fd) (g : {α : Type} → List α → List α → List α)
    (h : ∀ (kV doc pm : Value) (an : Option Addr) (cdv ct : Value) (us ws : List Value), (g us ws).length = ps.length → bindArgs (PySem.W.fnOf x x (defArgs st) (defBody st) (defScope st) .none kV doc pm an cdv ct) ⟨us, ks.zip ws⟩ = pure (ps.zip (g us ws)))
    (rel : ∀ {vs : List V} {us : List Value} {zs : List V} {ws : List Value}, Vals vs us → Vals zs ws → Vals (g vs zs) (g us ws)) : KBinds K fd ps ks (g (α := Value)) (g (α := V)) := by
  obtain ⟨oc, od, dV, kV, doc, pm, an, cdv, ct, osl, rfl, lk, hcd, hD, hK⟩ := F.ex
  rcases hD with ⟨_, rfl⟩ | ⟨e, _⟩
  · exact ⟨fun s us ws _ hl => .of_eq (h kV doc pm an cdv ct us ws hl), rel⟩
  · exact absurd rfl e
def g22 {α : Type} : List α → List α → List α
  | [a, b], [c, d] => [a, b, d, c]
  | _, _ => []
def g02 {α : Type} : List α → List α → List α
  | [], [a, b] => [b, a]
  | _, _ => []
def g03 {α : Type} : List α → List α → List α
  | [], [a, b, c] => [c, b, a]
  | _, _ => []
theorem g22_len {α : Type} : ∀ {us ws : List α}, (g22 us ws).length = 4 → ∃ a b c d, us = [a, b] ∧ ws = [c, d]
  | [a, b], [c, d], _ => ⟨a, b, c, d, rfl, rfl⟩
  | [], _, h => by cases ‹List α› <;> cases h
  | [_], _, h => by cases h
  | _ :: _ :: _ :: _, _, h => by cases h
  | [_, _], [], h => by cases h
  | [_, _], [_], h => by cases h
  | [_, _], _ :: _ :: _ :: _, h => by cases h
theorem g02_len {α : Type} : ∀ {us ws : List α}, (g02 us ws).length = 2 → ∃ a b, us = [] ∧ ws = [a, b]
  | [], [a, b], _ => ⟨a, b, rfl, rfl⟩
  | [], [], h => by cases h
  | [], [_], h => by cases h
  | [], _ :: _ :: _ :: _, h => by cases h
  | _ :: _, _, h => by cases h
theorem g03_len {α : Type} : ∀ {us ws : List α}, (g03 us ws).length = 3 → ∃ a b c, us = [] ∧ ws = [a, b, c]
  | [], [a, b, c], _ => ⟨a, b, c, rfl, rfl⟩
  | [], [], h => by cases h
  | [], [_], h => by cases h
  | [], [_, _], h => by cases h
  | [], _ :: _ :: _ :: _ :: _, h => by cases h
  | _ :: _, _, h => by cases h
theorem g22_rel {vs : List V} {us : List Value} {zs : List V} {ws : List Value} (h : Vals vs us) (h' : Vals zs ws) : Vals (g22 vs zs) (g22 us ws) := by
  cases h with
  | nil => cases h' <;> exact .nil
  | cons a h =>
    cases h with
    | nil => exact .nil
    | cons b h =>
      cases h with
      | nil =>
        cases h' with
        | nil => exact .nil
        | cons c h' =>
          cases h' with
          | nil => exact .nil
          | cons d h' =>
            cases h' with
            | nil => exact .cons a (.cons b (.cons d (.cons c .nil)))
            | cons _ _ => exact .nil
      | cons _ _ => exact .nil
theorem g02_rel {vs : List V} {us : List Value} {zs : List V} {ws : List Value} (h : Vals vs us) (h' : Vals zs ws) : Vals (g02 vs zs) (g02 us ws) := by
  cases h with
  | nil =>
    cases h' with
    | nil => exact .nil
    | cons c h' =>
      cases h' with
      | nil => exact .nil
      | cons d h' =>
        cases h' with
        | nil => exact .cons d (.cons c .nil)
        | cons _ _ => exact .nil
  | cons a h => exact .nil
theorem g03_rel {vs : List V} {us : List Value} {zs : List V} {ws : List Value} (h : Vals vs us) (h' : Vals zs ws) : Vals (g03 vs zs) (g03 us ws) := by
  cases h with
  | nil =>
    cases h' with
    | nil => exact .nil
    | cons c h' =>
      cases h' with
      | nil => exact .nil
      | cons d h' =>
        cases h' with
        | nil => exact .nil
        | cons e h' =>
          cases h' with
          | nil => exact .cons e (.cons d (.cons c .nil))
          | cons _ _ => exact .nil
  | cons a h => exact .nil
section
variable {X : Cx} {ρ : En} {e : Expr} {es : List Expr} {d : D} {pos p : Pos} {ds : List D} {x : Str}
theorem e_callKT {S : List D → D → Prop} {ps ks : List Str} {kws : List Keyword} {st : Stmt} {j n kk : Nat} {dk : List D} (gV : {α : Type} → List α → List α → List α) (G : FnI X.prog X.w X.K X.mg X.base j x ps (spD n S)) (T : FnT X.K X.mg x st) (hr : Room kk X.A) (ha : EvA true X ρ (e :: es) ds) (hkw : EvK X ρ kws dk) (hS : S (gV ds dk) d)
    (hb : ∀ (kV doc pm : Value) (an : Option Addr) (cdv ct : Value) (us ws : List Value), (gV us ws).length = ps.length → bindArgs (PySem.W.fnOf x x (defArgs st) (defBody st) (defScope st) .none kV doc pm an cdv ct) ⟨us, ks.zip ws⟩ = pure (ps.zip (gV us ws))) (rel : ∀ {vs : List V} {us : List Value} {zs : List V} {ws : List Value}, Vals vs us → Vals zs ws → Vals (gV vs zs) (gV us ws))
    (hat : ∀ {Z : Addr → Prop} {H : Hp} {vs zs : List V}, Ats Z H vs ds → Ats Z H zs dk → Ats Z H (gV vs zs) (gV ds dk)) (hj : j ≤ kk := by decide) (hn : (gV ds dk).length = n := by rfl)
    (hg : Gl X x := by rfl) (hall : (backToKw pos (keywordEach kws X.env)).all (·.1.isSome) = true := by rfl) (hks : (backToKw pos (keywordEach kws X.env)).filterMap (·.1) = ks := by rfl)
    (hdb : (x == ("__debug__" : Str)) = false := by decide) (he : starEach (e :: es) X.env = (false, eval e X.env) :: starEach es X.env := by rfl) (hpl : ((backTo pos (starEach (e :: es) X.env)).any (·.1) || (backToKw pos (keywordEach kws X.env)).any (·.1.isNone)) = false := by rfl) :
    Ev .st X ρ (.Call (.Name x p) (e :: es) kws pos) d := .mk fun F σ H E Q q => by
  obtain ⟨f, fd, ok, hm, kp, _, hF⟩ := G.ex
  refine wT.of (pe_callK (ok.mono hj) hr hg hm kp (kb_of (fd_same T hm hF) gV hb rel) (pass0) pa_w pk_w hall hks hdb he hpl) (ha F σ H E _ fun vs H1 s1 r1 => hkw.go (E.same s1) fun zs H2 s2 r2 => ?_)
  have a := hat (r1.ats.same s2) r2
  exact ⟨Av F ρ, _, d, by rw [a.length]; exact hn, ((E.same s1).same s2).avo, a, hS, fun v H3 s3 a => q v H3 ((s1.trans s2).trans s3) a⟩
theorem e_callK0T {S : List D → D → Prop} {ps ks : List Str} {kws : List Keyword} {st : Stmt} {j n kk : Nat} {dk : List D} (gV : {α : Type} → List α → List α → List α) (G : FnI X.prog X.w X.K X.mg X.base j x ps (spD n S)) (T : FnT X.K X.mg x st) (hr : Room kk X.A) (hkw : EvK X ρ kws dk) (hS : S (gV [] dk) d)
    (hb : ∀ (kV doc pm : Value) (an : Option Addr) (cdv ct : Value) (us ws : List Value), (gV us ws).length = ps.length → bindArgs (PySem.W.fnOf x x (defArgs st) (defBody st) (defScope st) .none kV doc pm an cdv ct) ⟨us, ks.zip ws⟩ = pure (ps.zip (gV us ws))) (rel : ∀ {vs : List V} {us : List Value} {zs : List V} {ws : List Value}, Vals vs us → Vals zs ws → Vals (gV vs zs) (gV us ws))
    (hat : ∀ {Z : Addr → Prop} {H : Hp} {zs : List V}, Ats Z H zs dk → Ats Z H (gV [] zs) (gV [] dk)) (hj : j ≤ kk := by decide) (hn : (gV [] dk).length = n := by rfl)
    (hg : Gl X x := by rfl) (hall : (backToKw pos (keywordEach kws X.env)).all (·.1.isSome) = true := by rfl) (hks : (backToKw pos (keywordEach kws X.env)).filterMap (·.1) = ks := by rfl)
    (hdb : (x == ("__debug__" : Str)) = false := by decide) (hpl : ((backTo pos (starEach [] X.env)).any (·.1) || (backToKw pos (keywordEach kws X.env)).any (·.1.isNone)) = false := by rfl) :
    Ev .st X ρ (.Call (.Name x p) [] kws pos) d := .mk fun F σ H E Q q => by
  obtain ⟨f, fd, ok, hm, kp, _, hF⟩ := G.ex
  refine wT.of (pe_callK0 (ok.mono hj) hr hg hm kp (kb_of (fd_same T hm hF) gV hb rel) (pass0) pk_w hall hks hdb hpl) (hkw.go E fun zs H2 s2 r2 => ?_)
  have a := hat r2
  exact ⟨Av F ρ, _, d, by rw [a.length]; exact hn, (E.same s2).avo, a, hS, fun v H3 s3 a => q v H3 (s2.trans s3) a⟩
end
theorem b_fit (kV doc pm : Value) (an : Option Addr) (cdv ct : Value) (us ws : List Value) (h : (g22 us ws).length = (["room", "x", "ahead", "row"] : List Str).length) : bindArgs (PySem.W.fnOf "fit_behind" "fit_behind" (defArgs (topS 57)) (defBody (topS 57)) (defScope (topS 57)) .none kV doc pm an cdv ct) ⟨us, (["row", "ahead"] : List Str).zip ws⟩ = pure ((["room", "x", "ahead", "row"] : List Str).zip (g22 us ws)) := by
  obtain ⟨a, b, c, d, rfl, rfl⟩ := g22_len h
  rfl
theorem b_reaches (kV doc pm : Value) (an : Option Addr) (cdv ct : Value) (us ws : List Value) (h : (g02 us ws).length = (["room", "lets"] : List Str).length) : bindArgs (PySem.W.fnOf "reaches" "reaches" (defArgs (topS 58)) (defBody (topS 58)) (defScope (topS 58)) .none kV doc pm an cdv ct) ⟨us, (["lets", "room"] : List Str).zip ws⟩ = pure ((["room", "lets"] : List Str).zip (g02 us ws)) := by
  obtain ⟨a, b, rfl, rfl⟩ := g02_len h
  rfl
theorem b_shut (kV doc pm : Value) (an : Option Addr) (cdv ct : Value) (us ws : List Value) (h : (g02 us ws).length = (["room", "lets"] : List Str).length) : bindArgs (PySem.W.fnOf "is_shut" "is_shut" (defArgs (topS 61)) (defBody (topS 61)) (defScope (topS 61)) .none kV doc pm an cdv ct) ⟨us, (["lets", "room"] : List Str).zip ws⟩ = pure ((["room", "lets"] : List Str).zip (g02 us ws)) := by
  obtain ⟨a, b, rfl, rfl⟩ := g02_len h
  rfl
theorem b_far (kV doc pm : Value) (an : Option Addr) (cdv ct : Value) (us ws : List Value) (h : (g02 us ws).length = (["room", "lets"] : List Str).length) : bindArgs (PySem.W.fnOf "how_far" "how_far" (defArgs (topS 62)) (defBody (topS 62)) (defScope (topS 62)) .none kV doc pm an cdv ct) ⟨us, (["lets", "room"] : List Str).zip ws⟩ = pure ((["room", "lets"] : List Str).zip (g02 us ws)) := by
  obtain ⟨a, b, rfl, rfl⟩ := g02_len h
  rfl
theorem b_isr (kV doc pm : Value) (an : Option Addr) (cdv ct : Value) (us ws : List Value) (h : (g03 us ws).length = (["room", "lets", "thing"] : List Str).length) : bindArgs (PySem.W.fnOf "is_reaches" "is_reaches" (defArgs (topS 60)) (defBody (topS 60)) (defScope (topS 60)) .none kV doc pm an cdv ct) ⟨us, (["thing", "lets", "room"] : List Str).zip ws⟩ = pure ((["room", "lets", "thing"] : List Str).zip (g03 us ws)) := by
  obtain ⟨a, b, c, rfl, rfl⟩ := g03_len h
  rfl
theorem at22 {Z : Addr → Prop} {H : Hp} {a b c d : D} {vs zs : List V} (h : Ats Z H vs [a, b]) (h' : Ats Z H zs [c, d]) : Ats Z H (g22 vs zs) (g22 [a, b] [c, d]) := by
  cases h with
  | cons x h => cases h with | cons y h => cases h; cases h' with | cons z h' => cases h' with | cons u h' => cases h'; exact .cons x (.cons y (.cons u (.cons z .nil)))
theorem at02 {Z : Addr → Prop} {H : Hp} {c d : D} {zs : List V} (h' : Ats Z H zs [c, d]) : Ats Z H (g02 [] zs) (g02 [] [c, d]) := by
  cases h' with | cons z h' => cases h' with | cons u h' => cases h'; exact .cons u (.cons z .nil)
theorem at03 {Z : Addr → Prop} {H : Hp} {c d e : D} {zs : List V} (h' : Ats Z H zs [c, d, e]) : Ats Z H (g03 [] zs) (g03 [] [c, d, e]) := by
  cases h' with | cons z h' => cases h' with | cons u h' => cases h' with | cons y h' => cases h'; exact .cons y (.cons u (.cons z .nil))
end TR
/-! ## E24 -/
set_option Elab.async false
set_option linter.all false
set_option maxRecDepth 100000
set_option maxHeartbeats 4000000
namespace TR
open PySem L2
theorem v_r6 : (setOf (rowsBy sevenR [] (col sevenR 0))).length = 408 := by decide +kernel
theorem v_m7 : (reachM sixR [])[0]?.map (·.length) = some 169 := by decide +kernel
theorem argLt (ls : Lets) : ArgL ls (.tup (ls.map letD)) := ⟨(argL0 ls).1, (argL0 ls).2⟩
theorem argLu (ls : Lets) : ArgL ls (lstD (.tup (ls.map letD))) := argL1 ls
theorem l_two9 : leftD twoR [] 9 = .tup [.tup []] := by
  unfold leftD
  rw [if_pos (by decide +kernel), if_neg (by rw [v_l2]; exact id)]
theorem l_twoh9 : leftD twoR halvesL 9 = .tup [] := by
  unfold leftD
  rw [if_pos (by decide +kernel), if_pos (by decide +kernel)]
theorem l_twoh0 : leftD twoR halvesL 0 = .tup [] := by
  unfold leftD
  rw [if_neg (by decide +kernel)]
  exact congrArg rtD (show setOf ((leftM twoR halvesL (pairsM twoR halvesL))[(0 - loX twoR).toNat]?.getD []) = [] by decide +kernel)
theorem l_gap1 : leftD gapR [] 1 = .tup [.tup []] := by
  unfold leftD
  rw [if_pos (by decide +kernel), if_neg (by decide +kernel)]
theorem l_three0 : leftD threeR amidL 0 = rtD [[1, 2, 4], [2, 4, 1]] := by
  unfold leftD
  rw [if_neg (by decide +kernel)]
  exact congrArg rtD v_l4
theorem l_three1 : leftD threeR amidL 1 = rtD [[1, 0, 3], [3, 0, 1]] := by
  unfold leftD
  rw [if_neg (by decide +kernel)]
  exact congrArg rtD v_l5
def fitL : List (List Int × List Int) := [([1, 0], [3, 0]), ([0, 0], [0, 0]), ([2, 4], [0, 0]), ([1, 0], [0, 0]), ([0, 1], [2, 4]), ([0, 0], [2, 4])]
theorem fitL_v : (fitL.map fun q => D.bl (rowFits twoR 1 q.1 q.2)) = [.bl true, .bl false, .bl true, .bl false, .bl false, .bl true] := by
  have h : (fitL.map fun q => rowFits twoR 1 q.1 q.2) = [true, false, true, false, false, true] := by decide +kernel
  have := congrArg (List.map D.bl) h
  rw [List.map_map] at this
  exact this
theorem fitL_k : ∀ q ∈ fitL, q.1.length = (col twoR (1 - 1)).length ∧ q.2.length = (col twoR 1).length ∧ (∀ k ∈ q.1, okK k = true) ∧ ∀ k ∈ q.2, okK k = true := by decide +kernel
theorem fit_0 : rowFits twoR 0 [] [3, 3] = true := by decide +kernel
theorem fit_1 : rowFits twoR 1 [1, 0] [3, 0] = true := by decide +kernel
def thL : List D := [.tup [.tup [.tup [.int 0, .int 0]], .tup []], .tup [.tup [.tup [.int 0, .int 0], .tup [.int 0, .int 0]], .tup []], .tup [.lst [.tup [.int 0, .int 0]], .tup []], .tup [.tup [.tup [.int 0, .int 0]]], .tup [.tup [.tup [.int 0, .bl false]], .tup []], .non, .int 4, .tup [.tup [.int 0, .int 0], .tup []]]
def thG (th : D) : D := .bl (areRows th && eqD th (rchD (reachM twoR halvesL)))
theorem thL_v : thL.map thG = [.bl true, .bl false, .bl false, .bl false, .bl false, .bl false, .bl false, .bl false] := by
  have h : (thL.map fun th => areRows th && eqD th (rchD [[[0, 0]], []])) = [true, false, false, false, false, false, false, false] := by decide +kernel
  have := congrArg (List.map D.bl) h
  rw [List.map_map] at this
  unfold thG
  rw [v_m1]
  exact this
theorem thL_k : (thL.all fun th => decide ((flatI th).length ≤ 1000000) && shp th) = true := by decide +kernel

def gB1 : List D := [roomD [(1, 0), (1, 1), (1, 2)], .tup [], rtD [[0, 0], [0, 3], [2, 4], [3, 0], [3, 3]], .int 33, rtD [[0, 2, 4], [1, 2, 4]], rtD [[]]]
def fitD : D := .lst [.bl true, .bl false, .bl true, .bl false, .bl false, .bl true]
def gB2 : List D := gB1 ++ [fitD, .bl true]
def gB3 : List D := gB2 ++ [rchD [[[0, 0]], []], .bl true, .int 1, .int 0, .bl false, .tup [], .tup [.tup []], .tup []]
def gB4 : List D := gB3 ++ [rchD [[[0]], [[]], [[0]]], rchD [[], []], .bl true, .tup [.tup []]]
def gB5 : List D := gB4 ++ [rtD [[1, 2, 4], [2, 4, 1]], rtD [[1, 0, 3], [3, 0, 1]], .int 12]
def thgD : D := .lst [.bl true, .bl false, .bl false, .bl false, .bl false, .bl false, .bl false, .bl false]
def gB6 : List D := gB5 ++ [thgD]
def gB7 : List D := gB6 ++ [roomD [(1, 0), (1, 1)], rtD [[2, 4]], .bl true, rchD [[[0, 0]], []]]
def gB8 : List D := gB7 ++ [.bl true, .bl true, .int 1, rtD [[1, 2, 4], [2, 4, 1]]]
def gB9 : List D := gB8 ++ [.int 408, .int 169]
theorem good_b8 : good (.lst gB8) = true := by decide +kernel
theorem good_b9 : good (.lst gB9) = true := by decide +kernel
theorem dep_b8 : dep (.lst gB8) ≤ 5 := by decide +kernel
theorem dep_b9 : dep (.lst gB9) ≤ 5 := by decide +kernel
theorem last2h : ∃ a, (reachM twoR halvesL).getLast? = some a ∧ decide (a = []) = true := ⟨[], by rw [v_m1]; rfl, rfl⟩
theorem last2n : ∃ a, (reachM twoR []).getLast? = some a ∧ decide (a = []) = false := by
  have h := v_m5
  cases e : (reachM twoR []).getLast? with
  | none => rw [e] at h; cases h
  | some a => rw [e] at h; exact ⟨a, rfl, Option.some.inj h⟩
theorem lastr : ∃ a, (reachM ragR ragL).getLast? = some a ∧ decide (a = []) = true := ⟨[], by rw [v_m3]; rfl, rfl⟩
theorem far2h : (((reachM twoR halvesL).filter fun l => !decide (l = [])).length : Nat) = 1 := by rw [v_m1]; rfl
theorem first3 : ∃ a, (reachM threeR amidL)[0]? = some a ∧ a.length = 12 := by
  have h := v_m6
  cases e : (reachM threeR amidL)[0]? with
  | none => rw [e] at h; cases h
  | some a => rw [e] at h; exact ⟨a, rfl, Option.some.inj h⟩
theorem first6 : ∃ a, (reachM sixR [])[0]? = some a ∧ a.length = 169 := by
  have h := v_m7
  cases e : (reachM sixR [])[0]? with
  | none => rw [e] at h; cases h
  | some a => rw [e] at h; exact ⟨a, rfl, Option.some.inj h⟩
theorem at_rch {m : List (List (List Int))} {a : List (List Int)} (h : m[0]? = some a) : atI (m.map rtD) 0 = some (rtD a) := at_pos (k := 0) (by rw [List.getElem?_map, h]; rfl) rfl
def th0 : D := .tup [.tup [.tup [.int 0, .int 0]], .tup []]
theorem th0_v : thG th0 = .bl true := (List.cons.inj thL_v).1
theorem thL_1 {th : D} (h : th ∈ thL) : (flatI th).length ≤ 1000000 := by
  have := List.all_eq_true.mp thL_k th h
  simp only [Bool.and_eq_true, decide_eq_true_eq] at this
  exact this.1
theorem thL_2 {th : D} (h : th ∈ thL) : shp th = true := by
  have := List.all_eq_true.mp thL_k th h
  simp only [Bool.and_eq_true, decide_eq_true_eq] at this
  exact this.2
section
variable {P : Program} {w : World} {K : PySem.W.Frag} {mg : Str → Option Value} {bs : Heap}
theorem law_by_hand_ok (T : Tp K mg) : FnI P w K mg bs 9 "_law_by_hand_right" ["_law_turn_so"] (spD 1 fun ds d => ∃ n : Int, ds = [.int n] ∧ d = .bl true) := by
  have sc : FnScope ["_law_turn_so", "_law_two", "_law_three", "_law_gap_so", "_law_ragged_so", "_law_halves_so", "_law_amid_so", "_law_got", "_law_due", "_law_own", "_law_its"] ["_law_turn_so"] (defScope (topS 90)) := ⟨rfl, rfl, rfl, by decide +kernel, rfl, by decide +kernel, by decide +kernel⟩
  refine fn_pure T.law_by_hand_right sc (fun _ _ _ _ _ _ us hl => match us, hl with | [_], _ => rfl) ?_
  rintro f cdv A outer s H E hr ds d hl ⟨n, rfl, rfl⟩
  refine x_cons (s_disp (l := [(1, .st, roomD twoR), (2, .st, roomD threeR), (3, .st, roomD gapR), (4, .st, roomD ragR)]) (dp 1 (e_call (law_boxed_ok T) hr (a_cons e_int (a_cons e_int a_nil)) ⟨2, 2, by decide, by decide, rfl, by rw [two_box]⟩) (dp 2 (e_call (law_boxed_ok T) hr (a_cons e_int (a_cons e_int a_nil)) ⟨3, 3, by decide, by decide, rfl, by rw [three_box]⟩) (dp 3 (Ev.cast (e_tup (a_cons (e_tup (a_cons e_int (a_cons e_int a_nil))) (a_cons (e_tup (a_cons e_int (a_cons e_int a_nil))) a_nil))) rfl) (dp 4 (Ev.cast (e_tup (a_cons (e_tup (a_cons e_int (a_cons e_int a_nil))) (a_cons (e_tup (a_cons e_int (a_cons e_int a_nil))) a_nil))) rfl) dp_nil)))) (t_four 1 2 3 4 rfl sc.nd) ?_)
  rintro _ rfl
  show Ex _ [.dat (.int n), .dat (roomD twoR), .dat (roomD threeR), .dat (roomD gapR), .dat (roomD ragR), .any, .any, .any, .any, .any, .any] _ _ _
  refine x_cons (s_disp (l := [(5, .st, .tup (halvesL.map letD)), (6, .st, .tup (amidL.map letD))]) (dp 5 (Ev.cast (e_tup (a_cons (e_tup (a_cons (e_tup (a_cons e_int (a_cons e_int a_nil))) (a_cons (e_tup (a_cons e_int a_nil)) a_nil))) (a_cons (e_tup (a_cons (e_tup (a_cons e_int (a_cons e_int a_nil))) (a_cons (e_tup (a_cons e_int a_nil)) a_nil))) (a_cons (e_tup (a_cons (e_tup (a_cons e_int (a_cons e_int a_nil))) (a_cons (e_tup (a_cons e_int a_nil)) a_nil))) a_nil)))) rfl) (dp 6 (Ev.cast (e_tup (a_cons (e_tup (a_cons (e_tup (a_cons e_int (a_cons e_int a_nil))) (a_cons (e_tup (a_cons e_int a_nil)) a_nil))) a_nil)) rfl) dp_nil)) (t_two 5 6 rfl sc.nd) ?_)
  rintro _ rfl
  show Ex _ [.dat (.int n), .dat (roomD twoR), .dat (roomD threeR), .dat (roomD gapR), .dat (roomD ragR), .dat (.tup (halvesL.map letD)), .dat (.tup (amidL.map letD)), .any, .any, .any, .any] _ _ _
  refine x_cons (s_own (d := .lst gB1) 7 sc.nd (Ev.cast (e_lst (a_cons (Ev.cast (e_call (column_ok T) hr (a_cons (e_var 2 rfl) (a_cons e_int a_nil)) ⟨threeR, _, 1, f3n.rm, argR0 _, rfl, rfl⟩) (congrArg roomD v_c1)) (a_cons (Ev.cast (e_call (column_ok T) hr (a_cons (e_var 2 rfl) (a_cons e_int a_nil)) ⟨threeR, _, 7, f3n.rm, argR0 _, rfl, rfl⟩) (congrArg roomD v_c7)) (a_cons (Ev.cast (e_call (rows_at_ok T) hr (a_cons (e_var 1 rfl) (a_cons (e_tup a_nil) (a_cons e_int a_nil))) ⟨twoR, [], _, _, 1, f2n, by decide +kernel, by decide +kernel, argR0 _, argLt [], rfl, rfl⟩) (congrArg rtD v_r1)) (a_cons (Ev.cast (e_len T.len (e_call (rows_at_ok T) hr (a_cons (e_var 2 rfl) (a_cons (e_tup a_nil) (a_cons e_int a_nil))) ⟨threeR, [], _, _, 1, f3n, by decide +kernel, by decide +kernel, argR0 _, argLt [], rfl, rfl⟩) (.tup _)) (congrArg D.int (by rw [List.length_map, v_r2]; rfl))) (a_cons (Ev.cast (e_call (rows_at_ok T) hr (a_cons (e_var 2 rfl) (a_cons (e_tup (a_cons (e_tup (a_cons (e_tup (a_cons e_int (a_cons e_int a_nil))) (a_cons (e_tup (a_cons e_int a_nil)) a_nil))) a_nil)) (a_cons e_int a_nil))) ⟨threeR, oneL, _, _, 0, f3o, by decide +kernel, by decide +kernel, argR0 _, argLt oneL, rfl, rfl⟩) (congrArg rtD v_r3)) (a_cons (Ev.cast (e_call (rows_at_ok T) hr (a_cons (e_var 1 rfl) (a_cons (e_tup a_nil) (a_cons e_int a_nil))) ⟨twoR, [], _, _, 5, f2n, by decide +kernel, by decide +kernel, argR0 _, argLt [], rfl, rfl⟩) (congrArg rtD v_r4)) a_nil))))))) rfl) fun c => ?_)
  refine x_freeze 7 rfl ?_
  show Ex _ [.dat (.int n), .dat (roomD twoR), .dat (roomD threeR), .dat (roomD gapR), .dat (roomD ragR), .dat (.tup (halvesL.map letD)), .dat (.tup (amidL.map letD)), .dat (.lst gB1), .any, .any, .any] _ _ _
  refine x_cons (s_own (d := .lst gB1) 8 sc.nd (Ev.cast (e_lst (a_cons (e_tup (a_cons (e_tup (a_cons e_int (a_cons e_int a_nil))) (a_cons (e_tup (a_cons e_int (a_cons e_int a_nil))) (a_cons (e_tup (a_cons e_int (a_cons e_int a_nil))) a_nil)))) (a_cons (e_tup a_nil) (a_cons (e_tup (a_cons (e_tup (a_cons e_int (a_cons e_int a_nil))) (a_cons (e_tup (a_cons e_int (a_cons e_int a_nil))) (a_cons (e_tup (a_cons e_int (a_cons e_int a_nil))) (a_cons (e_tup (a_cons e_int (a_cons e_int a_nil))) (a_cons (e_tup (a_cons e_int (a_cons e_int a_nil))) a_nil)))))) (a_cons e_int (a_cons (e_tup (a_cons (e_tup (a_cons e_int (a_cons e_int (a_cons e_int a_nil)))) (a_cons (e_tup (a_cons e_int (a_cons e_int (a_cons e_int a_nil)))) a_nil))) (a_cons (e_tup (a_cons (e_tup a_nil) a_nil)) a_nil))))))) rfl) fun c => ?_)
  refine x_freeze 8 rfl ?_
  show Ex _ [.dat (.int n), .dat (roomD twoR), .dat (roomD threeR), .dat (roomD gapR), .dat (roomD ragR), .dat (.tup (halvesL.map letD)), .dat (.tup (amidL.map letD)), .dat (.lst gB1), .dat (.lst gB1), .any, .any] _ _ _
  refine x_cons (s_own (d := .lst gB2) 7 sc.nd (Ev.cast (e_cat (l1 := gB1) (e_var 7 rfl) (e_lst (a_cons (Ev.cast (e_lc0 (k := .st) (own := [("_law_own", 9), ("_law_its", 10)]) (l := fitL) (f := fun q => .tup [tD q.1, tD q.2]) (g := fun q => .bl (rowFits twoR 1 q.1 q.2)) (.tup [9, 10]) rfl sc.nd (EvI.cast (i_tup (e_tup (a_cons (e_tup (a_cons (e_tup (a_cons e_int (a_cons e_int a_nil))) (a_cons (e_tup (a_cons e_int (a_cons e_int a_nil))) a_nil))) (a_cons (e_tup (a_cons (e_tup (a_cons e_int (a_cons e_int a_nil))) (a_cons (e_tup (a_cons e_int (a_cons e_int a_nil))) a_nil))) (a_cons (e_tup (a_cons (e_tup (a_cons e_int (a_cons e_int a_nil))) (a_cons (e_tup (a_cons e_int (a_cons e_int a_nil))) a_nil))) (a_cons (e_tup (a_cons (e_tup (a_cons e_int (a_cons e_int a_nil))) (a_cons (e_tup (a_cons e_int (a_cons e_int a_nil))) a_nil))) (a_cons (e_tup (a_cons (e_tup (a_cons e_int (a_cons e_int a_nil))) (a_cons (e_tup (a_cons e_int (a_cons e_int a_nil))) a_nil))) (a_cons (e_tup (a_cons (e_tup (a_cons e_int (a_cons e_int a_nil))) (a_cons (e_tup (a_cons e_int (a_cons e_int a_nil))) a_nil))) a_nil)))))))) rfl) (blkOk_by (by kernel_rfl)) (fun _ _ _ _ _ => t_two 9 10 rfl sc.nd) (fun q hq _ _ _ _ _ => (e_call (fit_behind_ok T) hr (a_cons (e_var 1 rfl) (a_cons e_int (a_cons (e_var 9 rfl) (a_cons (e_var 10 rfl) a_nil)))) ⟨twoR, _, 1, q.1, q.2, _, _, f2n.rm, f2n.w.nd, argR0 _, (fitL_k q hq).1, (fitL_k q hq).2.1, (fitL_k q hq).2.2.1, (fitL_k q hq).2.2.2, Nat.le_trans (dep_tD _) (by decide), tup_tD _, Nat.le_trans (dep_tD _) (by decide), tup_tD _, rfl, rfl⟩)) (fun _ _ => rfl)) (congrArg D.lst fitL_v)) (a_cons (Ev.cast (e_call (fit_behind_ok T) hr (a_cons (e_var 1 rfl) (a_cons e_int (a_cons (e_tup a_nil) (a_cons (e_tup (a_cons e_int (a_cons e_int a_nil))) a_nil)))) ⟨twoR, _, 0, [], [3, 3], tD [], tD [3, 3], f2n.rm, f2n.w.nd, argR0 _, by decide +kernel, by decide +kernel, by decide +kernel, by decide +kernel, Nat.le_trans (dep_tD _) (by decide), tup_tD _, Nat.le_trans (dep_tD _) (by decide), tup_tD _, rfl, rfl⟩) (congrArg D.bl fit_0)) a_nil))) (Nat.le_trans (Nat.le_of_ble_eq_true rfl : _ ≤ 100) (by decide))) rfl) fun c => ?_)
  refine x_freeze 7 rfl ?_
  show Ex _ [.dat (.int n), .dat (roomD twoR), .dat (roomD threeR), .dat (roomD gapR), .dat (roomD ragR), .dat (.tup (halvesL.map letD)), .dat (.tup (amidL.map letD)), .dat (.lst gB2), .dat (.lst gB1), .any, .any] _ _ _
  refine x_cons (s_own (d := .lst gB2) 8 sc.nd (Ev.cast (e_cat (l1 := gB1) (e_var 8 rfl) (e_lst (a_cons (e_lst (a_cons e_bl (a_cons e_bl (a_cons e_bl (a_cons e_bl (a_cons e_bl (a_cons e_bl a_nil))))))) (a_cons e_bl a_nil))) (Nat.le_trans (Nat.le_of_ble_eq_true rfl : _ ≤ 100) (by decide))) rfl) fun c => ?_)
  refine x_freeze 8 rfl ?_
  show Ex _ [.dat (.int n), .dat (roomD twoR), .dat (roomD threeR), .dat (roomD gapR), .dat (roomD ragR), .dat (.tup (halvesL.map letD)), .dat (.tup (amidL.map letD)), .dat (.lst gB2), .dat (.lst gB2), .any, .any] _ _ _
  obtain ⟨a1, ha1, hb1⟩ := last2h
  obtain ⟨a2, ha2, hb2⟩ := last2n
  obtain ⟨a3, ha3, hb3⟩ := lastr
  obtain ⟨a4, ha4, hb4⟩ := first3
  obtain ⟨a5, ha5, hb5⟩ := first6
  refine x_cons (s_own (d := .lst gB3) 7 sc.nd (Ev.cast (e_cat (l1 := gB2) (e_var 7 rfl) (e_lst (a_cons (Ev.cast (e_call (reaches_ok T) hr (a_cons (e_var 1 rfl) (a_cons (e_var 5 rfl) a_nil)) ⟨twoR, halvesL, _, _, f2h, argR0 _, argLt _, rfl, rfl⟩) (congrArg rchD v_m1)) (a_cons (Ev.cast (e_call (is_shut_ok T) hr (a_cons (e_var 1 rfl) (a_cons (e_var 5 rfl) a_nil)) ⟨twoR, halvesL, _, _, a1, f2h, argR0 _, argLt _, ha1, rfl, rfl⟩) (congrArg D.bl hb1)) (a_cons (Ev.cast (e_call (how_far_ok T) hr (a_cons (e_var 1 rfl) (a_cons (e_var 5 rfl) a_nil)) ⟨twoR, halvesL, _, _, f2h, argR0 _, argLt _, rfl, rfl⟩) (congrArg (fun n : Nat => D.int (n : Int)) far2h)) (a_cons (Ev.cast (e_call (how_far_ok T) hr (a_cons (e_var 1 rfl) (a_cons (e_tup (a_cons (e_tup (a_cons (e_tup (a_cons e_int (a_cons e_int a_nil))) (a_cons (e_tup a_nil) a_nil))) a_nil)) a_nil)) ⟨twoR, noneL, _, _, f20, argR0 _, argLt noneL, rfl, rfl⟩) (congrArg (fun n : Nat => D.int (n : Int)) v_m4)) (a_cons (Ev.cast (e_call (is_shut_ok T) hr (a_cons (e_var 1 rfl) (a_cons (e_tup a_nil) a_nil)) ⟨twoR, [], _, _, a2, f2n, argR0 _, argLt [], ha2, rfl, rfl⟩) (congrArg D.bl hb2)) (a_cons (Ev.cast (e_call (rows_left_ok T) hr (a_cons (e_var 1 rfl) (a_cons (e_var 5 rfl) (a_cons e_int a_nil))) ⟨twoR, halvesL, _, _, 0, f2h, nx2, argR0 _, argLt halvesL, rfl, rfl⟩) l_twoh0) (a_cons (Ev.cast (e_call (rows_left_ok T) hr (a_cons (e_var 1 rfl) (a_cons (e_tup a_nil) (a_cons e_int a_nil))) ⟨twoR, [], _, _, 9, f2n, nx2, argR0 _, argLt [], rfl, rfl⟩) l_two9) (a_cons (Ev.cast (e_call (rows_left_ok T) hr (a_cons (e_var 1 rfl) (a_cons (e_var 5 rfl) (a_cons e_int a_nil))) ⟨twoR, halvesL, _, _, 9, f2h, nx2, argR0 _, argLt halvesL, rfl, rfl⟩) l_twoh9) a_nil))))))))) (Nat.le_trans (Nat.le_of_ble_eq_true rfl : _ ≤ 100) (by decide))) rfl) fun c => ?_)
  refine x_freeze 7 rfl ?_
  show Ex _ [.dat (.int n), .dat (roomD twoR), .dat (roomD threeR), .dat (roomD gapR), .dat (roomD ragR), .dat (.tup (halvesL.map letD)), .dat (.tup (amidL.map letD)), .dat (.lst gB3), .dat (.lst gB2), .any, .any] _ _ _
  refine x_cons (s_own (d := .lst gB3) 8 sc.nd (Ev.cast (e_cat (l1 := gB2) (e_var 8 rfl) (e_lst (a_cons (e_tup (a_cons (e_tup (a_cons (e_tup (a_cons e_int (a_cons e_int a_nil))) a_nil)) (a_cons (e_tup a_nil) a_nil))) (a_cons e_bl (a_cons e_int (a_cons e_int (a_cons e_bl (a_cons (e_tup a_nil) (a_cons (e_tup (a_cons (e_tup a_nil) a_nil)) (a_cons (e_tup a_nil) a_nil))))))))) (Nat.le_trans (Nat.le_of_ble_eq_true rfl : _ ≤ 100) (by decide))) rfl) fun c => ?_)
  refine x_freeze 8 rfl ?_
  show Ex _ [.dat (.int n), .dat (roomD twoR), .dat (roomD threeR), .dat (roomD gapR), .dat (roomD ragR), .dat (.tup (halvesL.map letD)), .dat (.tup (amidL.map letD)), .dat (.lst gB3), .dat (.lst gB3), .any, .any] _ _ _
  refine x_cons (s_own (d := .lst gB4) 7 sc.nd (Ev.cast (e_cat (l1 := gB3) (e_var 7 rfl) (e_lst (a_cons (Ev.cast (e_call (reaches_ok T) hr (a_cons (e_var 3 rfl) (a_cons (e_tup a_nil) a_nil)) ⟨gapR, [], _, _, fgn, argR0 _, argLt [], rfl, rfl⟩) (congrArg rchD v_m2)) (a_cons (Ev.cast (e_call (reaches_ok T) hr (a_cons (e_var 4 rfl) (a_cons (e_tup (a_cons (e_tup (a_cons (e_tup (a_cons e_int (a_cons e_int a_nil))) (a_cons (e_tup (a_cons e_int a_nil)) a_nil))) a_nil)) a_nil)) ⟨ragR, ragL, _, _, frr, argR0 _, argLt ragL, rfl, rfl⟩) (congrArg rchD v_m3)) (a_cons (Ev.cast (e_call (is_shut_ok T) hr (a_cons (e_var 4 rfl) (a_cons (e_tup (a_cons (e_tup (a_cons (e_tup (a_cons e_int (a_cons e_int a_nil))) (a_cons (e_tup (a_cons e_int a_nil)) a_nil))) a_nil)) a_nil)) ⟨ragR, ragL, _, _, a3, frr, argR0 _, argLt ragL, ha3, rfl, rfl⟩) (congrArg D.bl hb3)) (a_cons (Ev.cast (e_call (rows_left_ok T) hr (a_cons (e_var 3 rfl) (a_cons (e_tup a_nil) (a_cons e_int a_nil))) ⟨gapR, [], _, _, 1, fgn, nxg, argR0 _, argLt [], rfl, rfl⟩) l_gap1) a_nil))))) (Nat.le_trans (Nat.le_of_ble_eq_true rfl : _ ≤ 100) (by decide))) rfl) fun c => ?_)
  refine x_freeze 7 rfl ?_
  show Ex _ [.dat (.int n), .dat (roomD twoR), .dat (roomD threeR), .dat (roomD gapR), .dat (roomD ragR), .dat (.tup (halvesL.map letD)), .dat (.tup (amidL.map letD)), .dat (.lst gB4), .dat (.lst gB3), .any, .any] _ _ _
  refine x_cons (s_own (d := .lst gB4) 8 sc.nd (Ev.cast (e_cat (l1 := gB3) (e_var 8 rfl) (e_lst (a_cons (e_tup (a_cons (e_tup (a_cons (e_tup (a_cons e_int a_nil)) a_nil)) (a_cons (e_tup (a_cons (e_tup a_nil) a_nil)) (a_cons (e_tup (a_cons (e_tup (a_cons e_int a_nil)) a_nil)) a_nil)))) (a_cons (e_tup (a_cons (e_tup a_nil) (a_cons (e_tup a_nil) a_nil))) (a_cons e_bl (a_cons (e_tup (a_cons (e_tup a_nil) a_nil)) a_nil))))) (Nat.le_trans (Nat.le_of_ble_eq_true rfl : _ ≤ 100) (by decide))) rfl) fun c => ?_)
  refine x_freeze 8 rfl ?_
  show Ex _ [.dat (.int n), .dat (roomD twoR), .dat (roomD threeR), .dat (roomD gapR), .dat (roomD ragR), .dat (.tup (halvesL.map letD)), .dat (.tup (amidL.map letD)), .dat (.lst gB4), .dat (.lst gB4), .any, .any] _ _ _
  refine x_cons (s_own (d := .lst gB5) 7 sc.nd (Ev.cast (e_cat (l1 := gB4) (e_var 7 rfl) (e_lst (a_cons (Ev.cast (e_call (rows_left_ok T) hr (a_cons (e_var 2 rfl) (a_cons (e_var 6 rfl) (a_cons e_int a_nil))) ⟨threeR, amidL, _, _, 0, f3a, nx3, argR0 _, argLt amidL, rfl, rfl⟩) l_three0) (a_cons (Ev.cast (e_call (rows_left_ok T) hr (a_cons (e_var 2 rfl) (a_cons (e_var 6 rfl) (a_cons e_int a_nil))) ⟨threeR, amidL, _, _, 1, f3a, nx3, argR0 _, argLt amidL, rfl, rfl⟩) l_three1) (a_cons (Ev.cast (e_len T.len (e_ix (e_call (reaches_ok T) hr (a_cons (e_var 2 rfl) (a_cons (e_var 6 rfl) a_nil)) ⟨threeR, amidL, _, _, f3a, argR0 _, argLt _, rfl, rfl⟩) e_int (at_rch ha4) (.tup _)) (.tup _)) (congrArg D.int (by rw [List.length_map, hb4]; rfl))) a_nil)))) (Nat.le_trans (Nat.le_of_ble_eq_true rfl : _ ≤ 100) (by decide))) rfl) fun c => ?_)
  refine x_freeze 7 rfl ?_
  show Ex _ [.dat (.int n), .dat (roomD twoR), .dat (roomD threeR), .dat (roomD gapR), .dat (roomD ragR), .dat (.tup (halvesL.map letD)), .dat (.tup (amidL.map letD)), .dat (.lst gB5), .dat (.lst gB4), .any, .any] _ _ _
  refine x_cons (s_own (d := .lst gB5) 8 sc.nd (Ev.cast (e_cat (l1 := gB4) (e_var 8 rfl) (e_lst (a_cons (e_tup (a_cons (e_tup (a_cons e_int (a_cons e_int (a_cons e_int a_nil)))) (a_cons (e_tup (a_cons e_int (a_cons e_int (a_cons e_int a_nil)))) a_nil))) (a_cons (e_tup (a_cons (e_tup (a_cons e_int (a_cons e_int (a_cons e_int a_nil)))) (a_cons (e_tup (a_cons e_int (a_cons e_int (a_cons e_int a_nil)))) a_nil))) (a_cons e_int a_nil)))) (Nat.le_trans (Nat.le_of_ble_eq_true rfl : _ ≤ 100) (by decide))) rfl) fun c => ?_)
  refine x_freeze 8 rfl ?_
  show Ex _ [.dat (.int n), .dat (roomD twoR), .dat (roomD threeR), .dat (roomD gapR), .dat (roomD ragR), .dat (.tup (halvesL.map letD)), .dat (.tup (amidL.map letD)), .dat (.lst gB5), .dat (.lst gB5), .any, .any] _ _ _
  refine x_cons (s_own (d := .lst gB6) 7 sc.nd (Ev.cast (e_cat (l1 := gB5) (e_var 7 rfl) (e_lst (a_cons (Ev.cast (e_lc0 (k := .st) (own := [("_law_own", 9)]) (l := thL) (f := id) (g := thG) (.one 9) rfl sc.nd (EvI.cast (i_tup (l := thL) (Ev.cast (e_tup (a_cons (e_tup (a_cons (e_tup (a_cons (e_tup (a_cons e_int (a_cons e_int a_nil))) a_nil)) (a_cons (e_tup a_nil) a_nil))) (a_cons (e_tup (a_cons (e_tup (a_cons (e_tup (a_cons e_int (a_cons e_int a_nil))) (a_cons (e_tup (a_cons e_int (a_cons e_int a_nil))) a_nil))) (a_cons (e_tup a_nil) a_nil))) (a_cons (e_tup (a_cons (e_lst (a_cons (e_tup (a_cons e_int (a_cons e_int a_nil))) a_nil)) (a_cons (e_tup a_nil) a_nil))) (a_cons (e_tup (a_cons (e_tup (a_cons (e_tup (a_cons e_int (a_cons e_int a_nil))) a_nil)) a_nil)) (a_cons (e_tup (a_cons (e_tup (a_cons (e_tup (a_cons e_int (a_cons e_bl a_nil))) a_nil)) (a_cons (e_tup a_nil) a_nil))) (a_cons e_non (a_cons e_int (a_cons (e_tup (a_cons (e_tup (a_cons e_int (a_cons e_int a_nil))) (a_cons (e_tup a_nil) a_nil))) a_nil))))))))) rfl)) (List.map_id _).symm) (blkOk_by (by kernel_rfl)) (fun _ _ _ _ _ => t_one 9 sc.nd) (fun th hth _ _ _ _ _ => (e_call (is_reaches_ok T) hr (a_cons (e_var 1 rfl) (a_cons (e_var 5 rfl) (a_cons (e_var 9 rfl) a_nil))) ⟨twoR, halvesL, _, _, th, f2h, argR0 _, argLt _, thL_1 hth, thL_2 hth, rfl, rfl⟩)) (fun _ _ => trivial)) (congrArg D.lst thL_v)) a_nil)) (Nat.le_trans (Nat.le_of_ble_eq_true rfl : _ ≤ 100) (by decide))) rfl) fun c => ?_)
  refine x_freeze 7 rfl ?_
  show Ex _ [.dat (.int n), .dat (roomD twoR), .dat (roomD threeR), .dat (roomD gapR), .dat (roomD ragR), .dat (.tup (halvesL.map letD)), .dat (.tup (amidL.map letD)), .dat (.lst gB6), .dat (.lst gB5), .any, .any] _ _ _
  refine x_cons (s_own (d := .lst gB6) 8 sc.nd (Ev.cast (e_cat (l1 := gB5) (e_var 8 rfl) (e_lst (a_cons (e_cat (l1 := [.bl true]) (e_lst (a_cons e_bl a_nil)) (e_rep (n := 7) (e_lst (a_cons e_bl a_nil)) e_int (by decide) (by decide) (Nat.le_trans (Nat.le_of_ble_eq_true rfl : _ ≤ 100) (by decide))) (Nat.le_trans (Nat.le_of_ble_eq_true rfl : _ ≤ 100) (by decide))) a_nil)) (Nat.le_trans (Nat.le_of_ble_eq_true rfl : _ ≤ 100) (by decide))) rfl) fun c => ?_)
  refine x_freeze 8 rfl ?_
  show Ex _ [.dat (.int n), .dat (roomD twoR), .dat (roomD threeR), .dat (roomD gapR), .dat (roomD ragR), .dat (.tup (halvesL.map letD)), .dat (.tup (amidL.map letD)), .dat (.lst gB6), .dat (.lst gB6), .any, .any] _ _ _
  refine x_cons (s_own (d := .lst gB7) 7 sc.nd (Ev.cast (e_cat (l1 := gB6) (e_var 7 rfl) (e_lst (a_cons (Ev.cast (e_call (column_ok T) hr (a_cons (e_call (law_lists_ok T 4) hr (a_cons (e_var 1 rfl) a_nil) ⟨_, rfl, (argR0 twoR).1, rfl⟩) (a_cons e_int a_nil)) ⟨twoR, _, 1, f2n.rm, argR1 _, rfl, rfl⟩) (congrArg roomD v_c2)) (a_cons (Ev.cast (e_call (rows_at_ok T) hr (a_cons (e_call (law_lists_ok T 4) hr (a_cons (e_var 1 rfl) a_nil) ⟨_, rfl, (argR0 twoR).1, rfl⟩) (a_cons (e_lst (a_cons (e_lst (a_cons (e_lst (a_cons e_int (a_cons e_int a_nil))) (a_cons (e_lst (a_cons e_int a_nil)) a_nil))) a_nil)) (a_cons e_int a_nil))) ⟨twoR, firstL, _, _, 0, f2f, by decide +kernel, by decide +kernel, argR1 _, argL1 firstL, rfl, rfl⟩) (congrArg rtD v_r5)) (a_cons (Ev.cast (e_callKT (ps := ["room", "x", "ahead", "row"]) (ks := ["row", "ahead"]) @g22 (fit_behind_ok T) T.fit_behind hr (a_cons (e_call (law_lists_ok T 4) hr (a_cons (e_var 1 rfl) a_nil) ⟨_, rfl, (argR0 twoR).1, rfl⟩) (a_cons e_int a_nil)) (kw (e_lst (a_cons e_int (a_cons e_int a_nil))) (kw (e_lst (a_cons e_int (a_cons e_int a_nil))) .nil)) ⟨twoR, _, 1, [1, 0], [3, 0], .lst [.int 1, .int 0], .lst [.int 3, .int 0], f2n.rm, f2n.w.nd, argR1 _, by decide +kernel, by decide +kernel, by decide +kernel, by decide +kernel, by decide +kernel, rfl, by decide +kernel, rfl, rfl, rfl⟩ b_fit g22_rel at22) (congrArg D.bl fit_1)) (a_cons (Ev.cast (e_callK0T (ps := ["room", "lets"]) (ks := ["lets", "room"]) @g02 (reaches_ok T) T.reaches hr (kw (e_call (law_lists_ok T 4) hr (a_cons (e_var 5 rfl) a_nil) ⟨_, rfl, (argLt halvesL).1, rfl⟩) (kw (e_call (law_lists_ok T 4) hr (a_cons (e_var 1 rfl) a_nil) ⟨_, rfl, (argR0 twoR).1, rfl⟩) .nil)) ⟨twoR, halvesL, _, _, f2h, argR1 _, argLu _, rfl, rfl⟩ b_reaches g02_rel at02) (congrArg rchD v_m1)) a_nil))))) (Nat.le_trans (Nat.le_of_ble_eq_true rfl : _ ≤ 100) (by decide))) rfl) fun c => ?_)
  refine x_freeze 7 rfl ?_
  show Ex _ [.dat (.int n), .dat (roomD twoR), .dat (roomD threeR), .dat (roomD gapR), .dat (roomD ragR), .dat (.tup (halvesL.map letD)), .dat (.tup (amidL.map letD)), .dat (.lst gB7), .dat (.lst gB6), .any, .any] _ _ _
  refine x_cons (s_own (d := .lst gB7) 8 sc.nd (Ev.cast (e_cat (l1 := gB6) (e_var 8 rfl) (e_lst (a_cons (e_tup (a_cons (e_tup (a_cons e_int (a_cons e_int a_nil))) (a_cons (e_tup (a_cons e_int (a_cons e_int a_nil))) a_nil))) (a_cons (e_tup (a_cons (e_tup (a_cons e_int (a_cons e_int a_nil))) a_nil)) (a_cons e_bl (a_cons (e_tup (a_cons (e_tup (a_cons (e_tup (a_cons e_int (a_cons e_int a_nil))) a_nil)) (a_cons (e_tup a_nil) a_nil))) a_nil))))) (Nat.le_trans (Nat.le_of_ble_eq_true rfl : _ ≤ 100) (by decide))) rfl) fun c => ?_)
  refine x_freeze 8 rfl ?_
  show Ex _ [.dat (.int n), .dat (roomD twoR), .dat (roomD threeR), .dat (roomD gapR), .dat (roomD ragR), .dat (.tup (halvesL.map letD)), .dat (.tup (amidL.map letD)), .dat (.lst gB7), .dat (.lst gB7), .any, .any] _ _ _
  refine x_cons (s_own (d := .lst gB8) 7 sc.nd (Ev.cast (e_cat (l1 := gB7) (e_var 7 rfl) (e_lst (a_cons (Ev.cast (e_callK0T (ps := ["room", "lets", "thing"]) (ks := ["thing", "lets", "room"]) @g03 (is_reaches_ok T) T.is_reaches hr (kw (Ev.cast (e_tup (a_cons (e_tup (a_cons (e_tup (a_cons e_int (a_cons e_int a_nil))) a_nil)) (a_cons (e_tup a_nil) a_nil))) (d' := th0) rfl) (kw (e_call (law_lists_ok T 4) hr (a_cons (e_var 5 rfl) a_nil) ⟨_, rfl, (argLt halvesL).1, rfl⟩) (kw (e_call (law_lists_ok T 4) hr (a_cons (e_var 1 rfl) a_nil) ⟨_, rfl, (argR0 twoR).1, rfl⟩) .nil))) ⟨twoR, halvesL, _, _, th0, f2h, argR1 _, argLu _, thL_1 (.head _), thL_2 (.head _), rfl, rfl⟩ b_isr g03_rel at03) th0_v) (a_cons (Ev.cast (e_callK0T (ps := ["room", "lets"]) (ks := ["lets", "room"]) @g02 (is_shut_ok T) T.is_shut hr (kw (e_call (law_lists_ok T 4) hr (a_cons (e_var 5 rfl) a_nil) ⟨_, rfl, (argLt halvesL).1, rfl⟩) (kw (e_call (law_lists_ok T 4) hr (a_cons (e_var 1 rfl) a_nil) ⟨_, rfl, (argR0 twoR).1, rfl⟩) .nil)) ⟨twoR, halvesL, _, _, a1, f2h, argR1 _, argLu _, ha1, rfl, rfl⟩ b_shut g02_rel at02) (congrArg D.bl hb1)) (a_cons (Ev.cast (e_callK0T (ps := ["room", "lets"]) (ks := ["lets", "room"]) @g02 (how_far_ok T) T.how_far hr (kw (e_call (law_lists_ok T 4) hr (a_cons (e_var 5 rfl) a_nil) ⟨_, rfl, (argLt halvesL).1, rfl⟩) (kw (e_call (law_lists_ok T 4) hr (a_cons (e_var 1 rfl) a_nil) ⟨_, rfl, (argR0 twoR).1, rfl⟩) .nil)) ⟨twoR, halvesL, _, _, f2h, argR1 _, argLu _, rfl, rfl⟩ b_far g02_rel at02) (congrArg (fun n : Nat => D.int (n : Int)) far2h)) (a_cons (Ev.cast (e_call (rows_left_ok T) hr (a_cons (e_call (law_lists_ok T 4) hr (a_cons (e_var 2 rfl) a_nil) ⟨_, rfl, (argR0 threeR).1, rfl⟩) (a_cons (e_call (law_lists_ok T 4) hr (a_cons (e_var 6 rfl) a_nil) ⟨_, rfl, (argLt amidL).1, rfl⟩) (a_cons e_int a_nil))) ⟨threeR, amidL, _, _, 0, f3a, nx3, argR1 _, argLu _, rfl, rfl⟩) l_three0) a_nil))))) (Nat.le_trans (Nat.le_of_ble_eq_true rfl : _ ≤ 100) (by decide))) rfl) fun c => ?_)
  refine x_freeze 7 rfl ?_
  show Ex _ [.dat (.int n), .dat (roomD twoR), .dat (roomD threeR), .dat (roomD gapR), .dat (roomD ragR), .dat (.tup (halvesL.map letD)), .dat (.tup (amidL.map letD)), .dat (.lst gB8), .dat (.lst gB7), .any, .any] _ _ _
  refine x_cons (s_own (d := .lst gB8) 8 sc.nd (Ev.cast (e_cat (l1 := gB7) (e_var 8 rfl) (e_lst (a_cons e_bl (a_cons e_bl (a_cons e_int (a_cons (e_tup (a_cons (e_tup (a_cons e_int (a_cons e_int (a_cons e_int a_nil)))) (a_cons (e_tup (a_cons e_int (a_cons e_int (a_cons e_int a_nil)))) a_nil))) a_nil))))) (Nat.le_trans (Nat.le_of_ble_eq_true rfl : _ ≤ 100) (by decide))) rfl) fun c => ?_)
  refine x_freeze 8 rfl ?_
  show Ex _ [.dat (.int n), .dat (roomD twoR), .dat (roomD threeR), .dat (roomD gapR), .dat (roomD ragR), .dat (.tup (halvesL.map letD)), .dat (.tup (amidL.map letD)), .dat (.lst gB8), .dat (.lst gB8), .any, .any] _ _ _
  obtain ⟨go1, go2⟩ := good_ok good_b8
  obtain ⟨go3, go4⟩ := good_ok good_b9
  refine x_cons (s_if (p := decide (n > 0)) (b_c (c_gt (e_var 0 rfl) e_int)) (fun _ => ?_) fun _ => x_nil ?_)
  · exact x_one (s_ret (Ev.cast (e_call (law_same_ok T 5) hr (a_cons (e_var 7 rfl) (a_cons (e_var 8 rfl) a_nil)) ⟨.lst gB8, .lst gB8, rfl, dep_b8, go1, rfl⟩) (congrArg D.bl go2)) rfl)
  exact x_one (s_ret (Ev.cast (e_call (law_same_ok T 5) hr (a_cons (Ev.cast (e_cat (l1 := gB8) (e_var 7 rfl) (e_lst (a_cons (Ev.cast (e_len T.len (e_call (rows_at_ok T) hr (a_cons (e_call (law_boxed_ok T) hr (a_cons e_int (a_cons e_int a_nil)) ⟨7, 2, by decide, by decide, rfl, rfl⟩) (a_cons (e_tup a_nil) (a_cons e_int a_nil))) ⟨sevenR, [], _, _, 0, f7n, by decide +kernel, by decide +kernel, argR0 _, argLt [], rfl, rfl⟩) (.tup _)) (congrArg D.int (by rw [List.length_map, v_r6]; rfl))) (a_cons (Ev.cast (e_len T.len (e_ix (e_call (reaches_ok T) hr (a_cons (e_call (law_boxed_ok T) hr (a_cons e_int (a_cons e_int a_nil)) ⟨6, 2, by decide, by decide, rfl, rfl⟩) (a_cons (e_tup a_nil) a_nil)) ⟨sixR, [], _, _, f6n, argR0 _, argLt [], rfl, rfl⟩) e_int (at_rch ha5) (.tup _)) (.tup _)) (congrArg D.int (by rw [List.length_map, hb5]; rfl))) a_nil))) (Nat.le_trans (Nat.le_of_ble_eq_true rfl : _ ≤ 100) (by decide))) (d' := .lst gB9) rfl) (a_cons (Ev.cast (e_cat (l1 := gB8) (e_var 8 rfl) (e_lst (a_cons e_int (a_cons e_int a_nil))) (Nat.le_trans (Nat.le_of_ble_eq_true rfl : _ ≤ 100) (by decide))) (d' := .lst gB9) rfl) a_nil)) ⟨.lst gB9, .lst gB9, rfl, dep_b9, go3, rfl⟩) (congrArg D.bl go4)) rfl)
end
end TR
/-! ## E25 -/
set_option Elab.async false
set_option linter.all false
set_option maxRecDepth 100000
set_option maxHeartbeats 4000000
namespace TR
open PySem L2
section
variable {P : Program} {w : World} {K : PySem.W.Frag} {mg : Str → Option Value} {bs : Heap}
theorem box_ok (x : Int) : okT 2001 (boxM x) := by
  have h : 0 ≤ x % 2305843009213693951 := Int.emod_nonneg _ (by decide)
  refine ⟨?_, Int.le_refl _, (by decide : (0 : Int) + ((2001 : Nat) : Int) ≤ 1000000000)⟩
  show 0 ≤ x % 2305843009213693951 + 39373 * 0 + 5322032
  omega
theorem law_ok (T : Tp K mg) (TL : FnT K mg "law" (topS 94)) : FnI P w K mg bs 10 "law" ["_law_script"] (spS 1 fun l ds d => ds = [] ∧ d = .bl true) := by
  have sc : FnScope ["_law_script", "_law_tin"] ["_law_script"] (defScope (topS 94)) := ⟨rfl, rfl, rfl, by decide +kernel, rfl, by decide +kernel, by decide +kernel⟩
  refine fn_scr TL sc (fun _ _ _ _ _ _ us hl => match us, hl with | [_], _ => rfl) ?_
  rintro f cdv A outer s H E hr l ds d hl ⟨rfl, rfl⟩
  obtain ⟨t, ht⟩ : ∃ t, t = boxM (cellsM l) := ⟨_, rfl⟩
  have ok : okT 2001 t := by rw [ht]; exact box_ok _
  refine x_cons (s_own (d := .lst (t3 t)) 1 sc.nd (e_callF (law_box_ok T) hr (a_cons (d := .lst [.int (cellsM l)]) (e_callS 0 (law_cells_ok T) hr rfl (a_cons e_int a_nil) ⟨rfl, rfl⟩) (a_cons e_int a_nil)) ⟨cellsM l, rfl, by rw [ht]⟩) fun c => ?_)
  show Ex _ [.scr l, .own false c (.lst (t3 t))] _ _ _
  have o2 : okT 2000 (tk t 5).2 := tk_ok ok
  have hn := tk_rng (t := t) (n := 5) (by decide)
  exact x_one (s_retM (EvM.castE (m_and (m_call (d := .bl true) (law_by_hand_ok T) hr (ma_cons (m_callM (d := .int (tk t 5).1) (tin' := t3 (tk t 5).2) 1 (law_take_ok T) hr rfl (ma_cons (m_e e_int) ma_nil) rfl ⟨t, 5, ok.mono (by decide), by decide, by decide, rfl, rfl, rfl, rfl⟩) ma_nil) ⟨_, rfl, rfl⟩) (m_one (m_callM (d := .bl true) (tin' := t3 (tinR (tk t 5).2)) 1 (law_right_ok T) hr rfl ma_nil rfl ⟨(tk t 5).2, o2, rfl, rfl, rfl, rfl⟩))) rfl rfl) rfl)
end
end TR
/-! ## H2 -/
set_option Elab.async false
set_option linter.all false
set_option maxRecDepth 100000
set_option maxHeartbeats 0
namespace TR
open PySem PySem.Spec PyProof.Rows L2
section
variable {K : PySem.W.Frag} {h : Heap} {mg : Str → Option Value}
theorem fnT_of {x : Str} {n : Nat} (KX : K.In h) (G : h.Ns mainGlobals mg) (c : He.SaysD faL fnL K) (i j : Nat) (h1 : fnL[i]? = some (dfn x n) := by rfl) (h2 : faL[j]? = some (.glo x) := by rfl) : FnT K mg x (topS n) := by
  obtain ⟨fd, F⟩ := c.def_ i (d := dfn x n) h1
  exact ⟨⟨He.ga K x, fd, F, He.glo_ok KX G (c.fact j (f := .glo x) h2)⟩⟩
theorem gint_of {x : Str} {i : Int} (KX : K.In h) (G : h.Ns mainGlobals mg) (c : He.SaysD faL fnL K) (j : Nat) (h2 : faL[j]? = some (.int x i) := by rfl) : GInt mg x i := by
  obtain ⟨t, e⟩ := He.int_ok KX G (c.fact j (f := .int x i) h2)
  exact ⟨_, e, ⟨t, rfl⟩⟩
theorem free_of {x : Str} (KX : K.In h) (G : h.Ns mainGlobals mg) (c : He.SaysD faL fnL K) (j : Nat) (h2 : faL[j]? = some (.free x) := by rfl) : mg x = none := He.free_ok KX G (c.fact j (f := .free x) h2)
theorem tp_of (KX : K.In h) (G : h.Ns mainGlobals mg) (c : He.SaysD faL fnL K) (ex : exB K = true) : Tp K mg := by
  unfold exB at ex
  simp only [Bool.and_eq_true] at ex
  have gK : mg "KINDS" = some (.ref (He.ga K "KINDS")) := He.glo_ok KX G (c.fact 24 (f := .glo "KINDS") rfl)
  have gF : mg "FAR" = some (.ref (He.ga K "FAR")) := He.glo_ok KX G (c.fact 25 (f := .glo "FAR") rfl)
  exact {
    abs := free_of KX G c 0
    all := free_of KX G c 1
    any := free_of KX G c 2
    bool := free_of KX G c 3
    dict := free_of KX G c 4
    enumerate := free_of KX G c 5
    int := free_of KX G c 6
    isinstance := free_of KX G c 7
    len := free_of KX G c 8
    list := free_of KX G c 9
    max := free_of KX G c 10
    min := free_of KX G c 11
    range := free_of KX G c 12
    set := free_of KX G c 13
    sorted := free_of KX G c 14
    str := free_of KX G c 15
    tuple := free_of KX G c 16
    zip := free_of KX G c 17
    HALF := gint_of KX G c 18
    EAST := gint_of KX G c 19
    SOUTH := gint_of KX G c 20
    WEST := gint_of KX G c 21
    NORTH := gint_of KX G c 22
    HIGH := gint_of KX G c 23
    KINDS := by
      obtain ⟨o, its, n, h1, h2, h3, h4, h5⟩ := tupA_ok ex.2.1
      exact ⟨_, o, its, n, gK, h1, h2, h3, h4, h5⟩
    FAR := by
      have e2 := ex.2.2
      unfold rowsA at e2
      simp only [Bool.and_eq_true] at e2
      obtain ⟨o, its, n, h1, h2, h3, h4, h5⟩ := tupA_ok e2.1
      obtain ⟨h6, h7⟩ := tupsA_ok e2.2
      exact ⟨_, o, its, n, _, gF, h1, h2, h3, h4, vals_refs h5, h6, fun i b r hb hr => by
        obtain ⟨o, its, n, k1, k2, k3, k4, k5⟩ := tupA_ok (h7 i b r hb hr)
        exact ⟨o, its, n, k1, k2, k3, k4, k5⟩⟩
    is_number := fnT_of KX G c 0 26
    is_within := fnT_of KX G c 1 27
    is_long := fnT_of KX G c 2 28
    tupled := fnT_of KX G c 3 29
    ascends := fnT_of KX G c 4 30
    set_of := fnT_of KX G c 5 31
    are_numbers := fnT_of KX G c 6 32
    is_pair := fnT_of KX G c 7 33
    is_any_square := fnT_of KX G c 8 34
    is_room := fnT_of KX G c 9 35
    sure_room := fnT_of KX G c 10 36
    four_of := fnT_of KX G c 11 37
    known_of := fnT_of KX G c 12 38
    is_kind := fnT_of KX G c 13 39
    are_kinds := fnT_of KX G c 14 40
    led_by := fnT_of KX G c 15 41
    alone_in := fnT_of KX G c 16 42
    kinds_in := fnT_of KX G c 17 43
    fits_across := fnT_of KX G c 18 44
    fits_about := fnT_of KX G c 19 45
    is_kind_set := fnT_of KX G c 20 46
    are_lets_in := fnT_of KX G c 21 47
    sure_lets := fnT_of KX G c 22 48
    sure_x := fnT_of KX G c 23 49
    column_at := fnT_of KX G c 24 50
    sure_row := fnT_of KX G c 25 51
    columns_in := fnT_of KX G c 26 52
    refuse_wide := fnT_of KX G c 27 53
    kinds_let := fnT_of KX G c 28 54
    rows_by := fnT_of KX G c 29 55
    is_let_behind := fnT_of KX G c 30 56
    rows_behind := fnT_of KX G c 31 57
    key_of := fnT_of KX G c 32 58
    reaches_in := fnT_of KX G c 33 59
    is_shut_in := fnT_of KX G c 34 60
    row_fits := fnT_of KX G c 35 61
    lefts_in := fnT_of KX G c 36 62
    fit_lets := fnT_of KX G c 37 63
    fit_lets_at := fnT_of KX G c 38 64
    column := fnT_of KX G c 39 65
    rows_at := fnT_of KX G c 40 66
    fit_behind := fnT_of KX G c 41 67
    reaches := fnT_of KX G c 42 68
    are_rows := fnT_of KX G c 43 69
    is_reaches := fnT_of KX G c 44 70
    is_shut := fnT_of KX G c 45 71
    how_far := fnT_of KX G c 46 72
    rows_left := fnT_of KX G c 47 73
    law_box := fnT_of KX G c 48 74
    law_take := fnT_of KX G c 49 75
    law_cells := fnT_of KX G c 50 76
    law_of := fnT_of KX G c 51 77
    law_pick := fnT_of KX G c 52 78
    law_lists := fnT_of KX G c 53 79
    law_same := fnT_of KX G c 54 80
    law_over := fnT_of KX G c 55 81
    law_beside := fnT_of KX G c 56 82
    law_four := fnT_of KX G c 57 83
    law_plan := fnT_of KX G c 58 84
    law_kinds_next := fnT_of KX G c 59 85
    law_moved_on := fnT_of KX G c 60 86
    law_lets_of := fnT_of KX G c 61 87
    law_floors := fnT_of KX G c 62 88
    law_boxed := fnT_of KX G c 63 89
    law_room := fnT_of KX G c 64 90
    law_column := fnT_of KX G c 65 91
    law_rows := fnT_of KX G c 66 92
    law_row_fits := fnT_of KX G c 67 93
    law_reaches := fnT_of KX G c 68 94
    law_some_lets := fnT_of KX G c 69 95
    law_told_lets := fnT_of KX G c 70 96
    law_lets_drawn := fnT_of KX G c 71 97
    law_keeps := fnT_of KX G c 72 98
    law_by_hand_right := fnT_of KX G c 73 99
    law_bent := fnT_of KX G c 74 100
    law_is_own := fnT_of KX G c 75 101
    law_right := fnT_of KX G c 76 102
  }
theorem law_of (KX : K.In h) (G : h.Ns mainGlobals mg) (c : He.SaysD faL fnL K) : FnT K mg "law" (topS 94) := fnT_of KX G c 77 103
end
theorem FnI.at_ {P : Program} {w : World} {K : PySem.W.Frag} {mg : Str → Option Value} {bs : Heap} {k : Nat} {x : Str} {st : Stmt} {ps : List Str} {sp : Sp} {f : Addr} {fd : FuncData} (F : FunD K x x (defArgs st) (defBody st) (defScope st) [] [] f fd) (hm : mg x = some (.ref f)) (G : FnI P w K mg bs k x ps sp) : FnOk P w K mg bs CX0 k f fd ps sp := by
  obtain ⟨f', fd', ok, hm', _, _, p, b, s, F'⟩ := G.ex
  rw [hm] at hm'
  have e : f = f' := Value.ref.inj (Option.some.inj hm')
  subst e
  obtain ⟨_, _, _, _, _, _, _, _, _, _, _, l1, _⟩ := F.ex
  obtain ⟨_, _, _, _, _, _, _, _, _, _, _, l2, _⟩ := F'.ex
  rw [l1] at l2
  have e2 : fd = fd' := by
    have := Option.some.inj l2
    injection this with _ _ h3 _
    injection h3
  rw [e2]; exact ok
theorem law_walk {P : Program} {w : World} {K : PySem.W.Frag} {h : Heap} {mg : Str → Option Value} {fa : Addr} (hfa : mg ("law" : Str) = some (.ref fa)) (KX : K.In h) (G : h.Ns mainGlobals mg) (c : He.SaysX faL fnL [] [] exB w h K) :
    ∃ (fd : FuncData) (sp : Sp), (∀ (s : Shared) (u : Value), BindsTo s fd ⟨[u], []⟩ [("_law_script", u)]) ∧ (∀ (H : Hp) (a : Addr) (ns : List Int), ns.length ≤ 63 → Only H → SqL K H a (ns.map V.int) → sp [.ref a] H (fun v _ => v = .bl true) fun _ _ _ => False) ∧ ∀ base : Heap, K.In base → base.Ns mainGlobals mg → FnOk P w K mg base CX0 10 fa fd ["_law_script"] sp := by
  have sd := c.t.d
  have T := tp_of KX G sd c.more
  have TL := law_of KX G sd
  obtain ⟨f, fd, F, hm⟩ := TL.ex
  rw [hfa] at hm
  have e : fa = f := Value.ref.inj (Option.some.inj hm)
  subst e
  have bd := FunD.bindsA (ps := ["_law_script"]) F fun _ _ _ _ _ _ us hl => match us, hl with | [_], _ => rfl
  refine ⟨fd, spS 1 fun l ds d => ds = [] ∧ d = .bl true, fun s u => bd s [u] rfl, fun H a ns _ hO hS => ?_, fun base _ _ => FnI.at_ F hfa (law_ok T TL)⟩
  have key : ∃ o, H a = some (.frz o (.lst (ns.map V.int))) := by
    rcases hS with (h1 | h1) | ⟨o, its, n, hk, hc, _⟩
    · rcases hO a with z | ⟨o, xs, z⟩
      · rw [z] at h1; cases h1
      · rw [z] at h1; cases h1
    · exact h1
    · have ex := c.more
      unfold exB at ex
      simp only [Bool.and_eq_true] at ex
      exact (noLst_ok ex.1 hk hc).elim
  obtain ⟨o, ho⟩ := key
  exact ⟨a, o, ns, [], fun _ => False, [], .bl true, rfl, rfl, fun _ z => z.elim, id, ho, .nil, ⟨rfl, rfl⟩, fun v H' _ at_ => by cases at_; rfl⟩
end TR
open PySem PySem.W PySem.Calls PyProof.Rows
theorem PySem.Challenge.cw_tatamirooms_k32_whole_reaches_judged_holds : PySem.Challenge.rw_tatamirooms_k32_whole_reaches_judged.Holds := by
    refine TR.head_one ?_
    refine L2.walk_ofE (l := PySem.Challenge.rw_tatamirooms_k32_whole_reaches_judged) (n := 63) (k := 10) (x := "_law_script") (CX := L2.CX0) rfl (by decide) (by kernel_rfl) ⟨rfl, by decide, by decide⟩ ?F (fun _ _ _ _ z => z)
    intro w mg fa h Y G hmg0
    obtain ⟨K, KX, c⟩ := Y
    have hmg : mg ("law" : PySem.Str) = some (.ref fa) := by
      have e : (HandSHeadRun.topDef TR.headR.prog 94).name = ("law" : PySem.Str) := by kernel_rfl
      rw [← e]
      exact hmg0
    obtain ⟨fd, sp, hb, hsp, hF⟩ := TR.law_walk (P := (PySem.Challenge.rw_tatamirooms_k32_whole_reaches_judged).prog) hmg KX G c
    exact ⟨K, fd, sp, KX, hb, hsp, hF⟩
