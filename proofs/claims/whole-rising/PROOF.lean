import PyProof.Rows.All
import Wide.All
import OpenK.AllK
import Wide.FinOn
import KE.KStateDown
import HandS.Base
import HandS.Call
import HandS.Ends
import HandS.More
import HandS.Words
import HandS.WordsExc
import HandS.Defaults
import HandS.Head0
import HandS.Head1
import HandS.Head2
import HandS.HeadEnd
import HandS.HeadHook1
import HandS.HeadHook2
import PySem.Challenge.RW_pickedrelease_k24_whole_rising
import HandS.ForMost
import HandS.StrMore
import HandS.TupAny
import HandS.TupMul
import HandS.Deep
import HandS.IsInst
import HandS.Star
import HandS.FStr
import HandS.Strs
import PyProof.TupleOfStr
import HandS.EndTab
import HandS.Conv
import HandS.Walk
import HandS.Style
import KE.DataCmp
import KE.DataMinMax
import HandS.NoneIn
import HandS.Iter
import KE.GoesMore
import HandS.Dict
import HandS.RaiseMore
import PyProof.ReprRoads
import KE.SortKeyHeap
import HandS.SortKw
set_option Elab.async false
set_option linter.all false
set_option maxRecDepth 100000
set_option maxHeartbeats 0
namespace Hd
open PySem PySem.Spec PyProof.Rows L2
def topS (i : Nat) : Stmt := PySem.Challenge.pw_pickedrelease_k24_whole_rising.main.body.getD i (.Pass ⟨0, 0, 0, 0⟩)
abbrev s_number_at : Stmt := topS 11
abbrev s_numbers_at : Stmt := topS 12
abbrev s_word_at : Stmt := topS 13
abbrev s_tail_at : Stmt := topS 14
abbrev s_parts_of : Stmt := topS 15
abbrev s_based : Stmt := topS 16
abbrev s_tail_of : Stmt := topS 17
abbrev s_split_tail : Stmt := topS 18
abbrev s_key_from : Stmt := topS 19
abbrev s_key_of : Stmt := topS 20
abbrev s_numbers_of : Stmt := topS 21
abbrev s_text_of : Stmt := topS 22
abbrev s_following_key : Stmt := topS 23
abbrev s_is_final_key : Stmt := topS 24
abbrev s_is_plain : Stmt := topS 25
abbrev s_is_version : Stmt := topS 26
abbrev s_is_small : Stmt := topS 33
abbrev s_is_clause : Stmt := topS 34
abbrev s_need_requirement : Stmt := topS 35
abbrev s_names_of : Stmt := topS 36
abbrev s_numbers_cuts : Stmt := topS 41
abbrev s_block_cuts : Stmt := topS 42
abbrev s_outside : Stmt := topS 43
abbrev s_bounded_spans : Stmt := topS 44
abbrev s_clause_spans : Stmt := topS 45
abbrev s_lesser_end : Stmt := topS 46
abbrev s_meet : Stmt := topS 47
abbrev s_spans_of : Stmt := topS 48
abbrev s_is_release : Stmt := topS 51
abbrev s_need_releases : Stmt := topS 52
abbrev s_is_after : Stmt := topS 57
abbrev s_next_final : Stmt := topS 58
abbrev s_next_forerunner : Stmt := topS 59
abbrev s_within : Stmt := topS 60
abbrev s_nearer : Stmt := topS 61
abbrev s_first_in : Stmt := topS 62
abbrev s_above : Stmt := topS 63
abbrev s_pair_above : Stmt := topS 64
abbrev s_pair_behind : Stmt := topS 65
abbrev s_lesser_forerunner : Stmt := topS 66
abbrev s_shown : Stmt := topS 67
abbrev s_is_naming_felt : Stmt := topS 68
abbrev s_falling : Stmt := topS 69
abbrev s_is_rising : Stmt := topS 70
abbrev s_law_mixed : Stmt := topS 72
abbrev s_law_begin : Stmt := topS 73
abbrev s_law_draw : Stmt := topS 74
abbrev s_law_parts : Stmt := topS 75
abbrev s_law_base : Stmt := topS 76
abbrev s_law_key : Stmt := topS 77
abbrev s_law_is_forerunner : Stmt := topS 78
abbrev s_law_text : Stmt := topS 79
abbrev s_law_small : Stmt := topS 80
abbrev s_law_in_block : Stmt := topS 81
abbrev s_law_clause_lets : Stmt := topS 82
abbrev s_law_lets : Stmt := topS 83
abbrev s_law_names : Stmt := topS 84
abbrev s_law_pins : Stmt := topS 85
abbrev s_law_pick : Stmt := topS 86
abbrev s_law_version : Stmt := topS 87
abbrev s_law_plain : Stmt := topS 88
abbrev s_law_clause : Stmt := topS 89
abbrev s_law_requirement : Stmt := topS 90
abbrev s_law_releases : Stmt := topS 91
abbrev s_law_around : Stmt := topS 92
abbrev s_law_pool : Stmt := topS 93
abbrev s_law_falls : Stmt := topS 94
abbrev s_law_pair_right : Stmt := topS 95
abbrev s_law : Stmt := topS 96
abbrev FnP (K : PySem.W.Frag) (x : Str) (st : Stmt) (f : Addr) (fd : FuncData) : Prop := FunD K x x (defArgs st) (defBody st) (defScope st) [] [] f fd
def dd (x : Str) (st : Stmt) : He.DefD := ⟨(x, none), x, x, defArgs st, defBody st, defScope st, [], []⟩
def fn0 : List He.DefD := [dd "number_at" s_number_at, dd "numbers_at" s_numbers_at, dd "word_at" s_word_at, dd "tail_at" s_tail_at, dd "parts_of" s_parts_of, dd "based" s_based, dd "tail_of" s_tail_of, dd "split_tail" s_split_tail, dd "key_from" s_key_from, dd "key_of" s_key_of, dd "numbers_of" s_numbers_of, dd "text_of" s_text_of, dd "following_key" s_following_key, dd "is_final_key" s_is_final_key, dd "is_plain" s_is_plain, dd "is_version" s_is_version, dd "is_small" s_is_small, dd "is_clause" s_is_clause, dd "need_requirement" s_need_requirement, dd "names_of" s_names_of, dd "numbers_cuts" s_numbers_cuts, dd "block_cuts" s_block_cuts, dd "outside" s_outside, dd "bounded_spans" s_bounded_spans, dd "clause_spans" s_clause_spans]
def fn1 : List He.DefD := [dd "lesser_end" s_lesser_end, dd "meet" s_meet, dd "spans_of" s_spans_of, dd "is_release" s_is_release, dd "need_releases" s_need_releases, dd "is_after" s_is_after, dd "next_final" s_next_final, dd "next_forerunner" s_next_forerunner, dd "within" s_within, dd "nearer" s_nearer, dd "first_in" s_first_in, dd "above" s_above, dd "pair_above" s_pair_above, dd "pair_behind" s_pair_behind, dd "lesser_forerunner" s_lesser_forerunner, dd "shown" s_shown, dd "is_naming_felt" s_is_naming_felt, dd "falling" s_falling, dd "is_rising" s_is_rising, dd "_law_mixed" s_law_mixed, dd "_law_begin" s_law_begin, dd "_law_draw" s_law_draw, dd "_law_parts" s_law_parts, dd "_law_base" s_law_base, dd "_law_key" s_law_key]
def fn2 : List He.DefD := [dd "_law_is_forerunner" s_law_is_forerunner, dd "_law_text" s_law_text, dd "_law_small" s_law_small, dd "_law_in_block" s_law_in_block, dd "_law_clause_lets" s_law_clause_lets, dd "_law_lets" s_law_lets, dd "_law_names" s_law_names, dd "_law_pins" s_law_pins, dd "_law_pick" s_law_pick, dd "_law_version" s_law_version, dd "_law_plain" s_law_plain, dd "_law_clause" s_law_clause, dd "_law_requirement" s_law_requirement, dd "_law_releases" s_law_releases, dd "_law_around" s_law_around, dd "_law_pool" s_law_pool, dd "_law_falls" s_law_falls, dd "_law_pair_right" s_law_pair_right, dd "law" s_law]
def fn : List He.DefD := fn0 ++ fn1 ++ fn2
/-- the empty tuple within LEAST -/
def pE (K : PySem.W.Frag) : Addr := match K.lookup (He.ga K "LEAST") with
  | some ⟨_, _, .seq its _, _⟩ => (match its.toList[(1 : Nat)]? with
    | some (.ref a) => a
    | _ => 0)
  | _ => 0
def fa0 : List He.Fa := [.free "isinstance", .free "len", .free "int", .free "str", .free "tuple", .free "list", .free "range", .free "enumerate", .free "any", .free "max", .free "min", .free "sorted", .free "bool", .free "repr", .free "dict", .int "MOST_FIGURES" 24, .int "MOST_NUMBERS_versions" 60, .int "MOST_CLAUSES" 12, .int "MOST_NUMBERS_requirements" 8, .int "MOST_NUMBER" 1000000000, .int "MOST_RELEASES" 40, .int "POST_alike" 3, .str "FIGURES" "0123456789", .str "POST_versions" ".post", .str "DEV" ".dev", .str "STAR" ".*"]
def fa1 : List He.Fa := [.glo "WORDS", .glo "SIGNS", .glo "FIRST", .glo "AFTER_ALL_spans", .glo "LEAST", .glo "AFTER_ALL_alike", .glo "FINAL_TAIL"]
def fg0 : List He.Fa := [.glo "number_at", .glo "numbers_at", .glo "word_at", .glo "tail_at", .glo "parts_of", .glo "based", .glo "tail_of", .glo "split_tail", .glo "key_from", .glo "key_of", .glo "numbers_of", .glo "text_of", .glo "following_key", .glo "is_final_key", .glo "is_plain", .glo "is_version", .glo "is_small", .glo "is_clause", .glo "need_requirement", .glo "names_of", .glo "numbers_cuts", .glo "block_cuts", .glo "outside", .glo "bounded_spans", .glo "clause_spans"]
def fg1 : List He.Fa := [.glo "lesser_end", .glo "meet", .glo "spans_of", .glo "is_release", .glo "need_releases", .glo "is_after", .glo "next_final", .glo "next_forerunner", .glo "within", .glo "nearer", .glo "first_in", .glo "above", .glo "pair_above", .glo "pair_behind", .glo "lesser_forerunner", .glo "shown", .glo "is_naming_felt", .glo "falling", .glo "is_rising", .glo "_law_mixed", .glo "_law_begin", .glo "_law_draw", .glo "_law_parts", .glo "_law_base", .glo "_law_key"]
def fg2 : List He.Fa := [.glo "_law_is_forerunner", .glo "_law_text", .glo "_law_small", .glo "_law_in_block", .glo "_law_clause_lets", .glo "_law_lets", .glo "_law_names", .glo "_law_pins", .glo "_law_pick", .glo "_law_version", .glo "_law_plain", .glo "_law_clause", .glo "_law_requirement", .glo "_law_releases", .glo "_law_around", .glo "_law_pool", .glo "_law_falls", .glo "_law_pair_right", .glo "law"]
def fa : List He.Fa := fa0 ++ fa1 ++ fg0 ++ fg1 ++ fg2
def tupAt (K : PySem.W.Frag) (a : Addr) (vs : List He.Dv) : Bool := match K.lookup a with
  | some ⟨.type c, _, .seq its _, _⟩ => decide (c = "tuple") && (decide (its.size ≤ sizeLine) && He.relAll (vs.map (He.Dv.v K)) its.toList)
  | _ => false
def tb : List (Str × List He.Dv) := [("WORDS", [.str "a", .str "b", .str "rc"]), ("SIGNS", [.str "==", .str "!=", .str "<=", .str ">=", .str "<", .str ">", .str "~="]), ("FIRST", [.int 0, .int 0]), ("AFTER_ALL_spans", [.int 4]), ("LEAST", [.int 0, .adr pE, .glo "FIRST"]), ("AFTER_ALL_alike", [.int 4]), ("FINAL_TAIL", [.int 2])]
def noDict (K : PySem.W.Frag) (a : Addr) : Bool := match K.lookup a with
  | some ⟨_, none, _, _⟩ => true
  | _ => false
def ex (K : PySem.W.Frag) : Bool := ((tb.all fun p => He.tupB K p.1 p.2) && tupAt K (pE K) []) && noDict K (He.ga K "WORDS")
abbrev Al : Type := He.AlD × Bool
def hk (n : Nat) : PySem.W.Hook where
  α := Al
  obs := fun s => (He.obsDG n fa fn s.heap.get?, ex (He.frG s.heap.get? (He.asD s.heap.get? n)))
  val := fun _ => (He.valD fn, true)
  says := fun _ h => ∃ K : PySem.W.Frag, K.In h ∧ He.SaysD fa fn K ∧ ex K = true
  of := fun _ _ e => ⟨_, He.frG_in, congrArg (fun z : Al => z.1) e, congrArg (fun z : Al => z.2) e⟩
  keeps := fun _ _ _ ⟨K, hK, c⟩ k => ⟨K, PySem.W.Frag.In.keeps hK k, c⟩
abbrev R : PySem.W.OpenRow := PySem.W.OpenLaw.row PySem.Challenge.rw_pickedrelease_k24_whole_rising
def obG (n : Nat) (g : Addr → Option Obj) : Al := (He.obsDG n fa fn g, ex (He.frG g (He.asD g n)))
def ob (s : PySem.W.SharedT) : Al := obG 4 (HandSHeadRun.getT s)
theorem ob_eq (s : PySem.W.SharedT) : ob s = (hk 4).obs s.abs := by
  have e : HandSHeadRun.getT s = s.abs.heap.get? := funext (HandSHeadRun.getT_eq s)
  show obG 4 (HandSHeadRun.getT s) = obG 4 s.abs.heap.get?
  rw [e]
def loose : List PySem.Str := (["PickError", "BadRequirement", "BadReleases", "FIGURES", "MOST_FIGURES", "MOST_NUMBERS_versions", "WORDS", "POST_versions", "DEV", "number_at", "numbers_at", "word_at", "tail_at", "parts_of", "based", "tail_of", "split_tail", "key_from", "key_of", "numbers_of", "text_of", "following_key", "is_final_key", "is_plain", "is_version", "MOST_CLAUSES", "SIGNS", "STAR", "MOST_NUMBERS_requirements", "MOST_NUMBER"] : List PySem.Str) ++ (["is_small", "is_clause", "need_requirement", "names_of", "FIRST", "AFTER_ALL_spans", "LEAST", "numbers_cuts", "block_cuts", "outside", "bounded_spans", "clause_spans", "lesser_end", "meet", "spans_of", "MOST_RELEASES", "is_release", "need_releases", "AFTER_ALL_alike", "FINAL_TAIL", "POST_alike", "is_after", "next_final", "next_forerunner", "within", "nearer", "first_in", "above", "pair_above", "pair_behind"] : List PySem.Str) ++ (["lesser_forerunner", "shown", "is_naming_felt", "falling", "is_rising", "_law_mixed", "_law_begin", "_law_draw", "_law_parts", "_law_base", "_law_key", "_law_is_forerunner", "_law_text", "_law_small", "_law_in_block", "_law_clause_lets", "_law_lets", "_law_names", "_law_pins", "_law_pick", "_law_version", "_law_plain", "_law_clause", "_law_requirement", "_law_releases", "_law_around", "_law_pool", "_law_falls", "_law_pair_right"] : List PySem.Str)
theorem run (w : World) : HandSHeadRun.RunEq R (PySem.W.view R.prog [96]) (hk 4) ob 6000 loose w := by
  intro os
  kernel_rfl
end Hd

set_option Elab.async false
set_option linter.all false
set_option maxRecDepth 100000
set_option maxHeartbeats 4000000
/-! the data layer: what a piece of syntax does with data (PyData), over the hand layer's readings -/
namespace DL
open PySem PySem.Spec PyProof.Rows L2
/-! ### data in a heap that only grows -/
mutual
inductive Dt (K : PySem.W.Frag) (F : Hp) : V → PyData → Prop
  | non : Dt K F .non .none
  | bl (b : Bool) : Dt K F (.bl b) (.bool b)
  | int (i : Int) : Dt K F (.int i) (.int i)
  | str (x : Str) : Dt K F (.str x) (.str x)
  | lst {a : Addr} {xs : List V} {ds : List PyData} : F a = some (.lst xs) → DtAll K F xs ds → Dt K F (.ref a) (.list ds)
  | tup {a : Addr} {xs : List V} {ds : List PyData} : SqT K F a xs → DtAll K F xs ds → Dt K F (.ref a) (.tuple ds)
inductive DtAll (K : PySem.W.Frag) (F : Hp) : List V → List PyData → Prop
  | nil : DtAll K F [] []
  | cons {v : V} {vs : List V} {d : PyData} {ds : List PyData} : Dt K F v d → DtAll K F vs ds → DtAll K F (v :: vs) (d :: ds)
end
theorem sqT_mono {K : PySem.W.Frag} {H H' : Hp} {a : Addr} {xs : List V} (e : Same H H') (h : SqT K H a xs) : SqT K H' a xs := by
  rcases h with (h | ⟨o, h⟩) | h
  · exact .inl (.inl (e _ _ h))
  · exact .inl (.inr ⟨o, e _ _ h⟩)
  · exact .inr h
section
variable {K : PySem.W.Frag} {F F' : Hp}
mutual
theorem Dt.mono (e : Same F F') : ∀ (d : PyData) (v : V), Dt K F v d → Dt K F' v d
  | .none, _, h => by cases h; exact .non
  | .bool b, _, h => by cases h; exact .bl b
  | .int i, _, h => by cases h; exact .int i
  | .str x, _, h => by cases h; exact .str x
  | .list ds, _, h => by
    cases h with
    | lst hs ha => exact .lst (e _ _ hs) (DtAll.mono e ds _ ha)
  | .tuple ds, _, h => by
    cases h with
    | tup hs ha => exact .tup (sqT_mono e hs) (DtAll.mono e ds _ ha)
  | .dict _, _, h => by cases h
theorem DtAll.mono (e : Same F F') : ∀ (ds : List PyData) (vs : List V), DtAll K F vs ds → DtAll K F' vs ds
  | [], _, h => by cases h; exact .nil
  | d :: ds, _, h => by
    cases h with
    | cons h1 h2 => exact .cons (Dt.mono e d _ h1) (DtAll.mono e ds _ h2)
end
mutual
theorem Dt.dp (e : Same F F') : ∀ (d : PyData) (v : V), Dt K F v d → Dp K F' v d
  | .none, _, h => by cases h; exact .non
  | .bool b, _, h => by cases h; exact .bl b
  | .int i, _, h => by cases h; exact .int i
  | .str x, _, h => by cases h; exact .str x
  | .list ds, _, h => by
    cases h with
    | lst hs ha => exact .lst (.inl (.inl (e _ _ hs))) (DtAll.dp e ds _ ha)
  | .tuple ds, _, h => by
    cases h with
    | tup hs ha => exact .tup (sqT_mono e hs) (DtAll.dp e ds _ ha)
  | .dict _, _, h => by cases h
theorem DtAll.dp (e : Same F F') : ∀ (ds : List PyData) (vs : List V), DtAll K F vs ds → DpAll K F' vs ds
  | [], _, h => by cases h; exact .nil
  | d :: ds, _, h => by
    cases h with
    | cons h1 h2 => exact .cons (Dt.dp e d _ h1) (DtAll.dp e ds _ h2)
end
theorem DtAll.len : ∀ {ds : List PyData} {vs : List V}, DtAll K F vs ds → vs.length = ds.length
  | [], _, h => by cases h; rfl
  | d :: ds, _, h => by
    cases h with
    | cons h1 h2 => rw [List.length_cons, List.length_cons, h2.len]
theorem DtAll.get : ∀ {ds : List PyData} {vs : List V} {i : Nat} {d : PyData}, DtAll K F vs ds → ds[i]? = some d → ∃ v, vs[i]? = some v ∧ Dt K F v d
  | [], _, _, _, _, e => by simp at e
  | x :: ds, _, i, d, h, e => by
    cases h with
    | cons h1 h2 =>
      cases i with
      | zero =>
        have e2 : x = d := by simpa using e
        subst e2
        exact ⟨_, rfl, h1⟩
      | succ i =>
        obtain ⟨v, q1, q2⟩ := h2.get (show ds[i]? = some d by simpa using e)
        exact ⟨v, by simpa using q1, q2⟩
theorem DtAll.app : ∀ {ds es : List PyData} {vs us : List V}, DtAll K F vs ds → DtAll K F us es → DtAll K F (vs ++ us) (ds ++ es)
  | [], _, _, _, h, q => by cases h; exact q
  | _ :: _, _, _, _, h, q => by
    cases h with
    | cons h1 h2 => exact .cons h1 (h2.app q)
theorem DtAll.take : ∀ {ds : List PyData} {vs : List V} (n : Nat), DtAll K F vs ds → DtAll K F (vs.take n) (ds.take n)
  | _, _, 0, _ => by rw [List.take_zero, List.take_zero]; exact .nil
  | [], _, n + 1, h => by cases h; exact .nil
  | _ :: _, _, n + 1, h => by
    cases h with
    | cons h1 h2 => exact .cons h1 (h2.take n)
theorem DtAll.drop : ∀ {ds : List PyData} {vs : List V} (n : Nat), DtAll K F vs ds → DtAll K F (vs.drop n) (ds.drop n)
  | _, _, 0, h => h
  | [], _, n + 1, h => by cases h; exact .nil
  | _ :: _, _, n + 1, h => by
    cases h with
    | cons h1 h2 => exact h2.drop n
theorem DtAll.one {v : V} {d : PyData} (h : Dt K F v d) : DtAll K F [v] [d] := .cons h .nil
theorem DtAll.rev {ds : List PyData} : ∀ {vs : List V}, DtAll K F vs ds → DtAll K F vs.reverse ds.reverse := by
  induction ds with
  | nil => intro vs h; cases h; exact .nil
  | cons d ds ih =>
    intro vs h
    cases h with
    | cons h1 h2 =>
      rw [List.reverse_cons, List.reverse_cons]
      exact (ih h2).app (.one h1)
theorem DtAll.rep {ds : List PyData} {vs : List V} (h : DtAll K F vs ds) : ∀ n : Nat, DtAll K F (List.replicate n vs).flatten (List.replicate n ds).flatten
  | 0 => .nil
  | n + 1 => by
    rw [List.replicate_succ, List.replicate_succ, List.flatten_cons, List.flatten_cons]
    exact h.app (DtAll.rep h n)
theorem DtAll.dropLast {ds : List PyData} {vs : List V} (h : DtAll K F vs ds) : DtAll K F vs.dropLast ds.dropLast := by
  rw [List.dropLast_eq_take, List.dropLast_eq_take, h.len]
  exact h.take _
theorem DtAll.erase : ∀ {ds : List PyData} {vs : List V} (i : Nat), DtAll K F vs ds → DtAll K F (vs.eraseIdx i) (ds.eraseIdx i)
  | [], _, _, h => by cases h; exact .nil
  | _ :: _, _, 0, h => by
    cases h with
    | cons h1 h2 => exact h2
  | _ :: _, _, i + 1, h => by
    cases h with
    | cons h1 h2 => exact .cons h1 (h2.erase i)
theorem DtAll.ints : ∀ (ns : List Int) {vs : List V}, DtAll K F vs (ns.map PyData.int) → vs = ns.map V.int
  | [], _, h => by cases h; rfl
  | n :: ns, _, h => by
    cases h with
    | cons h1 h2 =>
      cases h1
      rw [DtAll.ints ns h2]
      rfl
theorem DtAll.strs : ∀ (ns : List Str) {vs : List V}, DtAll K F vs (ns.map PyData.str) → vs = ns.map V.str
  | [], _, h => by cases h; rfl
  | n :: ns, _, h => by
    cases h with
    | cons h1 h2 =>
      cases h1
      rw [DtAll.strs ns h2]
      rfl
theorem DtAll.bools : ∀ (ns : List Bool) {vs : List V}, DtAll K F vs (ns.map PyData.bool) → vs = ns.map V.bl
  | [], _, h => by cases h; rfl
  | n :: ns, _, h => by
    cases h with
    | cons h1 h2 =>
      cases h1
      rw [DtAll.bools ns h2]
      rfl
theorem DtAll.of_ints : ∀ (ns : List Int), DtAll K F (ns.map V.int) (ns.map PyData.int)
  | [] => .nil
  | n :: ns => .cons (.int n) (DtAll.of_ints ns)
theorem DtAll.of_strs : ∀ (ns : List Str), DtAll K F (ns.map V.str) (ns.map PyData.str)
  | [] => .nil
  | n :: ns => .cons (.str n) (DtAll.of_strs ns)
end
/-! ### slots, states -/
/-- what a slot holds: nothing known, data, a list of one's own (nothing else knows it), the law's state -/
inductive Sl where
  | un
  | d (x : PyData)
  | own (xs : List PyData)
  | st
structure DS where
  r : List Sl
  n : Nat
/-- where the state stands (its dict, its list of lefts); the frozen part and the heap at the entry -/
structure Fx where
  z : Option (Addr × Addr)
  F0 : Hp
  B : Hp
def Wr (z : Option (Addr × Addr)) (a : Addr) : Prop := ∃ p l, z = some (p, l) ∧ (a = p ∨ a = l)
abbrev kCells : Key := Sum.inr "cells"
abbrev kLefts : Key := Sum.inr "lefts"
abbrev kAt : Key := Sum.inr "at"
abbrev kRoom : Key := Sum.inr "room"
def StAt (z : Option (Addr × Addr)) (F H : Hp) (n : Nat) : Prop := ∀ p l, z = some (p, l) → p ≠ l ∧ F p = none ∧ F l = none ∧ ∃ (pc : Addr) (cs ls : List Int),
  H p = some (.dK [(kCells, .ref pc), (kLefts, .ref l), (kAt, .int (n : Nat)), (kRoom, .int 0)]) ∧ H l = some (.lst (ls.map V.int)) ∧ F pc = some (.lst (cs.map V.int)) ∧ cs.length = ls.length ∧ 0 < cs.length
def SlOk (K : PySem.W.Frag) (z : Option (Addr × Addr)) (B F H : Hp) (o : Option (Option V)) : Sl → Prop
  | .un => True
  | .d x => ∃ v, o = some (some v) ∧ Dt K F v x
  | .own xs => ∃ p, o = some (some (.ref p)) ∧ (∃ vs, H p = some (.lst vs) ∧ DtAll K F vs xs) ∧ F p = none ∧ B p = none ∧ ¬ Wr z p
  | .st => ∃ p l, z = some (p, l) ∧ o = some (some (.ref p))
structure EnvOk (K : PySem.W.Frag) (Y : Fx) (F H : Hp) (σ : L2.St) (s : DS) : Prop where
  fh : Same F H
  f0 : Same Y.F0 F
  fr : ∀ a o, F a = some o → Y.F0 a = some o ∨ Y.B a = none
  bh : ∀ a o, Y.B a = some o → ¬ Wr Y.z a → H a = some o
  st : StAt Y.z F H s.n
  ln : σ.length = s.r.length
  sl : ∀ (i : Nat) (x : Sl), s.r[i]? = some x → SlOk K Y.z Y.B F H σ[i]? x
  nd : ∀ (i j : Nat) (p : Addr) (xs ys : List PyData), s.r[i]? = some (.own xs) → s.r[j]? = some (.own ys) → σ[i]? = some (some (.ref p)) → σ[j]? = some (some (.ref p)) → i = j
section
variable {K : PySem.W.Frag} {Y : Fx} {F H F' H' : Hp} {σ : L2.St} {s : DS}
theorem StAt.has {z : Option (Addr × Addr)} {n : Nat} {a : Addr} (h : StAt z F H n) (w : Wr z a) : H a ≠ none := by
  obtain ⟨p, l, e, w⟩ := w
  obtain ⟨h1, h2, h3, pc, cs, ls, h4, h5, _⟩ := h p l e
  rcases w with rfl | rfl
  · rw [h4]; exact fun q => nomatch q
  · rw [h5]; exact fun q => nomatch q
theorem SlOk.grow {z : Option (Addr × Addr)} {B : Hp} {o : Option (Option V)} (hF : Same F F') (hH : ∀ a u, H a = some u → ¬ Wr z a → H' a = some u) (fr : ∀ a u, F' a = some u → F a = some u ∨ H a = none) : ∀ {x : Sl}, SlOk K z B F H o x → SlOk K z B F' H' o x
  | .un, _ => trivial
  | .d x, ⟨v, e, h⟩ => ⟨v, e, h.mono hF⟩
  | .own xs, ⟨p, e, ⟨vs, h1, h2⟩, h3, h4, h5⟩ => by
    refine ⟨p, e, ⟨vs, hH _ _ h1 h5, DtAll.mono hF _ _ h2⟩, ?_, h4, h5⟩
    cases q : F' p with
    | none => rfl
    | some u =>
      rcases fr p u q with e | e
      · rw [h3] at e; cases e
      · rw [h1] at e; cases e
  | .st, h => h
/-- the heap has grown -/
theorem EnvOk.grow (E : EnvOk K Y F H σ s) {n : Nat} (hF : Same F F') (hH : ∀ a u, H a = some u → ¬ Wr Y.z a → H' a = some u) (hFH : Same F' H') (fr : ∀ a u, F' a = some u → F a = some u ∨ H a = none) (st : StAt Y.z F' H' n) : EnvOk K Y F' H' σ { s with n := n } where
  fh := hFH
  f0 := E.f0.trans hF
  fr := fun a o e => by
    rcases fr a o e with q | q
    · exact E.fr a o q
    · refine .inr ?_
      cases b : Y.B a with
      | none => rfl
      | some u =>
        by_cases w : Wr Y.z a
        · exact absurd q (E.st.has w)
        · rw [E.bh a u b w] at q; cases q
  bh := fun a o e w => hH a o (E.bh a o e w) w
  st := st
  ln := E.ln
  sl := fun i x e => (E.sl i x e).grow hF hH fr
  nd := E.nd
theorem same_upd {H : Hp} {p : Addr} {o : HO} (h : H p = none) : Same H (upd H p o) := fun b x e => by
  rw [upd_ne (ne_of_none e h)]
  exact e
theorem same_none (e : Same F H) {p : Addr} (h : H p = none) : F p = none := by
  cases q : F p with
  | none => rfl
  | some o => rw [e _ _ q] at h; cases h
theorem StAt.alloc {z : Option (Addr × Addr)} {n : Nat} (h : StAt z F H n) (fh : Same F H) {p : Addr} {o : HO} (hp : H p = none) : StAt z (upd F p o) (upd H p o) n := fun a l e => by
  obtain ⟨h1, h2, h3, pc, cs, ls, h4, h5, h6, h7⟩ := h a l e
  have fp := same_none fh hp
  refine ⟨h1, ?_, ?_, pc, cs, ls, ?_, ?_, ?_, h7⟩
  · rw [upd_ne (ne_of_none h4 hp)]; exact h2
  · rw [upd_ne (ne_of_none h5 hp)]; exact h3
  · rw [upd_ne (ne_of_none h4 hp)]; exact h4
  · rw [upd_ne (ne_of_none h5 hp)]; exact h5
  · rw [upd_ne (ne_of_none h6 fp)]; exact h6
theorem StAt.alloc2 {z : Option (Addr × Addr)} {n : Nat} (h : StAt z F H n) {p : Addr} {o : HO} (hp : H p = none) : StAt z F (upd H p o) n := fun a l e => by
  obtain ⟨h1, h2, h3, pc, cs, ls, h4, h5, h6, h7⟩ := h a l e
  refine ⟨h1, h2, h3, pc, cs, ls, ?_, ?_, h6, h7⟩
  · rw [upd_ne (ne_of_none h4 hp)]; exact h4
  · rw [upd_ne (ne_of_none h5 hp)]; exact h5
/-- a new object, frozen at once -/
theorem EnvOk.alloc (E : EnvOk K Y F H σ s) {p : Addr} (o : HO) (hp : H p = none) : EnvOk K Y (upd F p o) (upd H p o) σ s := by
  have fp := same_none E.fh hp
  refine E.grow (n := s.n) (same_upd fp) (fun a u e _ => same_upd hp a u e) (fun a u e => ?_) (fun a u e => ?_) (E.st.alloc E.fh hp)
  · by_cases h : a = p
    · subst h; rw [upd_same] at e ⊢; exact e
    · rw [upd_ne h] at e ⊢; exact E.fh a u e
  · by_cases h : a = p
    · subst h; exact .inr hp
    · rw [upd_ne h] at e; exact .inl e
/-- a new object, not frozen -/
theorem EnvOk.alloc2 (E : EnvOk K Y F H σ s) {p : Addr} (o : HO) (hp : H p = none) : EnvOk K Y F (upd H p o) σ s :=
  E.grow (n := s.n) (Same.refl F) (fun a u e _ => same_upd hp a u e) (E.fh.trans (same_upd hp)) (fun a u e => .inl e) (E.st.alloc2 hp)
/-- an unfrozen new object is frozen -/
theorem EnvOk.freeze (E : EnvOk K Y F H σ s) {p : Addr} {o : HO} (hp : H p = some o) (fp : F p = none) (bp : Y.B p = none) (nw : ¬ Wr Y.z p) (no : ∀ (i : Nat) (xs : List PyData), s.r[i]? = some (.own xs) → σ[i]? ≠ some (some (.ref p))) : EnvOk K Y (upd F p o) H σ s where
  fh := fun a u e => by
    by_cases h : a = p
    · subst h; rw [upd_same] at e; rw [← e]; exact hp
    · rw [upd_ne h] at e; exact E.fh a u e
  f0 := E.f0.trans (same_upd fp)
  fr := fun a u e => by
    by_cases h : a = p
    · subst h; exact .inr bp
    · rw [upd_ne h] at e; exact E.fr a u e
  bh := E.bh
  st := fun a l e => by
    obtain ⟨h1, h2, h3, pc, cs, ls, h4, h5, h6, h7⟩ := E.st a l e
    have n1 : a ≠ p := fun q => nw ⟨a, l, e, .inl q.symm⟩
    have n2 : l ≠ p := fun q => nw ⟨a, l, e, .inr q.symm⟩
    exact ⟨h1, by rw [upd_ne n1]; exact h2, by rw [upd_ne n2]; exact h3, pc, cs, ls, h4, h5, same_upd fp _ _ h6, h7⟩
  ln := E.ln
  sl := fun i x e => by
    have q := E.sl i x e
    cases x with
    | un => trivial
    | d x => obtain ⟨v, e1, h⟩ := q; exact ⟨v, e1, h.mono (same_upd fp)⟩
    | st => exact q
    | own xs =>
      obtain ⟨b, e1, ⟨vs, h1, h2⟩, h3, h4, h5⟩ := q
      have nb : b ≠ p := fun z => no i xs e (by rw [← z]; exact e1)
      exact ⟨b, e1, ⟨vs, h1, DtAll.mono (same_upd fp) _ _ h2⟩, by rw [upd_ne nb]; exact h3, h4, h5⟩
  nd := E.nd
end
/-! ### judgements -/
abbrev QD := PyData → DS → Prop
abbrev TD := DS → QD → Prop
abbrev TDT := DS → (Bool → DS → Prop) → Prop
/-- arguments: data, or the state -/
inductive Ar where
  | d (x : PyData)
  | st
abbrev TDA := DS → (List PyData → DS → Prop) → Prop
def SnE (K : PySem.W.Frag) (te : TE) (td : TD) : Prop := ∀ (Y : Fx) (F H : Hp) (σ : L2.St) (s : DS) (Qd : QD) (Q : VK), EnvOk K Y F H σ s → td s Qd →
  (∀ v d F' H' s', Same F F' → EnvOk K Y F' H' σ s' → Dt K F' v d → Qd d s' → Q v H') → te σ H Q
def SnT (K : PySem.W.Frag) (tt : TT) (td : TDT) : Prop := ∀ (Y : Fx) (F H : Hp) (σ : L2.St) (s : DS) (Qd : Bool → DS → Prop) (Q : Bool → Hp → Prop), EnvOk K Y F H σ s → td s Qd →
  (∀ b F' H' s', Same F F' → EnvOk K Y F' H' σ s' → Qd b s' → Q b H') → tt σ H Q
def SnA (K : PySem.W.Frag) (ta : TA) (td : TDA) : Prop := ∀ (Y : Fx) (F H : Hp) (σ : L2.St) (s : DS) (Qd : List PyData → DS → Prop) (Q : List V → Hp → Prop), EnvOk K Y F H σ s → td s Qd →
  (∀ vs ds F' H' s', Same F F' → EnvOk K Y F' H' σ s' → DtAll K F' vs ds → Qd ds s' → Q vs H') → ta σ H Q
structure DE (X : Cx) (e : Expr) (te : TE) (td : TD) : Prop where
  pe : PE X e te
  sn : SnE X.K te td
structure DT (X : Cx) (e : Expr) (tt : TT) (td : TDT) : Prop where
  pt : PT X e tt
  sn : SnT X.K tt td
structure DW (X : Cx) (e : Expr) (tt : TT) (td : TDT) : Prop where
  pw : PW X e tt
  sn : SnT X.K tt td
structure DA (X : Cx) (es : List Expr) (ta : TA) (td : TDA) : Prop where
  pa : PA X es ta
  sn : SnA X.K ta td
section
variable {X : Cx} {a b e : Expr} {es : List Expr} {ta tb te : TE} {da db de : TD} {pos : Pos}
/-! ### names, constants -/
def gt (l : List Sl) (i : Nat) : Option PyData := match l[i]? with
  | some (.d x) => some x
  | _ => none
def dVar (i : Nat) : TD := fun s Q => ∃ x, s.r[i]? = some (.d x) ∧ Q x s
def dC (x : PyData) : TD := fun s Q => Q x s
theorem sn_var (K : PySem.W.Frag) (i : Nat) : SnE K (tVar i) (dVar i) := fun Y F H σ s Qd Q E h k => by
  obtain ⟨x, e, q⟩ := h
  obtain ⟨v, e1, hv⟩ := E.sl i _ e
  exact ⟨v, e1, k v x F H s (Same.refl F) E hv q⟩
theorem de_var {i : Nat} {x : Str} (h : PE X (.Name x pos) (tVar i)) : DE X (.Name x pos) (tVar i) (dVar i) := ⟨h, sn_var _ i⟩
theorem sn_c {K : PySem.W.Frag} {v : V} {x : PyData} (h : ∀ F, Dt K F v x) : SnE K (tC v) (dC x) := fun Y F H σ s Qd Q E q k => k v x F H s (Same.refl F) E (h F) q
theorem de_int {i j} : DE X (.Constant (.int i) j pos) (tC (.int i)) (dC (.int i)) := ⟨pe_int, sn_c fun _ => .int i⟩
theorem de_str {x j} : DE X (.Constant (.str x) j pos) (tC (.str x)) (dC (.str x)) := ⟨pe_str, sn_c fun _ => .str x⟩
theorem de_bl {x j} : DE X (.Constant (.bool x) j pos) (tC (.bl x)) (dC (.bool x)) := ⟨pe_bl, sn_c fun _ => .bl x⟩
theorem de_non {j} : DE X (.Constant .none j pos) (tC .non) (dC .none) := ⟨pe_non, sn_c fun _ => .non⟩
theorem de_glob {x : Str} {v : V} {u : Value} {d : PyData} (hg : Gl X x) (hm : X.mg x = some u) (r : RelV v u) (hd : ∀ F, Dt X.K F v d) (hdb : (x == ("__debug__" : Str)) = false := by decide) : DE X (.Name x pos) (tC v) (dC d) := ⟨pe_glob hg hm r hdb, sn_c hd⟩
/-! ### operators -/
abbrev RD := PyData → PyData → (PyData → Prop) → Prop
def SnR (K : PySem.W.Frag) (r : R2) (rd : RD) : Prop := ∀ (Y : Fx) (F H : Hp) (σ : L2.St) (s : DS) (x y : V) (d e : PyData) (k : PyData → Prop) (Q : VK), EnvOk K Y F H σ s → Dt K F x d → Dt K F y e → rd d e k →
  (∀ v z F' H', Same F F' → EnvOk K Y F' H' σ s → Dt K F' v z → k z → Q v H') → r x y H Q
structure DR (X : Cx) (f : Value → Value → Sem Value) (r : R2) (rd : RD) : Prop where
  op : OpR X f r
  sn : SnR X.K r rd
def dOp (rd : RD) (a b : TD) : TD := fun s Q => a s fun x s1 => b s1 fun y s2 => rd x y fun z => Q z s2
theorem sn_op {K : PySem.W.Frag} {r : R2} {rd : RD} (h : SnR K r rd) (ha : SnE K ta da) (hb : SnE K tb db) : SnE K (tOp r ta tb) (dOp rd da db) := fun Y F H σ s Qd Q E q k =>
  ha Y F H σ s _ _ E q fun v d F1 H1 s1 g1 E1 v1 q1 => hb Y F1 H1 σ s1 _ _ E1 q1 fun u e F2 H2 s2 g2 E2 v2 q2 =>
    h Y F2 H2 σ s2 v u d e _ Q E2 (v1.mono g2) v2 q2 fun w z F3 H3 g3 E3 v3 q3 => k w z F3 H3 s2 ((g1.trans g2).trans g3) E3 v3 q3
theorem de_op {op : Operator} {r : R2} {rd : RD} (h : DR X (binaryOp op) r rd) (ha : DE X a ta da) (hb : DE X b tb db) : DE X (.BinOp a op b pos) (tOp r ta tb) (dOp rd da db) := ⟨pe_op h.op ha.pe hb.pe, sn_op h.sn ha.sn hb.sn⟩
theorem de_cmp {op : CmpOp} {r : R2} {rd : RD} (h : DR X (compareOp op) r rd) (ha : DE X a ta da) (hb : DE X b tb db) (hm : behindInMarks op b = false) : DE X (.Compare a [op] [b] pos) (tOp r ta tb) (dOp rd da db) := ⟨pe_cmpR h.op ha.pe hb.pe hm, sn_op h.sn ha.sn hb.sn⟩
/-- a value that is True or False, as a test -/
def dTest (t : TD) : TDT := fun s Q => t s fun x s1 => ∃ b, x = .bool b ∧ Q b s1
theorem sn_test {K : PySem.W.Frag} (h : SnE K te de) : SnT K (tTest te) (dTest de) := fun Y F H σ s Qd Q E q k =>
  h Y F H σ s _ _ E q fun v d F1 H1 s1 g1 E1 v1 q1 => by
    obtain ⟨b, rfl, q1⟩ := q1
    cases v1
    exact ⟨b, rfl, k b F1 H1 s1 g1 E1 q1⟩
theorem dt_cmp {op : CmpOp} {r : R2} {rd : RD} (h : DR X (compareOp op) r rd) (ha : DE X a ta da) (hb : DE X b tb db) (hm : behindInMarks op b = false) : DT X (.Compare a [op] [b] pos) (tTest (tOp r ta tb)) (dTest (dOp rd da db)) := ⟨pt_cmpR h.op ha.pe hb.pe hm, sn_test (sn_op h.sn ha.sn hb.sn)⟩
theorem sn_B {K : PySem.W.Frag} (h : SnE K te de) : SnT K (tB te) (dTest de) := fun Y F H σ s Qd Q E q k =>
  h Y F H σ s _ _ E q fun v d F1 H1 s1 g1 E1 v1 q1 => by
    obtain ⟨b, rfl, q1⟩ := q1
    cases v1
    exact ⟨b, rfl, k b F1 H1 s1 g1 E1 q1⟩
theorem dt_val (h : DE X e te de) (he : ∀ whole, isTrue e X.env whole = (do let v ← whole; standAt e.pos; holding [v] (truthy v)) := by intro _; rfl) : DT X e (tB te) (dTest de) := ⟨pt_val h.pe he, sn_B h.sn⟩
/-! ### and, or, not, if -/
variable {tA tB' : TT} {dA dB : TDT} {rest : List Expr}
def dAnd (t u : TDT) : TDT := fun s Q => t s fun c s1 => if c = true then u s1 Q else Q false s1
def dOr (t u : TDT) : TDT := fun s Q => t s fun c s1 => if c = true then Q true s1 else u s1 Q
def dNot (t : TDT) : TDT := fun s Q => t s fun c s1 => Q (!c) s1
theorem DW.dt (h : DW X e tA dA) : DT X e tA dA := ⟨h.pw.pt, h.sn⟩
theorem dw_and1 (h : DT X a tA dA) : DW X (.BoolOp .And [a] pos) tA dA := ⟨pw_and1 h.pt, h.sn⟩
theorem dw_or1 (h : DT X a tA dA) : DW X (.BoolOp .Or [a] pos) tA dA := ⟨pw_or1 h.pt, h.sn⟩
theorem dw_and (ha : DT X a tA dA) (hb : DW X (.BoolOp .And (b :: rest) pos) tB' dB) : DW X (.BoolOp .And (a :: b :: rest) pos) (tAnd tA tB') (dAnd dA dB) := by
  refine ⟨pw_and ha.pt hb.pw, fun Y F H σ s Qd Q E q k => ?_⟩
  refine ha.sn Y F H σ s _ _ E q fun c F1 H1 s1 g1 E1 q1 => ?_
  cases c with
  | true =>
    rw [if_pos rfl] at q1 ⊢
    exact hb.sn Y F1 H1 σ s1 _ _ E1 q1 fun b F2 H2 s2 g2 E2 q2 => k b F2 H2 s2 (g1.trans g2) E2 q2
  | false =>
    rw [if_neg Bool.false_ne_true] at q1 ⊢
    exact k false F1 H1 s1 g1 E1 q1
theorem dw_or (ha : DT X a tA dA) (hb : DW X (.BoolOp .Or (b :: rest) pos) tB' dB) : DW X (.BoolOp .Or (a :: b :: rest) pos) (tOr tA tB') (dOr dA dB) := by
  refine ⟨pw_or ha.pt hb.pw, fun Y F H σ s Qd Q E q k => ?_⟩
  refine ha.sn Y F H σ s _ _ E q fun c F1 H1 s1 g1 E1 q1 => ?_
  cases c with
  | true =>
    rw [if_pos rfl] at q1 ⊢
    exact k true F1 H1 s1 g1 E1 q1
  | false =>
    rw [if_neg Bool.false_ne_true] at q1 ⊢
    exact hb.sn Y F1 H1 σ s1 _ _ E1 q1 fun b F2 H2 s2 g2 E2 q2 => k b F2 H2 s2 (g1.trans g2) E2 q2
theorem dt_not (ha : DT X a tA dA) : DT X (.UnaryOp .Not a pos) (tNot tA) (dNot dA) := ⟨pt_not ha.pt, fun Y F H σ s Qd Q E q k => ha.sn Y F H σ s _ _ E q fun c F1 H1 s1 g1 E1 q1 => k (!c) F1 H1 s1 g1 E1 q1⟩
def dAndV (a b : TD) : TD := fun s Q => a s fun x s1 => ∃ c, x = .bool c ∧ if c = true then b s1 Q else Q (.bool false) s1
def dOrV (a b : TD) : TD := fun s Q => a s fun x s1 => ∃ c, x = .bool c ∧ if c = true then Q (.bool true) s1 else b s1 Q
def dNotV (a : TD) : TD := fun s Q => a s fun x s1 => ∃ c, x = .bool c ∧ Q (.bool (!c)) s1
theorem de_one {op} (h : DE X a ta da) : DE X (.BoolOp op [a] pos) ta da := ⟨pe_one h.pe, h.sn⟩
theorem de_and (ha : DE X a ta da) (hb : DE X (.BoolOp .And (b :: rest) pos) tb db) : DE X (.BoolOp .And (a :: b :: rest) pos) (tAndV ta tb) (dAndV da db) := by
  refine ⟨pe_and ha.pe hb.pe, fun Y F H σ s Qd Q E q k => ?_⟩
  refine ha.sn Y F H σ s _ _ E q fun v d F1 H1 s1 g1 E1 v1 q1 => ?_
  obtain ⟨c, rfl, q1⟩ := q1
  cases v1
  refine ⟨c, rfl, ?_⟩
  cases c with
  | true =>
    rw [if_pos rfl] at q1 ⊢
    exact hb.sn Y F1 H1 σ s1 _ _ E1 q1 fun v d F2 H2 s2 g2 E2 v2 q2 => k v d F2 H2 s2 (g1.trans g2) E2 v2 q2
  | false =>
    rw [if_neg Bool.false_ne_true] at q1 ⊢
    exact k _ _ F1 H1 s1 g1 E1 (.bl false) q1
theorem de_or (ha : DE X a ta da) (hb : DE X (.BoolOp .Or (b :: rest) pos) tb db) : DE X (.BoolOp .Or (a :: b :: rest) pos) (tOrV ta tb) (dOrV da db) := by
  refine ⟨pe_or ha.pe hb.pe, fun Y F H σ s Qd Q E q k => ?_⟩
  refine ha.sn Y F H σ s _ _ E q fun v d F1 H1 s1 g1 E1 v1 q1 => ?_
  obtain ⟨c, rfl, q1⟩ := q1
  cases v1
  refine ⟨c, rfl, ?_⟩
  cases c with
  | true =>
    rw [if_pos rfl] at q1 ⊢
    exact k _ _ F1 H1 s1 g1 E1 (.bl true) q1
  | false =>
    rw [if_neg Bool.false_ne_true] at q1 ⊢
    exact hb.sn Y F1 H1 σ s1 _ _ E1 q1 fun v d F2 H2 s2 g2 E2 v2 q2 => k v d F2 H2 s2 (g1.trans g2) E2 v2 q2
theorem de_not (ha : DE X a ta da) : DE X (.UnaryOp .Not a pos) (tNotV ta) (dNotV da) := by
  refine ⟨pe_not ha.pe, fun Y F H σ s Qd Q E q k => ?_⟩
  refine ha.sn Y F H σ s _ _ E q fun v d F1 H1 s1 g1 E1 v1 q1 => ?_
  obtain ⟨c, rfl, q1⟩ := q1
  cases v1
  exact ⟨c, rfl, k _ _ F1 H1 s1 g1 E1 (.bl _) q1⟩
def dIf (t : TDT) (a b : TD) : TD := fun s Q => t s fun c s1 => if c = true then a s1 Q else b s1 Q
theorem de_if {c : Expr} (hc : DT X c tA dA) (ha : DE X a ta da) (hb : DE X b tb db) : DE X (.IfExp c a b pos) (tIf tA ta tb) (dIf dA da db) := by
  refine ⟨pe_ifExp hc.pt ha.pe hb.pe, fun Y F H σ s Qd Q E q k => ?_⟩
  refine hc.sn Y F H σ s _ _ E q fun c F1 H1 s1 g1 E1 q1 => ?_
  cases c with
  | true =>
    rw [if_pos rfl] at q1 ⊢
    exact ha.sn Y F1 H1 σ s1 _ _ E1 q1 fun v d F2 H2 s2 g2 E2 v2 q2 => k v d F2 H2 s2 (g1.trans g2) E2 v2 q2
  | false =>
    rw [if_neg Bool.false_ne_true] at q1 ⊢
    exact hb.sn Y F1 H1 σ s1 _ _ E1 q1 fun v d F2 H2 s2 g2 E2 v2 q2 => k v d F2 H2 s2 (g1.trans g2) E2 v2 q2
/-! ### arguments, displays -/
variable {tr : TA} {dr : TDA}
def dNil : TDA := fun s Q => Q [] s
def dCons (a : TD) (r : TDA) : TDA := fun s Q => a s fun x s1 => r s1 fun xs s2 => Q (x :: xs) s2
theorem da_nil : DA X [] tNil dNil := ⟨pa_nil, fun Y F H σ s Qd Q E q k => k [] [] F H s (Same.refl F) E .nil q⟩
theorem da_cons (ha : DE X e te de) (hr : DA X es tr dr) (hs : starEach (e :: es) X.env = (false, eval e X.env) :: starEach es X.env := by rfl) : DA X (e :: es) (tCons te tr) (dCons de dr) :=
  ⟨pa_cons ha.pe hr.pa hs, fun Y F H σ s Qd Q E q k => ha.sn Y F H σ s _ _ E q fun v d F1 H1 s1 g1 E1 v1 q1 => hr.sn Y F1 H1 σ s1 _ _ E1 q1 fun vs ds F2 H2 s2 g2 E2 v2 q2 => k _ _ F2 H2 s2 (g1.trans g2) E2 (.cons (v1.mono g2) v2) q2⟩
def dTup (t : TDA) : TD := fun s Q => t s fun xs s1 => xs.length ≤ sizeLine ∧ Q (.tuple xs) s1
theorem dt_at {K : PySem.W.Frag} {F : Hp} {p : Addr} {vs : List V} {ds : List PyData} (h : DtAll K F vs ds) (fp : F p = none) : Dt K (upd F p (.tup vs)) (.ref p) (.tuple ds) := .tup (SqT.of upd_same) (h.mono (same_upd fp))
theorem dl_at {K : PySem.W.Frag} {F : Hp} {p : Addr} {vs : List V} {ds : List PyData} (h : DtAll K F vs ds) (fp : F p = none) : Dt K (upd F p (.lst vs)) (.ref p) (.list ds) := .lst upd_same (h.mono (same_upd fp))
theorem de_tup {x1} (h : DA X es tr dr) : DE X (.Tuple es x1 pos) (tTup tr) (dTup dr) := by
  refine ⟨pe_tup h.pa, fun Y F H σ s Qd Q E q k => ?_⟩
  refine h.sn Y F H σ s _ _ E q fun vs ds F1 H1 s1 g1 E1 v1 q1 => ?_
  refine ⟨by rw [v1.len]; exact q1.1, fun p hp => ?_⟩
  exact k _ _ _ _ s1 (g1.trans (same_upd (same_none E1.fh hp))) (E1.alloc _ hp) (dt_at v1 (same_none E1.fh hp)) q1.2
def dLst (t : TDA) : TD := fun s Q => t s fun xs s1 => xs.length ≤ sizeLine ∧ Q (.list xs) s1
theorem de_lst (h : DA X es tr dr) : DE X (.List es pos) (tLst tr) (dLst dr) := by
  refine ⟨pe_lst h.pa, fun Y F H σ s Qd Q E q k => ?_⟩
  refine h.sn Y F H σ s _ _ E q fun vs ds F1 H1 s1 g1 E1 v1 q1 => ?_
  refine ⟨by rw [v1.len]; exact q1.1, fun p hp => ?_⟩
  exact k _ _ _ _ s1 (g1.trans (same_upd (same_none E1.fh hp))) (E1.alloc _ hp) (dl_at v1 (same_none E1.fh hp)) q1.2
end
end DL

set_option Elab.async false
set_option linter.all false
set_option maxRecDepth 100000
set_option maxHeartbeats 4000000
namespace DL
open PySem PySem.Spec PyProof.Rows L2
section
variable {X : Cx}
/-! ### + - * // % ** -/
def addR : RD := fun d e k => match d, e with
  | .int i, .int j => k (.int (i + j))
  | .str a, .str b => a.length + b.length ≤ sizeLine ∧ k (.str (a ++ b))
  | .tuple xs, .tuple ys => xs.length + ys.length ≤ sizeLine ∧ k (.tuple (xs ++ ys))
  | .list xs, .list ys => xs.length + ys.length ≤ sizeLine ∧ k (.list (xs ++ ys))
  | _, _ => False
abbrev rAddS : R2 := fun x y H Q => ∃ i j, x = .str i ∧ y = .str j ∧ i.length + j.length ≤ sizeLine ∧ Q (.str (i ++ j)) H
abbrev rAddI : R2 := rI0 fun i j => .int (i + j)
def rAddA (K : PySem.W.Frag) : R2 := fun x y H Q => rAddI x y H Q ∨ (rAddS x y H Q ∨ (rCatA K x y H Q ∨ rCat x y H Q))
theorem ob_add : DR X (binaryOp .Add) (rAddA X.K) addR := by
  refine ⟨OpR.or op_add (OpR.or op_add_str (OpR.or op_catA op_cat)), fun Y F H σ s x y d e k Q E hx hy h q => ?_⟩
  cases hx with
  | int i =>
    cases hy with
    | int j => exact .inl ⟨i, j, rfl, rfl, q _ _ F H (Same.refl F) E (.int _) h⟩
    | _ => exact h.elim
  | str i =>
    cases hy with
    | str j => exact .inr (.inl ⟨i, j, rfl, rfl, h.1, q _ _ F H (Same.refl F) E (.str _) h.2⟩)
    | _ => exact h.elim
  | @lst a xs ds ha hs =>
    cases hy with
    | @lst b ys es hb ht =>
      refine .inr (.inr (.inr ⟨a, b, xs, ys, rfl, rfl, E.fh _ _ ha, E.fh _ _ hb, ?_, fun p hp => ?_⟩))
      · rw [hs.len, ht.len]; exact h.1
      · exact q _ _ _ _ (same_upd (same_none E.fh hp)) (E.alloc _ hp) (dl_at (hs.app ht) (same_none E.fh hp)) h.2
    | _ => exact h.elim
  | @tup a xs ds ha hs =>
    cases hy with
    | @tup b ys es hb ht =>
      refine .inr (.inr (.inl ⟨a, b, xs, ys, rfl, rfl, sqT_mono E.fh ha, sqT_mono E.fh hb, ?_, fun ex => ?_, fun nx ey => ?_, fun nx ny p hp => ?_⟩))
      · rw [hs.len, ht.len]; exact h.1
      · subst ex
        cases hs
        exact q _ _ F H (Same.refl F) E (.tup hb ht) h.2
      · subst ey
        cases ht
        refine q _ _ F H (Same.refl F) E (.tup ha hs) ?_
        have h2 := h.2
        rw [List.append_nil] at h2
        exact h2
      · exact q _ _ _ _ (same_upd (same_none E.fh hp)) (E.alloc _ hp) (dt_at (hs.app ht) (same_none E.fh hp)) h.2
    | _ => exact h.elim
  | _ => exact h.elim
/-- ints alone -/
def intR (C : Int → Int → Prop) (g : Int → Int → Int) : RD := fun d e k => match d, e with
  | .int i, .int j => C i j ∧ k (.int (g i j))
  | _, _ => False
theorem ob_int {f : Value → Value → Sem Value} {C : Int → Int → Prop} {g : Int → Int → Int} (h : OpR X f (rI C fun i j => .int (g i j))) : DR X f (rI C fun i j => .int (g i j)) (intR C g) := by
  refine ⟨h, fun Y F H σ s x y d e k Q E hx hy h q => ?_⟩
  cases hx with
  | int i =>
    cases hy with
    | int j => exact ⟨i, j, rfl, rfl, h.1, q _ _ F H (Same.refl F) E (.int _) h.2⟩
    | _ => exact h.elim
  | _ => exact h.elim
def subR : RD := fun d e k => match d, e with
  | .int i, .int j => k (.int (i - j))
  | _, _ => False
theorem ob_sub : DR X (binaryOp .Sub) (rI0 fun i j => .int (i - j)) subR := by
  refine ⟨op_sub, fun Y F H σ s x y d e k Q E hx hy h q => ?_⟩
  cases hx with
  | int i =>
    cases hy with
    | int j => exact ⟨i, j, rfl, rfl, q _ _ F H (Same.refl F) E (.int _) h⟩
    | _ => exact h.elim
  | _ => exact h.elim
abbrev fdivR : RD := intR CDivN fun i j => i.fdiv j
abbrev modR : RD := intR (fun _ j => j ≠ 0) fun i j => i.fmod j
abbrev powR : RD := intR CPow fun i j => i ^ j.toNat
theorem ob_fdiv : DR X (binaryOp .FloorDiv) (rI CDivN fun i j => .int (i.fdiv j)) fdivR := ob_int op_fdivN
theorem ob_mod : DR X (binaryOp .Mod) (rI (fun _ j => j ≠ 0) fun i j => .int (i.fmod j)) modR := ob_int op_modN
theorem ob_pow : DR X (binaryOp .Pow) (rI CPow fun i j => .int (i ^ j.toNat)) powR := ob_int op_pow
/-! ### == != is -/
theorem dp_of {K : PySem.W.Frag} {F H : Hp} {v : V} {d : PyData} (e : Same F H) (h : Dt K F v d) : Dp K H v d := Dt.dp e d v h
def eqR : RD := fun d e k => SeqAt.shaped d = true ∧ SeqAt.shaped e = true ∧ k (.bool (PyData.eqv d e))
def neR : RD := fun d e k => SeqAt.shaped d = true ∧ SeqAt.shaped e = true ∧ k (.bool (!PyData.eqv d e))
theorem ob_eq (hu : X.A.units + 64 < cLine) : DR X (compareOp .Eq) (rEqD X.K) eqR :=
  ⟨op_eqD hu, fun Y F H σ s x y d e k Q E hx hy h q => ⟨d, e, dp_of E.fh hx, dp_of E.fh hy, h.1, h.2.1, q _ _ F H (Same.refl F) E (.bl _) h.2.2⟩⟩
theorem ob_ne (hu : X.A.units + 64 < cLine) : DR X (compareOp .NotEq) (rNeD X.K) neR :=
  ⟨op_neD hu, fun Y F H σ s x y d e k Q E hx hy h q => ⟨d, e, dp_of E.fh hx, dp_of E.fh hy, h.1, h.2.1, q _ _ F H (Same.refl F) E (.bl _) h.2.2⟩⟩
def isNone : PyData → Bool
  | .none => true
  | _ => false
theorem dt_none {K : PySem.W.Frag} {F : Hp} {v : V} {d : PyData} (h : Dt K F v d) : decide (v = .non) = isNone d := by
  cases h <;> first | rfl | exact decide_eq_false (fun q => nomatch q)
def isR : RD := fun d e k => e = .none ∧ k (.bool (isNone d))
def isntR : RD := fun d e k => e = .none ∧ k (.bool (!isNone d))
theorem ob_is : DR X (compareOp .Is) (fun x y H Q => y = .non ∧ Q (.bl (decide (x = .non))) H) isR :=
  ⟨op_isN, fun Y F H σ s x y d e k Q E hx hy h q => by
    obtain ⟨rfl, h⟩ := h
    cases hy
    refine ⟨rfl, ?_⟩
    rw [dt_none hx]
    exact q _ _ F H (Same.refl F) E (.bl _) h⟩
theorem ob_isnt : DR X (compareOp .IsNot) (fun x y H Q => y = .non ∧ Q (.bl (!decide (x = .non))) H) isntR :=
  ⟨op_notN, fun Y F H σ s x y d e k Q E hx hy h q => by
    obtain ⟨rfl, h⟩ := h
    cases hy
    refine ⟨rfl, ?_⟩
    rw [dt_none hx]
    exact q _ _ F H (Same.refl F) E (.bl _) h⟩
/-! ### in, not in -/
def flatD : PyData → Bool
  | .none => true
  | .bool _ => true
  | .int _ => true
  | .str _ => true
  | _ => false
theorem flat_of {K : PySem.W.Frag} {F : Hp} {v : V} {d : PyData} (h : Dt K F v d) (f : flatD d = true) : flatV v = true := by
  cases h <;> first | rfl | exact absurd f Bool.false_ne_true
theorem flats_of {K : PySem.W.Frag} {F : Hp} : ∀ {ds : List PyData} {vs : List V}, DtAll K F vs ds → ds.all flatD = true → vs.all flatV = true
  | [], _, h, _ => by cases h; rfl
  | d :: ds, _, h, f => by
    cases h with
    | cons h1 h2 =>
      rw [List.all_cons, Bool.and_eq_true] at f
      rw [List.all_cons, Bool.and_eq_true]
      exact ⟨flat_of h1 f.1, flats_of h2 f.2⟩
theorem eqV_of {K : PySem.W.Frag} {F : Hp} {v u : V} {d e : PyData} (h : Dt K F v d) (h' : Dt K F u e) (f : flatD d = true) (f' : flatD e = true) : eqV v u = PyData.eqv d e := by
  cases h with
  | lst => exact absurd f Bool.false_ne_true
  | tup => exact absurd f Bool.false_ne_true
  | _ =>
    cases h' with
    | lst => exact absurd f' Bool.false_ne_true
    | tup => exact absurd f' Bool.false_ne_true
    | _ => simp [eqV, PyData.eqv]
theorem any_of {K : PySem.W.Frag} {F : Hp} {v : V} {d : PyData} (h : Dt K F v d) (f : flatD d = true) : ∀ {ds : List PyData} {vs : List V}, DtAll K F vs ds → ds.all flatD = true → inV v vs = ds.any fun z => PyData.eqv z d
  | [], _, hs, _ => by cases hs; rfl
  | x :: ds, _, hs, fs => by
    cases hs with
    | cons h1 h2 =>
      rw [List.all_cons, Bool.and_eq_true] at fs
      have := any_of h f h2 fs.2
      unfold inV at this ⊢
      rw [List.any_cons, List.any_cons, eqV_of h1 h fs.1 f, this]
/-- y stands in z -/
def strIn (y z : Str) : Bool := !(Builtin.Str.occurrences z y 0 z.length 1).isEmpty
def inR : RD := fun d e k => match e with
  | .str z => (match d with
    | .str y => k (.bool (strIn y z))
    | _ => False)
  | .tuple ds => flatD d = true ∧ ds.all flatD = true ∧ k (.bool (ds.any fun z => PyData.eqv z d))
  | .list ds => SeqAt.shaped d = true ∧ SeqAt.shaped (.list ds) = true ∧ k (.bool (ds.any fun z => PyData.eqv z d))
  | _ => False
def notinR : RD := fun d e k => inR d e fun z => ∃ b, z = .bool b ∧ k (.bool (!b))
abbrev rInS : R2 := fun x y H Q => ∃ i j, x = .str i ∧ y = .str j ∧ Q (.bl (!(Builtin.Str.occurrences j i 0 j.length 1).isEmpty)) H
abbrev rNotInS : R2 := fun x y H Q => ∃ i j, x = .str i ∧ y = .str j ∧ Q (.bl (!(!(Builtin.Str.occurrences j i 0 j.length 1).isEmpty))) H
def rInA (K : PySem.W.Frag) : R2 := fun x y H Q => rInS x y H Q ∨ (rIn K false x y H Q ∨ rInD K x y H Q)
def rNotInA (K : PySem.W.Frag) : R2 := fun x y H Q => rNotInS x y H Q ∨ (rIn K true x y H Q ∨ rNotInD K x y H Q)
theorem ob_in (hu : X.A.units + 65 < cLine) : DR X (compareOp .In) (rInA X.K) inR := by
  refine ⟨OpR.or op_in_str (OpR.or op_in_seq (op_inD hu)), fun Y F H σ s x y d e k Q E hx hy h q => ?_⟩
  cases hy with
  | str z =>
    cases hx with
    | str w => exact .inl ⟨w, z, rfl, rfl, q _ _ F H (Same.refl F) E (.bl _) h⟩
    | _ => exact h.elim
  | @tup a xs ds ha hs =>
    refine .inr (.inl ⟨a, xs, rfl, .inr (sqT_mono E.fh ha), flat_of hx h.1, flats_of hs h.2.1, ?_⟩)
    rw [if_neg Bool.false_ne_true, any_of hx h.1 hs h.2.1]
    exact q _ _ F H (Same.refl F) E (.bl _) h.2.2
  | @lst a xs ds ha hs => exact .inr (.inr ⟨d, ds, dp_of E.fh hx, dp_of E.fh (.lst ha hs), h.1, h.2.1, q _ _ F H (Same.refl F) E (.bl _) h.2.2⟩)
  | _ => exact h.elim
theorem ob_notin (hu : X.A.units + 65 < cLine) : DR X (compareOp .NotIn) (rNotInA X.K) notinR := by
  refine ⟨OpR.or op_notIn_str (OpR.or op_notIn_seq (op_notInD hu)), fun Y F H σ s x y d e k Q E hx hy h q => ?_⟩
  unfold notinR at h
  cases hy with
  | str z =>
    cases hx with
    | str w =>
      obtain ⟨b, e, h⟩ := h
      have e2 : strIn w z = b := PyData.bool.inj e
      subst e2
      exact .inl ⟨w, z, rfl, rfl, q _ _ F H (Same.refl F) E (.bl _) h⟩
    | _ => exact h.elim
  | @tup a xs ds ha hs =>
    obtain ⟨h1, h2, b, e, h⟩ := h
    have e2 := PyData.bool.inj e
    subst e2
    refine .inr (.inl ⟨a, xs, rfl, .inr (sqT_mono E.fh ha), flat_of hx h1, flats_of hs h2, ?_⟩)
    rw [if_pos rfl, any_of hx h1 hs h2]
    exact q _ _ F H (Same.refl F) E (.bl _) h
  | @lst a xs ds ha hs =>
    obtain ⟨h1, h2, b, e, h⟩ := h
    have e2 := PyData.bool.inj e
    subst e2
    exact .inr (.inr ⟨d, ds, dp_of E.fh hx, dp_of E.fh (.lst ha hs), h1, h2, q _ _ F H (Same.refl F) E (.bl _) h⟩)
  | _ => exact h.elim
/-! ### subscripts -/
theorem DtAll.at {K : PySem.W.Frag} {F : Hp} {ds : List PyData} {vs : List V} {i : Int} {d : PyData} (h : DtAll K F vs ds) (e : atI ds i = some d) : ∃ v, atI vs i = some v ∧ Dt K F v d := by
  unfold atI at e ⊢
  rw [h.len]
  cases q : ixN ds.length i with
  | none => rw [q] at e; cases e
  | some j =>
    rw [q] at e
    exact h.get e
def ixR : RD := fun d e k => match d, e with
  | .tuple xs, .int i => ∃ z, atI xs i = some z ∧ k z
  | .list xs, .int i => ∃ z, atI xs i = some z ∧ k z
  | .str a, .int i => ∃ c, a.length ≤ sizeLine ∧ atI a.cps.toList i = some c ∧ k (.str ⟨#[c]⟩)
  | _, _ => False
def rIxA (K : PySem.W.Frag) : R2 := fun x y H Q => rIxT K x y H Q ∨ (rIxL K x y H Q ∨ rIxS x y H Q)
variable {a b e : Expr} {es : List Expr} {ta tb te : TE} {da db de : TD} {pos : Pos}
theorem sn_ix {K : PySem.W.Frag} : SnR K (rIxA K) ixR := fun Y F H σ s x y d e k Q E hx hy h q => by
  cases hx with
  | str z =>
    cases hy with
    | int i =>
      obtain ⟨c, h1, h2, h⟩ := h
      exact .inr (.inr ⟨z, i, c, rfl, rfl, h1, h2, q _ _ F H (Same.refl F) E (.str _) h⟩)
    | _ => exact h.elim
  | @lst p xs ds ha hs =>
    cases hy with
    | int i =>
      obtain ⟨z, h1, h⟩ := h
      obtain ⟨v, h2, h3⟩ := hs.at h1
      exact .inr (.inl ⟨p, xs, i, v, rfl, rfl, SqL.of (E.fh _ _ ha), h2, q _ _ F H (Same.refl F) E h3 h⟩)
    | _ => exact h.elim
  | @tup p xs ds ha hs =>
    cases hy with
    | int i =>
      obtain ⟨z, h1, h⟩ := h
      obtain ⟨v, h2, h3⟩ := hs.at h1
      exact .inl ⟨p, xs, i, v, rfl, rfl, sqT_mono E.fh ha, h2, q _ _ F H (Same.refl F) E h3 h⟩
    | _ => exact h.elim
  | _ => exact h.elim
theorem de_ix (ha : DE X a ta da) (hb : DE X b tb db) (hs : PlainIx b) : DE X (.Subscript a b pos) (tOp (rIxA X.K) ta tb) (dOp ixR da db) :=
  ⟨pe_ix (IxR.or ix_tup (IxR.or ix_list ix_str)) ha.pe hb.pe hs, sn_op sn_ix ha.sn hb.sn⟩
/-! ### slices -/
def cutD {α : Type} (xs : List α) (lo hi : Option Int) : List α := (xs.drop (HT.sIx xs.length 0 lo)).take (HT.sIx xs.length xs.length hi - HT.sIx xs.length 0 lo)
theorem DtAll.cut {K : PySem.W.Frag} {F : Hp} {ds : List PyData} {vs : List V} (lo hi : Option Int) (h : DtAll K F vs ds) : DtAll K F (cutV vs lo hi) (cutD ds lo hi) := by
  unfold cutV cutD
  rw [h.len]
  exact (h.drop _).take _
abbrev TDO := DS → (Option Int → DS → Prop) → Prop
structure DO (X : Cx) (o : Option Expr) (t : TO) (td : TDO) : Prop where
  po : PO X o t
  sn : ∀ (Y : Fx) (F H : Hp) (σ : L2.St) (s : DS) (Qd : Option Int → DS → Prop) (Q : Option Int → Hp → Prop), EnvOk X.K Y F H σ s → td s Qd → (∀ i F' H' s', Same F F' → EnvOk X.K Y F' H' σ s' → Qd i s' → Q i H') → t σ H Q
def dNoPart : TDO := fun s Q => Q none s
def dPart (t : TD) : TDO := fun s Q => t s fun x s1 => ∃ i, x = .int i ∧ Q (some i) s1
theorem do_none : DO X none tNoPart dNoPart := ⟨po_none, fun Y F H σ s Qd Q E q k => k none F H s (Same.refl F) E q⟩
theorem do_some (h : DE X e te de) : DO X (some e) (tPart te) (dPart de) := ⟨po_some h.pe, fun Y F H σ s Qd Q E q k => h.sn Y F H σ s _ _ E q fun v d F1 H1 s1 g1 E1 v1 q1 => by
  obtain ⟨i, rfl, q1⟩ := q1
  cases v1
  exact ⟨i, rfl, k (some i) F1 H1 s1 g1 E1 q1⟩⟩
def slR : PyData → Option Int → Option Int → (PyData → Prop) → Prop := fun d lo hi k => match d with
  | .tuple xs => k (.tuple (cutD xs lo hi))
  | .list xs => k (.list (cutD xs lo hi))
  | .str z => z.length ≤ sizeLine ∧ k (.str (cutS z lo hi))
  | _ => False
def rSlAny (K : PySem.W.Frag) : V → Option Int → Option Int → Hp → VK → Prop := fun x lo hi H Q => rSlA K x lo hi H Q ∨ (rSlL K x lo hi H Q ∨ rSlS x lo hi H Q)
def dSl (t : TD) (l h : TDO) : TD := fun s Q => t s fun x s1 => l s1 fun lo s2 => h s2 fun hi s3 => slR x lo hi fun z => Q z s3
variable {lo hi : Option Expr} {tl th : TO} {dl dh : TDO} {p2 : Pos}
theorem cut_whole {α : Type} {xs : List α} {lo hi : Option Int} (h : HT.sIx xs.length 0 lo = 0 ∧ HT.sIx xs.length xs.length hi = xs.length) : cutD xs lo hi = xs := by
  unfold cutD
  rw [h.1, h.2, Nat.sub_zero, List.drop_zero, List.take_length]
theorem de_sl (he : DE X e te de) (hl : DO X lo tl dl) (hh : DO X hi th dh) : DE X (.Subscript e (.Slice lo hi none p2) pos) (tSl (rSlAny X.K) te tl th) (dSl de dl dh) := by
  refine ⟨pe_slice (SlR.or sl_tupA (SlR.or sl_list sl_str)) he.pe hl.po hh.po, fun Y F H σ s Qd Q E q k => ?_⟩
  refine he.sn Y F H σ s _ _ E q fun v d F1 H1 s1 g1 E1 v1 q1 => hl.sn Y F1 H1 σ s1 _ _ E1 q1 fun i F2 H2 s2 g2 E2 q2 => hh.sn Y F2 H2 σ s2 _ _ E2 q2 fun j F3 H3 s3 g3 E3 q3 => ?_
  have v3 := (v1.mono g2).mono g3
  have g := (g1.trans g2).trans g3
  cases v3 with
  | str z => exact .inr (.inr ⟨z, rfl, q3.1, k _ _ F3 H3 s3 g E3 (.str _) q3.2⟩)
  | @lst p xs ds ha hs =>
    refine .inr (.inl ⟨p, xs, rfl, SqL.of (E3.fh _ _ ha), fun p hp => ?_⟩)
    exact k _ _ _ _ s3 (g.trans (same_upd (same_none E3.fh hp))) (E3.alloc _ hp) (dl_at (hs.cut i j) (same_none E3.fh hp)) q3
  | @tup p xs ds ha hs =>
    refine .inl ⟨p, xs, rfl, sqT_mono E3.fh ha, fun hw => ?_, fun _ p hp => ?_⟩
    · have q3' : Qd (.tuple (cutD ds i j)) s3 := q3
      rw [hs.len] at hw
      rw [cut_whole hw] at q3'
      exact k _ _ F3 H3 s3 g E3 (.tup ha hs) q3'
    · exact k _ _ _ _ s3 (g.trans (same_upd (same_none E3.fh hp))) (E3.alloc _ hp) (dt_at (hs.cut i j) (same_none E3.fh hp)) q3
  | _ => exact q3.elim
/-! ### calls of built-ins -/
abbrev RC := List PyData → (PyData → Prop) → Prop
def SnC (K : PySem.W.Frag) (r : List V → Hp → VK → Prop) (rd : RC) : Prop := ∀ (Y : Fx) (F H : Hp) (σ : L2.St) (s : DS) (xs : List V) (ds : List PyData) (k : PyData → Prop) (Q : VK), EnvOk K Y F H σ s → DtAll K F xs ds → rd ds k →
  (∀ v z F' H', Same F F' → EnvOk K Y F' H' σ s → Dt K F' v z → k z → Q v H') → r xs H Q
structure DB (X : Cx) (f : Value) (r : List V → Hp → VK → Prop) (rd : RC) : Prop where
  op : CallR X f r
  sn : SnC X.K r rd
def dCB (rd : RC) (t : TDA) : TD := fun s Q => t s fun xs s1 => rd xs fun z => Q z s1
theorem sn_cb {K : PySem.W.Frag} {r : List V → Hp → VK → Prop} {rd : RC} {ta : TA} {da : TDA} (h : SnC K r rd) (ha : SnA K ta da) : SnE K (tCB r ta) (dCB rd da) := fun Y F H σ s Qd Q E q k =>
  ha Y F H σ s _ _ E q fun vs ds F1 H1 s1 g1 E1 v1 q1 => h Y F1 H1 σ s1 vs ds _ Q E1 v1 q1 fun w z F2 H2 g2 E2 v2 q2 => k w z F2 H2 s1 (g1.trans g2) E2 v2 q2
variable {r : List V → Hp → VK → Prop} {rd : RC} {ts : TA} {ds : TDA} {x : Str} {id T : String} {p : Pos}
theorem de_callB (h : DB X (.builtin id) r rd) (hg : Gl X x) (hm : X.mg x = none) (hv : bootBuiltins x = some (.builtin id)) (ha : DA X (e :: es) ts ds) (hn : x ≠ "__name__" := by decide) (hdb : (x == ("__debug__" : Str)) = false := by decide)
    (hse : starEach (e :: es) X.env = (false, eval e X.env) :: starEach es X.env := by rfl) (hpl : (backTo pos (starEach es X.env)).any (·.1) = false := by rfl) :
    DE X (.Call (.Name x p) (e :: es) [] pos) (tCB r ts) (dCB rd ds) := ⟨pe_callB h.op hg hm hv ha.pa hn hdb hse hpl, sn_cb h.sn ha.sn⟩
theorem de_callTy (h : DB X (.type T) r rd) (hg : Gl X x) (hm : X.mg x = none) (hv : bootBuiltins x = some (.type T)) (ha : DA X (e :: es) ts ds) (hn : x ≠ "__name__" := by decide) (hdb : (x == ("__debug__" : Str)) = false := by decide)
    (hse : starEach (e :: es) X.env = (false, eval e X.env) :: starEach es X.env := by rfl) (hpl : (backTo pos (starEach es X.env)).any (·.1) = false := by rfl) :
    DE X (.Call (.Name x p) (e :: es) [] pos) (tCB r ts) (dCB rd ds) := ⟨pe_callTy h.op hg hm hv ha.pa hn hdb hse hpl, sn_cb h.sn ha.sn⟩
end
end DL

set_option Elab.async false
set_option linter.all false
set_option maxRecDepth 100000
set_option maxHeartbeats 4000000
namespace DL
open PySem PySem.Spec PyProof.Rows L2
section
variable {X : Cx}
/-! ### len int str tuple list any max -/
def lenR : RC := fun ds k => match ds with
  | [.str z] => z.length ≤ sizeLine ∧ k (.int z.length)
  | [.tuple xs] => k (.int xs.length)
  | [.list xs] => k (.int xs.length)
  | _ => False
theorem db_len : DB X (.builtin "len") (fun xs H Q => ∃ x n, xs = [x] ∧ LenV X.K x H n ∧ Q (.int n) H) lenR := by
  refine ⟨call_len, fun Y F H σ s xs ds k Q E hv h q => ?_⟩
  cases hv with
  | nil => exact h.elim
  | cons h1 h2 =>
    cases h2 with
    | cons => cases h1 <;> exact h.elim
    | nil =>
      cases h1 with
      | str z => exact ⟨_, _, rfl, ⟨h.1, rfl⟩, q _ _ F H (Same.refl F) E (.int _) h.2⟩
      | @lst a xs ds ha hs => exact ⟨_, _, rfl, .inl ⟨xs, SqL.of (E.fh _ _ ha), rfl⟩, q _ _ F H (Same.refl F) E (.int _) (by rw [hs.len]; exact h)⟩
      | @tup a xs ds ha hs => exact ⟨_, _, rfl, .inr ⟨xs, sqT_mono E.fh ha, rfl⟩, q _ _ F H (Same.refl F) E (.int _) (by rw [hs.len]; exact h)⟩
      | _ => exact h.elim
def intR1 : RC := fun ds k => match ds with
  | [.int i] => k (.int i)
  | [.bool b] => k (.int (if b then 1 else 0))
  | [.str a] => ∃ n, PySem.intText? a = some n ∧ a.length ≤ 640 ∧ k (.int n)
  | _ => False
abbrev rInt1 : List V → Hp → VK → Prop := fun xs H Q => (∃ i, xs = [.int i] ∧ Q (.int i) H) ∨ ∃ k, xs = [.bl k] ∧ Q (.int (if k then 1 else 0)) H
abbrev rIntS : List V → Hp → VK → Prop := fun xs H Q => ∃ a n, xs = [.str a] ∧ PySem.intText? a = some n ∧ a.length ≤ 640 ∧ Q (.int n) H
theorem db_int : DB X (.type "int") (fun xs H Q => rInt1 xs H Q ∨ rIntS xs H Q) intR1 := by
  refine ⟨CallR.or call_int1 call_int_str, fun Y F H σ s xs ds k Q E hv h q => ?_⟩
  cases hv with
  | nil => exact h.elim
  | cons h1 h2 =>
    cases h2 with
    | cons => cases h1 <;> exact h.elim
    | nil =>
      cases h1 with
      | int i => exact .inl (.inl ⟨i, rfl, q _ _ F H (Same.refl F) E (.int _) h⟩)
      | bl b => exact .inl (.inr ⟨b, rfl, q _ _ F H (Same.refl F) E (.int _) h⟩)
      | str a =>
        obtain ⟨n, h1, h2, h⟩ := h
        exact .inr ⟨a, n, rfl, h1, h2, q _ _ F H (Same.refl F) E (.int _) h⟩
      | _ => exact h.elim
def strR1 : RC := fun ds k => match ds with
  | [.int i] => i.natAbs.log2 < 1920 ∧ k (.str (toString i))
  | _ => False
theorem db_str : DB X (.type "str") (fun xs H Q => ∃ i, xs = [.int i] ∧ i.natAbs.log2 < 1920 ∧ Q (.str (toString i)) H) strR1 := by
  refine ⟨call_str_int, fun Y F H σ s xs ds k Q E hv h q => ?_⟩
  cases hv with
  | nil => exact h.elim
  | cons h1 h2 =>
    cases h2 with
    | cons => cases h1 <;> exact h.elim
    | nil =>
      cases h1 with
      | int i => exact ⟨i, rfl, h.1, q _ _ F H (Same.refl F) E (.str _) h.2⟩
      | _ => exact h.elim
/-- tuple(a text) -/
def signs (z : Str) : List Str := z.cps.toList.map fun c => ⟨#[c]⟩
abbrev rTupS : List V → Hp → VK → Prop := fun xs H Q => ∃ z, xs = [.str z] ∧ z.length ≤ sizeLine ∧ ∀ p, H p = none → Q (.ref p) (upd H p (.tup ((signs z).map V.str)))
theorem vals_signs {z : Str} {acc : Array Value} (h : ItemsOf (SignAt z) acc z.cps.size) : Vals ((signs z).map V.str) acc.toList := by
  obtain ⟨h1, h2⟩ := h
  have hl : ((signs z).map V.str).length = acc.toList.length := by
    unfold signs
    rw [List.length_map, List.length_map, Array.length_toList, Array.length_toList, h1]
  refine vals_of_at hl fun j x u hx hu => ?_
  have hj : j < acc.size := by
    have := (List.getElem?_eq_some_iff.mp hu).1
    rw [Array.length_toList] at this
    exact this
  have hu2 : acc[j]? = some u := by rw [← Array.getElem?_toList]; exact hu
  obtain ⟨c, t, hc, e⟩ := h2 j u hu2
  have hx2 : x = V.str ⟨#[c]⟩ := by
    unfold signs at hx
    rw [List.map_map, List.getElem?_map, Array.getElem?_toList, hc] at hx
    exact (Option.some.inj hx).symm
  subst hx2
  exact ⟨t, e⟩
theorem call_tupS (hc : X.calm = true) : CallR X (.type "tuple") rTupS := by
  intro pins s σ H xs us Q I r h
  obtain ⟨z, rfl, hz, q⟩ := h
  obtain ⟨u, rfl, t, rfl⟩ := vals1 r
  refine call_tuple_str (I.ok.hd hc) z t (fun h' tk acc kp hi => ?_) hz
  have I1 : Inv X pins σ H { s with heap := h' } := I.kept (t' := s.toks) kp
  have hv := vals_signs hi
  have I2 : Inv X pins σ (upd H h'.objs.size (.tup ((signs z).map V.str))) { s with heap := h'.push { cls := .type "tuple", data := .seq acc }, toks := tk } :=
    I1.laid (t' := tk) (fun b o e => Heap.get?_push_of_some _ e) (Nat.le_refl _) (show ObjOk X.prog X.w _ _ _ (.tup ((signs z).map V.str)) from
      ⟨by unfold signs; rw [List.length_map, List.length_map, Array.length_toList]; exact hz, acc.toList, hv, by rw [Array.toArray_toList]; exact IsTup.new _ _⟩)
  exact ⟨.ref h'.objs.size, _, I2, rfl, q _ (I1.hok.fresh (Nat.le_refl _))⟩
def tupR1 : RC := fun ds k => match ds with
  | [.tuple xs] => k (.tuple xs)
  | [.list xs] => k (.tuple xs)
  | [.str z] => z.length ≤ sizeLine ∧ k (.tuple ((signs z).map PyData.str))
  | _ => False
abbrev rTup1 (K : PySem.W.Frag) : List V → Hp → VK → Prop := fun xs H Q => ∃ p ys, xs = [.ref p] ∧ ((SqL K H p ys ∧ ∀ l, H l = none → Q (.ref l) (upd H l (.tup ys))) ∨ (SqT K H p ys ∧ Q (.ref p) H))
theorem db_tuple (hc : X.calm = true) : DB X (.type "tuple") (fun xs H Q => rTup1 X.K xs H Q ∨ rTupS xs H Q) tupR1 := by
  refine ⟨CallR.or call_tuple_of (call_tupS hc), fun Y F H σ s xs ds k Q E hv h q => ?_⟩
  cases hv with
  | nil => exact h.elim
  | cons h1 h2 =>
    cases h2 with
    | cons => cases h1 <;> exact h.elim
    | nil =>
      cases h1 with
      | str z => exact .inr ⟨z, rfl, h.1, fun p hp => q _ _ _ _ (same_upd (same_none E.fh hp)) (E.alloc _ hp) (dt_at (DtAll.of_strs _) (same_none E.fh hp)) h.2⟩
      | @lst a xs ds ha hs => exact .inl ⟨a, xs, rfl, .inl ⟨SqL.of (E.fh _ _ ha), fun p hp => q _ _ _ _ (same_upd (same_none E.fh hp)) (E.alloc _ hp) (dt_at hs (same_none E.fh hp)) h⟩⟩
      | @tup a xs ds ha hs => exact .inl ⟨a, xs, rfl, .inr ⟨sqT_mono E.fh ha, q _ _ F H (Same.refl F) E (.tup ha hs) h⟩⟩
      | _ => exact h.elim
def listR1 : RC := fun ds k => match ds with
  | [.tuple xs] => k (.list xs)
  | [.list xs] => k (.list xs)
  | _ => False
theorem db_list : DB X (.type "list") (fun xs H Q => ∃ p ys, xs = [.ref p] ∧ (SqL X.K H p ys ∨ SqT X.K H p ys) ∧ ∀ l, H l = none → Q (.ref l) (upd H l (.lst ys))) listR1 := by
  refine ⟨call_list_of, fun Y F H σ s xs ds k Q E hv h q => ?_⟩
  cases hv with
  | nil => exact h.elim
  | cons h1 h2 =>
    cases h2 with
    | cons => cases h1 <;> exact h.elim
    | nil =>
      cases h1 with
      | @lst a xs ds ha hs => exact ⟨a, xs, rfl, .inl (SqL.of (E.fh _ _ ha)), fun p hp => q _ _ _ _ (same_upd (same_none E.fh hp)) (E.alloc _ hp) (dl_at hs (same_none E.fh hp)) h⟩
      | @tup a xs ds ha hs => exact ⟨a, xs, rfl, .inr (sqT_mono E.fh ha), fun p hp => q _ _ _ _ (same_upd (same_none E.fh hp)) (E.alloc _ hp) (dl_at hs (same_none E.fh hp)) h⟩
      | _ => exact h.elim
def anyR : RC := fun ds k => ∃ bs : List Bool, ds = [.list (bs.map PyData.bool)] ∧ k (.bool (bs.any id))
theorem db_any (hc : X.calm = true) : DB X (.builtin "any") (rAny X.K) anyR := by
  refine ⟨cr_any hc, fun Y F H σ s xs ds k Q E hv h q => ?_⟩
  obtain ⟨bs, rfl, h⟩ := h
  cases hv with
  | cons h1 h2 =>
    cases h2
    cases h1 with
    | @lst a xs ds ha hs =>
      rw [DtAll.bools bs hs] at ha
      exact ⟨a, bs, rfl, SqL.of (E.fh _ _ ha), q _ _ F H (Same.refl F) E (.bl _) h⟩
def maxR : RC := fun ds k => ∃ ns : List Int, ds = [.list (ns.map PyData.int)] ∧ 0 < ns.length ∧ ∀ m, m ∈ ns → (∀ y, y ∈ ns → y ≤ m) → k (.int m)
theorem db_max (hc : X.calm = true) : DB X (.builtin "max") (rMax X.K) maxR := by
  refine ⟨cr_max hc, fun Y F H σ s xs ds k Q E hv h q => ?_⟩
  obtain ⟨ns, rfl, h0, h⟩ := h
  cases hv with
  | cons h1 h2 =>
    cases h2
    cases h1 with
    | @lst a xs ds ha hs =>
      rw [DtAll.ints ns hs] at ha
      exact ⟨a, ns, rfl, SqL.of (E.fh _ _ ha), h0, fun m hm hle => q _ _ F H (Same.refl F) E (.int _) (h m hm hle)⟩
/-! ### isinstance -/
def tyN : PyData → String
  | .none => "NoneType"
  | .bool _ => "bool"
  | .int _ => "int"
  | .str _ => "str"
  | .list _ => "list"
  | .tuple _ => "tuple"
  | .dict _ => "dict"
theorem ty_of {K : PySem.W.Frag} {F H : Hp} {v : V} {d : PyData} (e : Same F H) (h : Dt K F v d) : TyX K H v (.type (tyN d)) := by
  cases h with
  | non => exact .base .non
  | bl b => exact .base (.bl b)
  | int i => exact .base (.int i)
  | str x => exact .base (.str x)
  | lst ha hs => exact .base (.lst (e _ _ ha))
  | tup ha hs =>
    rcases ha with (h | ⟨o, h⟩) | ⟨o, its, n, hk, hc, hs, hz, r⟩
    · exact .base (.tup (e _ _ h))
    · exact .fTuple (e _ _ h)
    · exact .kTuple hk hc
def dIsi (f : String → Bool) (a : TD) : TD := fun s Q => a s fun x s1 => Q (.bool (f (tyN x))) s1
variable {a b e o : Expr} {es : List Expr} {ta tb te to : TE} {da db de do_ : TD} {pos p p2 apos : Pos} {ts : TA} {ds : TDA}
theorem de_isi {x : Str} {T : String} {f : String → Bool} (hf : ∀ d : PyData, kitB (tyN d) T = some (f (tyN d))) (ha : DE X a ta da) (hg : Gl X "isinstance") (hm : X.mg "isinstance" = none) (hv : bootBuiltins "isinstance" = some (.builtin "isinstance"))
    (hg2 : Gl X x) (hm2 : X.mg x = none) (hv2 : bootBuiltins x = some (.type T)) (hn2 : x ≠ "__name__" := by decide) (hd2 : (x == ("__debug__" : Str)) = false := by decide)
    (hse : starEach [a, .Name x p2] X.env = (false, eval a X.env) :: starEach [.Name x p2] X.env := by rfl) (hse2 : starEach [.Name x p2] X.env = (false, eval (.Name x p2) X.env) :: starEach [] X.env := by rfl) (hpl : (backTo pos (starEach [.Name x p2] X.env)).any (·.1) = false := by rfl) :
    DE X (.Call (.Name "isinstance" p) [a, .Name x p2] [] pos) (tCB (rIsi X.K) (tCons ta (tCons (tC (.ty T)) tNil))) (dIsi f da) := by
  refine ⟨pe_callB call_isi hg hm hv (pa_cons ha.pe (pa_cons (pe_bltn (v := .ty T) hg2 hm2 hv2 rfl hn2 hd2) pa_nil hse2) hse) (by decide) (by decide) hse hpl, fun Y F H σ s Qd Q E q k => ?_⟩
  refine ha.sn Y F H σ s _ _ E q fun v d F1 H1 s1 g1 E1 v1 q1 => ?_
  exact ⟨v, .ty T, .type (tyN d), .type T, f (tyN d), rfl, .ty T, ty_of E1.fh v1, kit_ty (hf d), k _ _ F1 H1 s1 g1 E1 (.bl _) q1⟩
theorem isStr : ∀ d : PyData, kitB (tyN d) "str" = some (tyN d == "str") := fun d => by cases d <;> (dsimp only [tyN]; decide +kernel)
theorem isTuple : ∀ d : PyData, kitB (tyN d) "tuple" = some (tyN d == "tuple") := fun d => by cases d <;> (dsimp only [tyN]; decide +kernel)
theorem isBool : ∀ d : PyData, kitB (tyN d) "bool" = some (tyN d == "bool") := fun d => by cases d <;> (dsimp only [tyN]; decide +kernel)
/-! ### methods of texts -/
abbrev RM := Str → List PyData → (PyData → Prop) → Prop
structure DM (X : Cx) (id : String) (r : V → List V → Hp → VK → Prop) (rd : RM) : Prop where
  op : MtR X id r
  sn : ∀ (Y : Fx) (F H : Hp) (σ : L2.St) (s : DS) (z : Str) (xs : List V) (ds : List PyData) (k : PyData → Prop) (Q : VK), EnvOk X.K Y F H σ s → DtAll X.K F xs ds → rd z ds k →
    (∀ v z F' H', Same F F' → EnvOk X.K Y F' H' σ s → Dt X.K F' v z → k z → Q v H') → r (.str z) xs H Q
def dBM (rd : RM) (t : TD) (ts : TDA) : TD := fun s Q => t s fun x s1 => ∃ a, x = .str a ∧ ts s1 fun xs s2 => rd a xs fun z => Q z s2
theorem de_bm {id : String} {name : Str} {r : V → List V → Hp → VK → Prop} {rd : RM} (h : DM X id r rd) (slot : Slot "str" name id) (hty : typeOf (.builtin id) = pure (.type "method_descriptor")) (ho : DE X o to do_) (ha : DA X (e :: es) ts ds)
    (hbase : attributeBase o name X.env (eval o X.env) = eval o X.env := by rfl)
    (hfew : ((backTo pos (starEach (e :: es) X.env)).all (fun x => !x.1) && (backToKw pos (keywordEach [] X.env)).all (fun x => x.1.isSome)
      && decide ((e :: es).length + ([] : List Keyword).length + (if ([] : List Keyword).isEmpty then 0 else 1) < 30)) = true := by rfl)
    (hline : (apos.endLine == pos.line) = true := by rfl) (hs : starEach (e :: es) X.env = (false, eval e X.env) :: starEach es X.env := by rfl) (hplain : (backTo pos (starEach es X.env)).any (·.1) = false := by rfl) :
    DE X (.Call (.Attribute o name apos) (e :: es) [] pos) (tBM X.K "str" r to ts) (dBM rd do_ ds) := by
  refine ⟨pe_bm F.plainAttrs_str slot hty h.op ho.pe ha.pa hbase hfew hline hs hplain, fun Y F H σ s Qd Q E q k => ?_⟩
  refine ho.sn Y F H σ s _ _ E q fun v d F1 H1 s1 g1 E1 v1 q1 => ?_
  obtain ⟨a, rfl, q1⟩ := q1
  cases v1
  refine ⟨rfl, ?_⟩
  exact ha.sn Y F1 H1 σ s1 _ _ E1 q1 fun vs ds F2 H2 s2 g2 E2 v2 q2 => h.sn Y F2 H2 σ s2 a vs ds _ Q E2 v2 q2 fun w z F3 H3 g3 E3 v3 q3 => k w z F3 H3 s2 ((g1.trans g2).trans g3) E3 v3 q3
def swR : RM := fun a ds k => match ds with
  | [.str b] => k (.bool (Txt.startswith a b))
  | [.str b, .int i] => k (.bool (Txt.startswith3 a b i))
  | _ => False
abbrev rSw1 : V → List V → Hp → VK → Prop := fun x xs H Q => ∃ a b, x = .str a ∧ xs = [.str b] ∧ Q (.bl (Txt.startswith a b)) H
abbrev rSw2 : V → List V → Hp → VK → Prop := fun x xs H Q => ∃ (a b : Str) (i : Int), x = .str a ∧ xs = [.str b, .int i] ∧ Q (.bl (Txt.startswith3 a b i)) H
theorem dm_startswith : DM X "str.startswith" (fun x xs H Q => rSw1 x xs H Q ∨ rSw2 x xs H Q) swR := by
  refine ⟨MtR.or mt_startswith mt_startswith3, fun Y F H σ s z xs ds k Q E hv h q => ?_⟩
  cases hv with
  | nil => exact h.elim
  | cons h1 h2 =>
    cases h1 with
    | str b =>
      cases h2 with
      | nil => exact .inl ⟨z, b, rfl, rfl, q _ _ F H (Same.refl F) E (.bl _) h⟩
      | cons h2 h3 =>
        cases h2 with
        | int i =>
          cases h3 with
          | nil => exact .inr ⟨z, b, i, rfl, rfl, q _ _ F H (Same.refl F) E (.bl _) h⟩
          | cons => exact h.elim
        | _ => cases h3 <;> exact h.elim
    | _ => cases h2 <;> exact h.elim
def ewR : RM := fun a ds k => match ds with
  | [.str b] => k (.bool (Txt.endswith a b))
  | _ => False
def oneS (R : Str → Prop) : List PyData → Prop := fun ds => match ds with
  | [.str b] => R b
  | _ => False
theorem one_str {K : PySem.W.Frag} {F : Hp} {xs : List V} {ds : List PyData} {R : Str → Prop} (h : DtAll K F xs ds) (q : oneS R ds) : ∃ b, xs = [.str b] ∧ ds = [.str b] ∧ R b := by
  cases h with
  | nil => exact q.elim
  | cons h1 h2 =>
    cases h2 with
    | cons => cases h1 <;> exact q.elim
    | nil =>
      cases h1 with
      | str b => exact ⟨b, rfl, rfl, q⟩
      | _ => exact q.elim
theorem dm_endswith : DM X "str.endswith" (fun x xs H Q => ∃ a b, x = .str a ∧ xs = [.str b] ∧ Q (.bl (Txt.endswith a b)) H) ewR := by
  refine ⟨mt_endswith, fun Y F H σ s z xs ds k Q E hv h q => ?_⟩
  obtain ⟨b, rfl, rfl, h⟩ := one_str (R := fun b => k (.bool (Txt.endswith z b))) hv h
  exact ⟨z, b, rfl, rfl, q _ _ F H (Same.refl F) E (.bl _) h⟩
def three (t : Str × Str × Str) : PyData := .tuple [.str t.1, .str t.2.1, .str t.2.2]
def partR : RM := fun a ds k => match ds with
  | [.str b] => (b.length == 0) = false ∧ a.length ≤ sizeLine ∧ k (three (Txt.partition a b))
  | _ => False
def rpartR : RM := fun a ds k => match ds with
  | [.str b] => (b.length == 0) = false ∧ a.length ≤ sizeLine ∧ k (three (Txt.rpartition a b))
  | _ => False
theorem dt_three {K : PySem.W.Frag} {F : Hp} {p : Addr} (t : Str × Str × Str) (fp : F p = none) : Dt K (upd F p (.tup [.str t.1, .str t.2.1, .str t.2.2])) (.ref p) (three t) := dt_at (.cons (.str _) (.cons (.str _) (.cons (.str _) .nil))) fp
theorem dm_partition : DM X "str.partition" (fun x xs H Q => ∃ a b, x = .str a ∧ xs = [.str b] ∧ (b.length == 0) = false ∧ a.length ≤ sizeLine ∧
    ∀ p, H p = none → Q (.ref p) (upd H p (.tup [.str (Txt.partition a b).1, .str (Txt.partition a b).2.1, .str (Txt.partition a b).2.2]))) partR := by
  refine ⟨mt_partition, fun Y F H σ s z xs ds k Q E hv h q => ?_⟩
  obtain ⟨b, rfl, rfl, h⟩ := one_str (R := fun b => (b.length == 0) = false ∧ z.length ≤ sizeLine ∧ k (three (Txt.partition z b))) hv h
  exact ⟨z, b, rfl, rfl, h.1, h.2.1, fun p hp => q _ _ _ _ (same_upd (same_none E.fh hp)) (E.alloc _ hp) (dt_three _ (same_none E.fh hp)) h.2.2⟩
theorem mt_rpartition : MtR X "str.rpartition" (fun x xs H Q => ∃ a b, x = .str a ∧ xs = [.str b] ∧ (b.length == 0) = false ∧ a.length ≤ sizeLine ∧
    ∀ p, H p = none → Q (.ref p) (upd H p (.tup [.str (Txt.rpartition a b).1, .str (Txt.rpartition a b).2.1, .str (Txt.rpartition a b).2.2]))) := by
  intro pins s σ H x xs v us Q I rx rs h
  obtain ⟨a, b, rfl, rfl, hb, hz, h⟩ := h
  obtain ⟨t, rfl⟩ := rx
  cases rs with
  | cons r1 rs =>
    cases rs
    obtain ⟨u, rfl⟩ := r1
    refine call_meets F.slot_str_rpartition (typeIs_str _ _ _) F.entry_str_rpartition (F.args_str_rpartition_2 _ _) (meets_str_rpartition a b t u hb hz) ?_
    unfold Txt.rpartition at h
    revert h
    cases Builtin.Str.lastOccurrence a b 0 a.length with
    | none => intro h; exact laid_parts I h
    | some i => intro h; exact laid_parts I h
theorem dm_rpartition : DM X "str.rpartition" (fun x xs H Q => ∃ a b, x = .str a ∧ xs = [.str b] ∧ (b.length == 0) = false ∧ a.length ≤ sizeLine ∧
    ∀ p, H p = none → Q (.ref p) (upd H p (.tup [.str (Txt.rpartition a b).1, .str (Txt.rpartition a b).2.1, .str (Txt.rpartition a b).2.2]))) rpartR := by
  refine ⟨mt_rpartition, fun Y F H σ s z xs ds k Q E hv h q => ?_⟩
  obtain ⟨b, rfl, rfl, h⟩ := one_str (R := fun b => (b.length == 0) = false ∧ z.length ≤ sizeLine ∧ k (three (Txt.rpartition z b))) hv h
  exact ⟨z, b, rfl, rfl, h.1, h.2.1, fun p hp => q _ _ _ _ (same_upd (same_none E.fh hp)) (E.alloc _ hp) (dt_three _ (same_none E.fh hp)) h.2.2⟩
def splitR : RM := fun a ds k => match ds with
  | [.str b] => (b.length == 0) = false ∧ a.length + 2 ≤ sizeLine ∧ k (.list ((Txt.split a b).map PyData.str))
  | _ => False
theorem dm_split : DM X "str.split" (fun x xs H Q => ∃ a b, x = .str a ∧ xs = [.str b] ∧ (b.length == 0) = false ∧ a.length + 2 ≤ sizeLine ∧ rNewStrs (Txt.split a b) H Q) splitR := by
  refine ⟨mt_split, fun Y F H σ s z xs ds k Q E hv h q => ?_⟩
  obtain ⟨b, rfl, rfl, h⟩ := one_str (R := fun b => (b.length == 0) = false ∧ z.length + 2 ≤ sizeLine ∧ k (.list ((Txt.split z b).map PyData.str))) hv h
  exact ⟨z, b, rfl, rfl, h.1, h.2.1, fun p hp => q _ _ _ _ (same_upd (same_none E.fh hp)) (E.alloc _ hp) (dl_at (DtAll.of_strs _) (same_none E.fh hp)) h.2.2⟩
def joinR : RM := fun a ds k => ∃ ys : List Str, ds = [.list (ys.map PyData.str)] ∧ (ys.map (·.length)).sum + ys.length * a.length ≤ 16777216 ∧ k (.str (Txt.join a ys))
theorem dm_join : DM X "str.join" (fun x xs H Q => ∃ a p, ∃ ys : List Str, x = .str a ∧ xs = [.ref p] ∧ (SqL X.K H p (ys.map V.str) ∨ SqT X.K H p (ys.map V.str)) ∧
    (ys.map (·.length)).sum + ys.length * a.length ≤ 16777216 ∧ Q (.str (Txt.join a ys)) H) joinR := by
  refine ⟨mt_join, fun Y F H σ s z xs ds k Q E hv h q => ?_⟩
  obtain ⟨ys, rfl, hz, h⟩ := h
  cases hv with
  | cons h1 h2 =>
    cases h2
    cases h1 with
    | @lst a xs ds ha hs =>
      rw [DtAll.strs ys hs] at ha
      exact ⟨z, a, ys, rfl, rfl, .inl (SqL.of (E.fh _ _ ha)), hz, q _ _ F H (Same.refl F) E (.str _) h⟩
/-! ### f-strings -/
def dFmt (t : TD) : TD := fun s Q => t s fun x s1 => match x with
  | .str y => y.length ≤ sizeLine ∧ Q (.str y) s1
  | .int i => i.natAbs.log2 < 1920 ∧ Q (.str (toString i)) s1
  | _ => False
theorem de_fmt (he : DE X e te de) : DE X (.FormattedValue e (-1) none pos) (tFmt te) (dFmt de) := by
  refine ⟨pe_fmt he.pe, fun Y F H σ s Qd Q E q k => ?_⟩
  refine he.sn Y F H σ s _ _ E q fun v d F1 H1 s1 g1 E1 v1 q1 => ?_
  cases v1 with
  | str y => exact .inl ⟨y, rfl, q1.1, k _ _ F1 H1 s1 g1 E1 (.str _) q1.2⟩
  | int i => exact .inr ⟨i, rfl, q1.1, k _ _ F1 H1 s1 g1 E1 (.str _) q1.2⟩
  | _ => exact q1.elim
inductive DJ (X : Cx) : List Expr → List TE → List TD → Prop where
  | nil : DJ X [] [] []
  | cons {e : Expr} {t : TE} {d : TD} {es : List Expr} {ts : List TE} {ds : List TD} (h : DE X e t d) (r : DJ X es ts ds) : DJ X (e :: es) (t :: ts) (d :: ds)
theorem DJ.pj {es : List Expr} {ts : List TE} {ds : List TD} (h : DJ X es ts ds) : PJ X es ts := by
  induction h with
  | nil => exact .nil
  | cons h r ih => exact .cons h.pe ih
def dJs : List TD → Str → DS → QD → Prop
  | [], acc, s, Q => Q (.str acc) s
  | t :: ts, acc, s, Q => t s fun x s1 => ∃ y : Str, x = .str y ∧ (acc ++ y).length ≤ sizeLine ∧ dJs ts (acc ++ y) s1 Q
theorem sn_js {es : List Expr} {ts : List TE} {ds : List TD} (h : DJ X es ts ds) : ∀ (acc : Str) (Y : Fx) (F H : Hp) (σ : L2.St) (s : DS) (Qd : QD) (Q : Str → Hp → Prop), EnvOk X.K Y F H σ s → dJs ds acc s Qd →
    (∀ out F' H' s', Same F F' → EnvOk X.K Y F' H' σ s' → Qd (.str out) s' → Q out H') → tJs ts acc σ H Q := by
  induction h with
  | nil => intro acc Y F H σ s Qd Q E q k; exact k acc F H s (Same.refl F) E q
  | cons h r ih =>
    intro acc Y F H σ s Qd Q E q k
    refine h.sn Y F H σ s _ _ E q fun v d F1 H1 s1 g1 E1 v1 q1 => ?_
    obtain ⟨y, rfl, hz, q1⟩ := q1
    cases v1
    exact ⟨y, rfl, hz, ih _ Y F1 H1 σ s1 _ _ E1 q1 fun out F2 H2 s2 g2 E2 q2 => k out F2 H2 s2 (g1.trans g2) E2 q2⟩
theorem de_joined {v1 v2 : Expr} {rest : List Expr} {ts : List TE} {ds : List TD} (h : DJ X (v1 :: v2 :: rest) ts ds) : DE X (.JoinedStr (v1 :: v2 :: rest) pos) (fun σ H Q => tJs ts Str.empty σ H fun out H1 => Q (.str out) H1) (dJs ds Str.empty) :=
  ⟨pe_joined h.pj, fun Y F H σ s Qd Q E q k => sn_js h Str.empty Y F H σ s Qd _ E q fun out F1 H1 s1 g1 E1 q1 => k _ _ F1 H1 s1 g1 E1 (.str _) q1⟩
/-! ### a star in a display -/
def dStar (t : TD) (r : TDA) : TDA := fun s Q => t s fun x s1 => (∃ xs, x = .tuple xs ∧ r s1 fun ys s2 => Q (xs ++ ys) s2)
theorem da_star {sp : Pos} (he : DE X e te de) (hr : DA X es ts ds) (hs : starEach (.Starred e sp :: es) X.env = (true, eval e X.env) :: starEach es X.env := by rfl) : DA X (.Starred e sp :: es) (StX.tStar X.K te ts) (dStar de ds) := by
  refine ⟨StX.pa_star he.pe hr.pa hs, fun Y F H σ s Qd Q E q k => ?_⟩
  refine he.sn Y F H σ s _ _ E q fun v d F1 H1 s1 g1 E1 v1 q1 => ?_
  obtain ⟨ds, rfl, q1⟩ := q1
  cases v1 with
  | @tup a xs ds ha hs =>
    exact ⟨a, xs, rfl, .inl (sqT_mono E1.fh ha), hr.sn Y F1 H1 σ s1 _ _ E1 q1 fun vs es F2 H2 s2 g2 E2 v2 q2 => k _ _ F2 H2 s2 (g1.trans g2) E2 ((DtAll.mono g2 _ _ hs).app v2) q2⟩
end
end DL

set_option Elab.async false
set_option linter.all false
set_option maxRecDepth 100000
set_option maxHeartbeats 4000000
namespace DL
open PySem PySem.Spec PyProof.Rows L2
/-! ### more of slots -/
section
variable {K : PySem.W.Frag} {Y : Fx} {F H F' H' : Hp} {σ : L2.St} {s : DS}
theorem get_set {α : Type} {l : List α} {i j : Nat} {x y : α} (h : (l.set i x)[j]? = some y) : (j = i ∧ x = y ∧ i < l.length) ∨ (j ≠ i ∧ l[j]? = some y) := by
  by_cases e : j = i
  · subst e
    by_cases hl : j < l.length
    · rw [List.getElem?_set_self hl] at h
      exact .inl ⟨rfl, Option.some.inj h, hl⟩
    · rw [List.getElem?_eq_none (by rw [List.length_set]; omega)] at h
      cases h
  · rw [List.getElem?_set_ne (Ne.symm e)] at h
    exact .inr ⟨e, h⟩
theorem EnvOk.set (E : EnvOk K Y F H σ s) (i : Nat) {v : V} {x : PyData} (hx : Dt K F v x) : EnvOk K Y F H (σ.set i (some v)) { s with r := s.r.set i (.d x) } where
  fh := E.fh
  f0 := E.f0
  fr := E.fr
  bh := E.bh
  st := E.st
  ln := by show (σ.set i (some v)).length = (s.r.set i (.d x)).length; rw [List.length_set, List.length_set]; exact E.ln
  sl := fun j y e => by
    rcases get_set e with ⟨rfl, rfl, hl⟩ | ⟨ne, e⟩
    · exact ⟨v, by rw [List.getElem?_set_self (by rw [E.ln]; exact hl)], hx⟩
    · rw [List.getElem?_set_ne (Ne.symm ne)]
      exact E.sl j y e
  nd := fun j k p xs ys e1 e2 e3 e4 => by
    rcases get_set e1 with ⟨_, q, _⟩ | ⟨n1, e1⟩
    · cases q
    rcases get_set e2 with ⟨_, q, _⟩ | ⟨n2, e2⟩
    · cases q
    rw [List.getElem?_set_ne (Ne.symm n1)] at e3
    rw [List.getElem?_set_ne (Ne.symm n2)] at e4
    exact E.nd j k p xs ys e1 e2 e3 e4
/-- a list that nothing knows but its maker -/
def Fresh (K : PySem.W.Frag) (Y : Fx) (F H : Hp) (σ : L2.St) (s : DS) (p : Addr) (ds : List PyData) : Prop :=
  (∃ vs, H p = some (.lst vs) ∧ DtAll K F vs ds) ∧ F p = none ∧ Y.B p = none ∧ ¬ Wr Y.z p ∧ ∀ (i : Nat) (xs : List PyData), s.r[i]? = some (.own xs) → σ[i]? ≠ some (some (.ref p))
theorem EnvOk.fresh (E : EnvOk K Y F H σ s) {p : Addr} {vs : List V} {ds : List PyData} (hp : H p = none) (hv : DtAll K F vs ds) : Fresh K Y F (upd H p (.lst vs)) σ s p ds := by
  refine ⟨⟨vs, upd_same, hv⟩, same_none E.fh hp, ?_, fun w => E.st.has w hp, fun i xs e q => ?_⟩
  · cases b : Y.B p with
    | none => rfl
    | some u =>
      by_cases w : Wr Y.z p
      · exact absurd hp (E.st.has w)
      · rw [E.bh p u b w] at hp; cases hp
  · obtain ⟨b, e1, ⟨us, h1, _⟩, _⟩ := E.sl i _ e
    rw [q] at e1
    cases e1
    rw [hp] at h1
    cases h1
theorem EnvOk.setOwn (E : EnvOk K Y F H σ s) (i : Nat) {p : Addr} {ds : List PyData} (fr : Fresh K Y F H σ s p ds) : EnvOk K Y F H (σ.set i (some (.ref p))) { s with r := s.r.set i (.own ds) } where
  fh := E.fh
  f0 := E.f0
  fr := E.fr
  bh := E.bh
  st := E.st
  ln := by show (σ.set i (some (.ref p))).length = (s.r.set i (.own ds)).length; rw [List.length_set, List.length_set]; exact E.ln
  sl := fun j y e => by
    rcases get_set e with ⟨rfl, rfl, hl⟩ | ⟨ne, e⟩
    · exact ⟨p, by rw [List.getElem?_set_self (by rw [E.ln]; exact hl)], fr.1, fr.2.1, fr.2.2.1, fr.2.2.2.1⟩
    · rw [List.getElem?_set_ne (Ne.symm ne)]
      exact E.sl j y e
  nd := fun j k b xs ys e1 e2 e3 e4 => by
    rcases get_set e1 with ⟨r1, q, l1⟩ | ⟨n1, f1⟩
    · subst r1
      rcases get_set e2 with ⟨r2, _, _⟩ | ⟨n2, f2⟩
      · exact r2.symm
      · rw [List.getElem?_set_self (by rw [E.ln]; exact l1)] at e3
        rw [List.getElem?_set_ne (Ne.symm n2)] at e4
        cases e3
        exact absurd e4 (fr.2.2.2.2 k ys f2)
    · rcases get_set e2 with ⟨r2, _, l2⟩ | ⟨n2, f2⟩
      · subst r2
        rw [List.getElem?_set_self (by rw [E.ln]; exact l2)] at e4
        rw [List.getElem?_set_ne (Ne.symm n1)] at e3
        cases e4
        exact absurd e3 (fr.2.2.2.2 j xs f1)
      · rw [List.getElem?_set_ne (Ne.symm n1)] at e3
        rw [List.getElem?_set_ne (Ne.symm n2)] at e4
        exact E.nd j k b xs ys f1 f2 e3 e4
/-- one's own list is written -/
theorem EnvOk.put (E : EnvOk K Y F H σ s) {i : Nat} {p : Addr} {xs ys : List PyData} {us : List V} (e : s.r[i]? = some (.own xs)) (es : σ[i]? = some (some (.ref p))) (hu : DtAll K F us ys) : EnvOk K Y F (upd H p (.lst us)) σ { s with r := s.r.set i (.own ys) } := by
  obtain ⟨b, e1, ⟨vs, h1, h2⟩, h3, h4, h5⟩ := E.sl i _ e
  rw [es] at e1
  cases e1
  have hl : i < s.r.length := (List.getElem?_eq_some_iff.mp e).1
  refine ⟨fun a o q => ?_, E.f0, E.fr, fun a o q w => ?_, fun a l q => ?_, by show σ.length = (s.r.set i (.own ys)).length; rw [List.length_set]; exact E.ln, fun j y q => ?_, fun j k c as bs e1 e2 e3 e4 => ?_⟩
  · rw [upd_ne (ne_of_none q h3)]; exact E.fh a o q
  · rw [upd_ne (ne_of_none q h4)]; exact E.bh a o q w
  · obtain ⟨k1, k2, k3, pc, cs, ls, k4, k5, k6⟩ := E.st a l q
    have n1 : a ≠ p := fun z => h5 ⟨a, l, q, .inl z.symm⟩
    have n2 : l ≠ p := fun z => h5 ⟨a, l, q, .inr z.symm⟩
    exact ⟨k1, k2, k3, pc, cs, ls, by rw [upd_ne n1]; exact k4, by rw [upd_ne n2]; exact k5, k6⟩
  · rcases get_set q with ⟨rfl, rfl, _⟩ | ⟨ne, q⟩
    · exact ⟨p, es, ⟨us, upd_same, hu⟩, h3, h4, h5⟩
    · have z := E.sl j y q
      cases y with
      | un => trivial
      | d x => exact z
      | st => exact z
      | own zs =>
        obtain ⟨c, z1, ⟨ws, z2, z3⟩, z4⟩ := z
        have nc : c ≠ p := fun w => ne (E.nd j i p zs xs q e (by rw [← w]; exact z1) es)
        exact ⟨c, z1, ⟨ws, by rw [upd_ne nc]; exact z2, z3⟩, z4⟩
  · have f : ∀ (j : Nat) (as : List PyData), (s.r.set i (.own ys))[j]? = some (.own as) → ∃ as', s.r[j]? = some (.own as') := fun j as q => by
      rcases get_set q with ⟨rfl, _, _⟩ | ⟨_, q⟩
      · exact ⟨xs, e⟩
      · exact ⟨as, q⟩
    obtain ⟨as', e1⟩ := f j as e1
    obtain ⟨bs', e2⟩ := f k bs e2
    exact E.nd j k c as' bs' e1 e2 e3 e4
theorem EnvOk.frzSlot (E : EnvOk K Y F H σ s) {i : Nat} {xs : List PyData} (e : s.r[i]? = some (.own xs)) : ∃ p F', σ[i]? = some (some (.ref p)) ∧ Same F F' ∧ EnvOk K Y F' H σ { s with r := s.r.set i (.d (.list xs)) } ∧ Dt K F' (.ref p) (.list xs) := by
  obtain ⟨p, e1, ⟨vs, h1, h2⟩, h3, h4, h5⟩ := E.sl i _ e
  have sm : Same F (upd F p (.lst vs)) := same_upd h3
  have dp : Dt K (upd F p (.lst vs)) (.ref p) (.list xs) := .lst upd_same (DtAll.mono sm _ _ h2)
  refine ⟨p, upd F p (.lst vs), e1, sm, ?_, dp⟩
  refine ⟨fun a u q => ?_, E.f0.trans sm, fun a u q => ?_, E.bh, fun a l q => ?_, by show σ.length = (s.r.set i (.d (.list xs))).length; rw [List.length_set]; exact E.ln, fun j y q => ?_, fun j k c as bs q1 q2 q3 q4 => ?_⟩
  · by_cases h : a = p
    · subst h; rw [upd_same] at q; rw [← q]; exact h1
    · rw [upd_ne h] at q; exact E.fh a u q
  · by_cases h : a = p
    · subst h; exact .inr h4
    · rw [upd_ne h] at q; exact E.fr a u q
  · obtain ⟨k1, k2, k3, pc, cs, ls, k4, k5, k6, k7⟩ := E.st a l q
    have n1 : a ≠ p := fun z => h5 ⟨a, l, q, .inl z.symm⟩
    have n2 : l ≠ p := fun z => h5 ⟨a, l, q, .inr z.symm⟩
    exact ⟨k1, by rw [upd_ne n1]; exact k2, by rw [upd_ne n2]; exact k3, pc, cs, ls, k4, k5, sm _ _ k6, k7⟩
  · rcases get_set q with ⟨rfl, rfl, _⟩ | ⟨ne, q⟩
    · exact ⟨_, e1, dp⟩
    · have z := E.sl j y q
      cases y with
      | un => trivial
      | d x => obtain ⟨v, z1, z2⟩ := z; exact ⟨v, z1, z2.mono sm⟩
      | st => exact z
      | own zs =>
        obtain ⟨c, z1, ⟨ws, z2, z3⟩, z4, z5⟩ := z
        have nc : c ≠ p := fun w => ne (E.nd j i p zs xs q e (by rw [← w]; exact z1) e1)
        exact ⟨c, z1, ⟨ws, z2, DtAll.mono sm _ _ z3⟩, by rw [upd_ne nc]; exact z4, z5⟩
  · rcases get_set q1 with ⟨_, w, _⟩ | ⟨_, q1⟩
    · cases w
    rcases get_set q2 with ⟨_, w, _⟩ | ⟨_, q2⟩
    · cases w
    exact E.nd j k c as bs q1 q2 q3 q4
theorem EnvOk.frz (E : EnvOk K Y F H σ s) {p : Addr} {ds : List PyData} (fr : Fresh K Y F H σ s p ds) : ∃ F', Same F F' ∧ EnvOk K Y F' H σ s ∧ Dt K F' (.ref p) (.list ds) := by
  obtain ⟨⟨vs, h1, h2⟩, h3, h4, h5, h6⟩ := fr
  exact ⟨_, same_upd h3, E.freeze h1 h3 h4 h5 h6, .lst upd_same (DtAll.mono (same_upd h3) _ _ h2)⟩
end
/-! ### fresh lists -/
def SnF (K : PySem.W.Frag) (te : TE) (td : TDA) : Prop := ∀ (Y : Fx) (F H : Hp) (σ : L2.St) (s : DS) (Qd : List PyData → DS → Prop) (Q : VK), EnvOk K Y F H σ s → td s Qd →
  (∀ p ds F' H' s', Same F F' → EnvOk K Y F' H' σ s' → Fresh K Y F' H' σ s' p ds → Qd ds s' → Q (.ref p) H') → te σ H Q
structure DF (X : Cx) (e : Expr) (te : TE) (td : TDA) : Prop where
  pe : PE X e te
  sn : SnF X.K te td
def dFrz (t : TDA) : TD := fun s Q => t s fun xs s1 => Q (.list xs) s1
section
variable {X : Cx} {a b e o : Expr} {es : List Expr} {ta tb te to : TE} {da db de : TD} {pos p p2 apos : Pos} {ts : TA} {ds : TDA}
theorem sn_frz {K : PySem.W.Frag} (h : SnF K te ds) : SnE K te (dFrz ds) := fun Y F H σ s Qd Q E q k =>
  h Y F H σ s _ _ E q fun p xs F1 H1 s1 g1 E1 fr q1 => by
    obtain ⟨F2, g2, E2, d2⟩ := E1.frz fr
    exact k _ _ F2 H1 s1 (g1.trans g2) E2 d2 q1
theorem DF.frz (h : DF X e te ds) : DE X e te (dFrz ds) := ⟨h.pe, sn_frz h.sn⟩
def dfLst (t : TDA) : TDA := fun s Q => t s fun xs s1 => xs.length ≤ sizeLine ∧ Q xs s1
theorem df_lst (h : DA X es ts ds) : DF X (.List es pos) (tLst ts) (dfLst ds) := by
  refine ⟨pe_lst h.pa, fun Y F H σ s Qd Q E q k => ?_⟩
  refine h.sn Y F H σ s _ _ E q fun vs ds F1 H1 s1 g1 E1 v1 q1 => ?_
  refine ⟨by rw [v1.len]; exact q1.1, fun p hp => ?_⟩
  exact k _ _ _ _ s1 g1 (E1.alloc2 _ hp) (E1.fresh hp v1) q1.2
def dfCat (a b : TD) : TDA := fun s Q => a s fun x s1 => b s1 fun y s2 => ∃ xs ys, x = .list xs ∧ y = .list ys ∧ xs.length + ys.length ≤ sizeLine ∧ Q (xs ++ ys) s2
theorem df_cat (ha : DE X a ta da) (hb : DE X b tb db) : DF X (.BinOp a .Add b pos) (tOp rCat ta tb) (dfCat da db) := by
  refine ⟨pe_op op_cat ha.pe hb.pe, fun Y F H σ s Qd Q E q k => ?_⟩
  refine ha.sn Y F H σ s _ _ E q fun v d F1 H1 s1 g1 E1 v1 q1 => hb.sn Y F1 H1 σ s1 _ _ E1 q1 fun u e F2 H2 s2 g2 E2 v2 q2 => ?_
  obtain ⟨xs, ys, rfl, rfl, hz, q2⟩ := q2
  cases v1 with
  | @lst a us _ h1 h2 =>
    cases v2 with
    | @lst b ws _ h3 h4 =>
      refine ⟨a, b, us, ws, rfl, rfl, E2.fh _ _ (g2 _ _ h1), E2.fh _ _ h3, by rw [h2.len, h4.len]; exact hz, fun p hp => ?_⟩
      exact k _ _ _ _ s2 (g1.trans g2) (E2.alloc2 _ hp) (E2.fresh hp ((DtAll.mono g2 _ _ h2).app h4)) q2
def dfList (t : TDA) : TDA := fun s Q => t s fun xs s1 => ∃ ys, (xs = [.list ys] ∨ xs = [.tuple ys]) ∧ Q ys s1
theorem df_list {x : Str} (hg : Gl X x) (hm : X.mg x = none) (hv : bootBuiltins x = some (.type "list")) (ha : DA X (e :: es) ts ds) (hn : x ≠ "__name__" := by decide) (hdb : (x == ("__debug__" : Str)) = false := by decide)
    (hse : starEach (e :: es) X.env = (false, eval e X.env) :: starEach es X.env := by rfl) (hpl : (backTo pos (starEach es X.env)).any (·.1) = false := by rfl) :
    DF X (.Call (.Name x p) (e :: es) [] pos) (tCB (fun xs H Q => ∃ p ys, xs = [.ref p] ∧ (SqL X.K H p ys ∨ SqT X.K H p ys) ∧ ∀ l, H l = none → Q (.ref l) (upd H l (.lst ys))) ts) (dfList ds) := by
  refine ⟨pe_callTy call_list_of hg hm hv ha.pa hn hdb hse hpl, fun Y F H σ s Qd Q E q k => ?_⟩
  refine ha.sn Y F H σ s _ _ E q fun vs ds F1 H1 s1 g1 E1 v1 q1 => ?_
  obtain ⟨ys, hy, q1⟩ := q1
  rcases hy with rfl | rfl
  · cases v1 with
    | cons h1 h2 =>
      cases h2
      cases h1 with
      | @lst a us _ h3 h4 => exact ⟨a, us, rfl, .inl (SqL.of (E1.fh _ _ h3)), fun p hp => k _ _ _ _ s1 g1 (E1.alloc2 _ hp) (E1.fresh hp h4) q1⟩
  · cases v1 with
    | cons h1 h2 =>
      cases h2
      cases h1 with
      | @tup a us _ h3 h4 => exact ⟨a, us, rfl, .inr (sqT_mono E1.fh h3), fun p hp => k _ _ _ _ s1 g1 (E1.alloc2 _ hp) (E1.fresh hp h4) q1⟩
/-! ### one's own list by its name -/
/-- the name gives the list away (it is data from then on) -/
def dGive (i : Nat) : TD := fun s Q => ∃ xs, s.r[i]? = some (.own xs) ∧ Q (.list xs) { s with r := s.r.set i (.d (.list xs)) }
theorem de_give {i : Nat} {x : Str} (h : PE X (.Name x pos) (tVar i)) : DE X (.Name x pos) (tVar i) (dGive i) := ⟨h, fun Y F H σ s Qd Q E q k => by
  obtain ⟨xs, e, q⟩ := q
  obtain ⟨p, F', e1, g, E', d⟩ := E.frzSlot e
  exact ⟨.ref p, e1, k _ _ F' H _ g E' d q⟩⟩
theorem own_at {K : PySem.W.Frag} {Y : Fx} {F H : Hp} {σ : L2.St} {s : DS} (E : EnvOk K Y F H σ s) {i : Nat} {xs : List PyData} (e : s.r[i]? = some (.own xs)) : ∃ p vs, σ[i]? = some (some (.ref p)) ∧ H p = some (.lst vs) ∧ DtAll K F vs xs := by
  obtain ⟨p, e1, ⟨vs, h1, h2⟩, _⟩ := E.sl i _ e
  exact ⟨p, vs, e1, h1, h2⟩
/-- len(xs) -/
def dLenOwn (i : Nat) : TD := fun s Q => ∃ xs, s.r[i]? = some (.own xs) ∧ Q (.int xs.length) s
theorem de_lenOwn {i : Nat} {x y : Str} (h : PE X (.Name x p2) (tVar i)) (hg : Gl X y) (hm : X.mg y = none) (hv : bootBuiltins y = some (.builtin "len")) (hn : y ≠ "__name__" := by decide) (hdb : (y == ("__debug__" : Str)) = false := by decide)
    (hse : starEach [.Name x p2] X.env = (false, eval (.Name x p2) X.env) :: starEach [] X.env := by rfl) (hpl : (backTo pos (starEach [] X.env)).any (·.1) = false := by rfl) :
    DE X (.Call (.Name y p) [.Name x p2] [] pos) (tCB (fun xs H Q => ∃ x n, xs = [x] ∧ LenV X.K x H n ∧ Q (.int n) H) (tCons (tVar i) tNil)) (dLenOwn i) :=
  ⟨pe_callB call_len hg hm hv (pa_cons h pa_nil hse) hn hdb hse hpl, fun Y F H σ s Qd Q E q k => by
    obtain ⟨xs, e, q⟩ := q
    obtain ⟨p, vs, e1, h1, h2⟩ := own_at E e
    exact ⟨.ref p, e1, .ref p, vs.length, rfl, .inl ⟨vs, SqL.of h1, rfl⟩, k _ _ F H s (Same.refl F) E (.int _) (by rw [h2.len]; exact q)⟩⟩
/-- x in xs, x not in xs -/
def dInOwn (neg : Bool) (i : Nat) (a : TD) : TD := fun s Q => a s fun d s1 => ∃ xs, s1.r[i]? = some (.own xs) ∧ SeqAt.shaped d = true ∧ SeqAt.shaped (.list xs) = true ∧ Q (.bool (if neg then !(xs.any fun z => PyData.eqv z d) else xs.any fun z => PyData.eqv z d)) s1
theorem de_notinOwn {i : Nat} {x : Str} (hu : X.A.units + 65 < cLine) (h : PE X (.Name x p2) (tVar i)) (ha : DE X a ta da) (hm : behindInMarks .NotIn (.Name x p2) = false := by rfl) : DE X (.Compare a [.NotIn] [.Name x p2] pos) (tOp (rNotInD X.K) ta (tVar i)) (dInOwn true i da) :=
  ⟨pe_cmpR (op_notInD hu) ha.pe h hm, fun Y F H σ s Qd Q E q k => ha.sn Y F H σ s _ _ E q fun v d F1 H1 s1 g1 E1 v1 q1 => by
    obtain ⟨xs, e, s1', s2', q1⟩ := q1
    obtain ⟨p, vs, e1, h1, h2⟩ := own_at E1 e
    exact ⟨.ref p, e1, d, xs, dp_of E1.fh v1, .lst (SqL.of h1) (DtAll.dp E1.fh _ _ h2), s1', s2', k _ _ F1 H1 s1 g1 E1 (.bl _) q1⟩⟩
theorem de_inOwn {i : Nat} {x : Str} (hu : X.A.units + 65 < cLine) (h : PE X (.Name x p2) (tVar i)) (ha : DE X a ta da) (hm : behindInMarks .In (.Name x p2) = false := by rfl) : DE X (.Compare a [.In] [.Name x p2] pos) (tOp (rInD X.K) ta (tVar i)) (dInOwn false i da) :=
  ⟨pe_cmpR (op_inD hu) ha.pe h hm, fun Y F H σ s Qd Q E q k => ha.sn Y F H σ s _ _ E q fun v d F1 H1 s1 g1 E1 v1 q1 => by
    obtain ⟨xs, e, s1', s2', q1⟩ := q1
    obtain ⟨p, vs, e1, h1, h2⟩ := own_at E1 e
    exact ⟨.ref p, e1, d, xs, dp_of E1.fh v1, .lst (SqL.of h1) (DtAll.dp E1.fh _ _ h2), s1', s2', k _ _ F1 H1 s1 g1 E1 (.bl _) q1⟩⟩
/-- xs != [] -/
def dNeOwn (i : Nat) (b : TD) : TD := fun s Q => b s fun d s1 => ∃ xs, s1.r[i]? = some (.own xs) ∧ s.r[i]? = some (.own xs) ∧ SeqAt.shaped d = true ∧ SeqAt.shaped (.list xs) = true ∧ Q (.bool (!PyData.eqv (.list xs) d)) s1
theorem dt_neOwn {i : Nat} {x : Str} (hu : X.A.units + 64 < cLine) (h : PE X (.Name x p2) (tVar i)) (hb : DE X b tb db) (hm : behindInMarks .NotEq b = false := by rfl) : DT X (.Compare (.Name x p2) [.NotEq] [b] pos) (tTest (tOp (rNeD X.K) (tVar i) tb)) (fun s Q => (∃ xs, s.r[i]? = some (.own xs)) ∧ dTest (dNeOwn i db) s Q) :=
  ⟨pt_cmpR (op_neD hu) h hb.pe hm, fun Y F H σ s Qd Q E q k => by
    obtain ⟨⟨ys, e0⟩, q⟩ := q
    obtain ⟨p0, _, e00, _, _⟩ := own_at E e0
    refine ⟨.ref p0, e00, hb.sn Y F H σ s _ _ E q fun v d F1 H1 s1 g1 E1 v1 q1 => ?_⟩
    obtain ⟨xs, e, _, s1', s2', b, eb, q1⟩ := q1
    cases eb
    obtain ⟨p, vs, e1, h1, h2⟩ := own_at E1 e
    rw [e00] at e1
    cases e1
    exact ⟨.list xs, d, .lst (SqL.of h1) (DtAll.dp E1.fh _ _ h2), dp_of E1.fh v1, s2', s1', _, rfl, k _ F1 H1 s1 g1 E1 q1⟩⟩
/-- xs[i] -/
def dIxOwn (i : Nat) (b : TD) : TD := fun s Q => (∃ xs, s.r[i]? = some (.own xs)) ∧ b s fun d s1 => ∃ xs j z, s1.r[i]? = some (.own xs) ∧ d = .int j ∧ atI xs j = some z ∧ Q z s1
theorem de_ixOwn {i : Nat} {x : Str} (h : PE X (.Name x p2) (tVar i)) (hb : DE X b tb db) (hs : PlainIx b) : DE X (.Subscript (.Name x p2) b pos) (tOp (rIxL X.K) (tVar i) tb) (dIxOwn i db) :=
  ⟨pe_ix ix_list h hb.pe hs, fun Y F H σ s Qd Q E q k => by
    obtain ⟨⟨ys, e0⟩, q⟩ := q
    obtain ⟨p0, _, e00, _, _⟩ := own_at E e0
    refine ⟨.ref p0, e00, hb.sn Y F H σ s _ _ E q fun v d F1 H1 s1 g1 E1 v1 q1 => ?_⟩
    obtain ⟨xs, j, z, e, rfl, ez, q1⟩ := q1
    cases v1
    obtain ⟨p, vs, e1, h1, h2⟩ := own_at E1 e
    rw [e00] at e1
    cases e1
    obtain ⟨w, e3, e4⟩ := h2.at ez
    exact ⟨p0, vs, j, w, rfl, rfl, SqL.of h1, e3, k _ _ F1 H1 s1 g1 E1 e4 q1⟩⟩
/-- xs.append(e), xs.pop(), xs.pop(e), xs.extend(e) -/
def dApp (i : Nat) (a : TD) : TD := fun s Q => (∃ xs, s.r[i]? = some (.own xs)) ∧ a s fun x s1 => ∃ xs, s1.r[i]? = some (.own xs) ∧ xs.length < sizeLine ∧ Q .none { s1 with r := s1.r.set i (.own (xs ++ [x])) }
theorem de_app {i : Nat} {x : Str} (h : PE X (.Name x p2) (tVar i)) (ha : DE X e te de)
    (hbase : attributeBase (.Name x p2) "append" X.env (eval (.Name x p2) X.env) = eval (.Name x p2) X.env := by rfl)
    (hfew : ((backTo pos (starEach [e] X.env)).all (fun x => !x.1) && (backToKw pos (keywordEach [] X.env)).all (fun x => x.1.isSome)
      && decide ([e].length + ([] : List Keyword).length + (if ([] : List Keyword).isEmpty then 0 else 1) < 30)) = true := by rfl)
    (hline : (apos.endLine == pos.line) = true := by rfl) (hs : starEach [e] X.env = (false, eval e X.env) :: starEach [] X.env := by rfl) (hplain : (backTo pos (starEach [] X.env)).any (·.1) = false := by rfl) :
    DE X (.Call (.Attribute (.Name x p2) "append" apos) [e] [] pos) (tBM X.K "list" rAppend (tVar i) (tCons te tNil)) (dApp i de) :=
  ⟨pe_bm F.plainAttrs_list F.slot_list_append F.type_list_append mt_append h (pa_cons ha.pe pa_nil hs) hbase hfew hline hs hplain, fun Y F H σ s Qd Q E q k => by
    obtain ⟨⟨ys, e0⟩, q⟩ := q
    obtain ⟨p0, us, e00, h00, _⟩ := own_at E e0
    refine ⟨.ref p0, e00, .inl ⟨rfl, us, SqL.of h00⟩, ha.sn Y F H σ s _ _ E q fun v d F1 H1 s1 g1 E1 v1 q1 => ?_⟩
    obtain ⟨xs, e, hz, q1⟩ := q1
    obtain ⟨p, vs, e1, h1, h2⟩ := own_at E1 e
    rw [e00] at e1
    cases e1
    exact ⟨p0, vs, v, rfl, rfl, h1, by rw [h2.len]; exact hz, k _ _ F1 _ _ g1 (E1.put e e00 (h2.app (.one v1))) .non q1⟩⟩
def dPop (i : Nat) : TD := fun s Q => ∃ xs y, s.r[i]? = some (.own (xs ++ [y])) ∧ Q y { s with r := s.r.set i (.own xs) }
theorem de_pop {i : Nat} {x : Str} (h : PE X (.Name x p2) (tVar i))
    (hbase : attributeBase (.Name x p2) "pop" X.env (eval (.Name x p2) X.env) = eval (.Name x p2) X.env := by rfl) (hline : (apos.endLine == pos.line) = true := by rfl) :
    DE X (.Call (.Attribute (.Name x p2) "pop" apos) [] [] pos) (tBM0 X.K "list" rPop (tVar i)) (dPop i) :=
  ⟨pe_bm0 F.plainAttrs_list F.slot_list_pop F.type_list_pop mt_pop h hbase hline, fun Y F H σ s Qd Q E q k => by
    obtain ⟨xs, y, e, q⟩ := q
    obtain ⟨p, vs, e1, h1, h2⟩ := own_at E e
    have hl := h2.len
    have hy : (xs ++ [y])[vs.length - 1]? = some y := by
      rw [hl, List.length_append]
      simp
    obtain ⟨v, e2, d2⟩ := h2.get hy
    have h3 : DtAll X.K F vs.dropLast xs := by
      have := h2.dropLast
      rw [List.dropLast_concat] at this
      exact this
    exact ⟨.ref p, e1, .inl ⟨rfl, vs, SqL.of h1⟩, p, vs, v, rfl, rfl, h1, e2, k _ _ F _ _ (Same.refl F) (E.put e e1 h3) d2 q⟩⟩
def dPopAt (i : Nat) (a : TD) : TD := fun s Q => (∃ xs, s.r[i]? = some (.own xs)) ∧ a s fun x s1 => ∃ (xs : List PyData) (j : Nat) (y : PyData), s1.r[i]? = some (.own xs) ∧ x = .int j ∧ xs[j]? = some y ∧ xs.length ≤ sizeLine ∧ Q y { s1 with r := s1.r.set i (.own (xs.eraseIdx j)) }
theorem de_popAt {i : Nat} {x : Str} (h : PE X (.Name x p2) (tVar i)) (ha : DE X e te de)
    (hbase : attributeBase (.Name x p2) "pop" X.env (eval (.Name x p2) X.env) = eval (.Name x p2) X.env := by rfl)
    (hfew : ((backTo pos (starEach [e] X.env)).all (fun x => !x.1) && (backToKw pos (keywordEach [] X.env)).all (fun x => x.1.isSome)
      && decide ([e].length + ([] : List Keyword).length + (if ([] : List Keyword).isEmpty then 0 else 1) < 30)) = true := by rfl)
    (hline : (apos.endLine == pos.line) = true := by rfl) (hs : starEach [e] X.env = (false, eval e X.env) :: starEach [] X.env := by rfl) (hplain : (backTo pos (starEach [] X.env)).any (·.1) = false := by rfl) :
    DE X (.Call (.Attribute (.Name x p2) "pop" apos) [e] [] pos) (tBM X.K "list" rPopAt (tVar i) (tCons te tNil)) (dPopAt i de) :=
  ⟨pe_bm F.plainAttrs_list F.slot_list_pop F.type_list_pop mt_popAt h (pa_cons ha.pe pa_nil hs) hbase hfew hline hs hplain, fun Y F H σ s Qd Q E q k => by
    obtain ⟨⟨ys, e0⟩, q⟩ := q
    obtain ⟨p0, us, e00, h00, _⟩ := own_at E e0
    refine ⟨.ref p0, e00, .inl ⟨rfl, us, SqL.of h00⟩, ha.sn Y F H σ s _ _ E q fun v d F1 H1 s1 g1 E1 v1 q1 => ?_⟩
    obtain ⟨xs, j, y, e, rfl, ey, hz, q1⟩ := q1
    cases v1
    obtain ⟨p, vs, e1, h1, h2⟩ := own_at E1 e
    rw [e00] at e1
    cases e1
    obtain ⟨w, e3, e4⟩ := h2.get ey
    have hl := h2.len
    have hj : j < xs.length := (List.getElem?_eq_some_iff.mp ey).1
    have hs : (sizeLine : Nat) = 16777216 := sizeLine_eq
    exact ⟨p0, vs, (j : Int), j, w, rfl, rfl, h1, by omega, by omega, by rw [seqIndex_of (by omega) (by rw [hl]; omega)]; simp, e3, k _ _ F1 _ _ g1 (E1.put e e00 (h2.erase j)) e4 q1⟩⟩
def dExt (i : Nat) (a : TD) : TD := fun s Q => (∃ xs, s.r[i]? = some (.own xs)) ∧ a s fun x s1 => ∃ xs ys, s1.r[i]? = some (.own xs) ∧ x = .list ys ∧ xs.length + ys.length ≤ sizeLine ∧ Q .none { s1 with r := s1.r.set i (.own (xs ++ ys)) }
theorem de_ext {i : Nat} {x : Str} (h : PE X (.Name x p2) (tVar i)) (ha : DE X e te de)
    (hbase : attributeBase (.Name x p2) "extend" X.env (eval (.Name x p2) X.env) = eval (.Name x p2) X.env := by rfl)
    (hfew : ((backTo pos (starEach [e] X.env)).all (fun x => !x.1) && (backToKw pos (keywordEach [] X.env)).all (fun x => x.1.isSome)
      && decide ([e].length + ([] : List Keyword).length + (if ([] : List Keyword).isEmpty then 0 else 1) < 30)) = true := by rfl)
    (hline : (apos.endLine == pos.line) = true := by rfl) (hs : starEach [e] X.env = (false, eval e X.env) :: starEach [] X.env := by rfl) (hplain : (backTo pos (starEach [] X.env)).any (·.1) = false := by rfl) :
    DE X (.Call (.Attribute (.Name x p2) "extend" apos) [e] [] pos) (tBM X.K "list" rExtend (tVar i) (tCons te tNil)) (dExt i de) :=
  ⟨pe_bm F.plainAttrs_list F.slot_list_extend F.type_list_extend mt_extend h (pa_cons ha.pe pa_nil hs) hbase hfew hline hs hplain, fun Y F H σ s Qd Q E q k => by
    obtain ⟨⟨ys, e0⟩, q⟩ := q
    obtain ⟨p0, us, e00, h00, _⟩ := own_at E e0
    refine ⟨.ref p0, e00, .inl ⟨rfl, us, SqL.of h00⟩, ha.sn Y F H σ s _ _ E q fun v d F1 H1 s1 g1 E1 v1 q1 => ?_⟩
    obtain ⟨xs, ys, e, rfl, hz, q1⟩ := q1
    obtain ⟨p, vs, e1, h1, h2⟩ := own_at E1 e
    rw [e00] at e1
    cases e1
    cases v1 with
    | @lst b ws _ h3 h4 => exact ⟨p0, b, vs, ws, rfl, rfl, h1, E1.fh _ _ h3, by rw [h2.len, h4.len]; exact hz, k _ _ F1 _ _ g1 (E1.put e e00 (h2.app h4)) .non q1⟩⟩
end
end DL

set_option Elab.async false
set_option linter.all false
set_option maxRecDepth 100000
set_option maxHeartbeats 4000000
namespace DL
open PySem PySem.Spec PyProof.Rows L2
structure DEnds where
  nx : DS → Prop
  rt : QD
  bk : DS → Prop := fun _ => False
  ct : DS → Prop := fun _ => False
abbrev TDS := DEnds → DS → Prop
structure Lift (K : PySem.W.Frag) (Y : Fx) (F : Hp) (Dd : DEnds) (D : Ends) : Prop where
  nx : ∀ F' H' σ' s', Same F F' → EnvOk K Y F' H' σ' s' → Dd.nx s' → D.nx σ' H'
  rt : ∀ v d F' H' σ' s', Same F F' → EnvOk K Y F' H' σ' s' → Dt K F' v d → Dd.rt d s' → D.rt v H'
  bk : ∀ F' H' σ' s', Same F F' → EnvOk K Y F' H' σ' s' → Dd.bk s' → D.bk σ' H'
  ct : ∀ F' H' σ' s', Same F F' → EnvOk K Y F' H' σ' s' → Dd.ct s' → D.ct σ' H'
def SnS (K : PySem.W.Frag) (t : TS) (td : TDS) : Prop := ∀ (Y : Fx) (F H : Hp) (σ : L2.St) (s : DS) (Dd : DEnds) (D : Ends), EnvOk K Y F H σ s → td Dd s → Lift K Y F Dd D → t D σ H
structure DSt (X : Cx) (st : Stmt) (t : TS) (td : TDS) : Prop where
  ps : PS X st t
  sn : SnS X.K t td
structure DSs (X : Cx) (st : List Stmt) (t : TS) (td : TDS) : Prop where
  ps : PSs X st t
  sn : SnS X.K t td
section
variable {K : PySem.W.Frag} {Y : Fx} {F F' H : Hp} {Dd : DEnds} {D : Ends}
theorem Lift.mono (L : Lift K Y F Dd D) (g : Same F F') : Lift K Y F' Dd D :=
  ⟨fun _ _ _ _ g' => L.nx _ _ _ _ (g.trans g'), fun _ _ _ _ _ _ g' => L.rt _ _ _ _ _ _ (g.trans g'), fun _ _ _ _ g' => L.bk _ _ _ _ (g.trans g'), fun _ _ _ _ g' => L.ct _ _ _ _ (g.trans g')⟩
end
section
variable {X : Cx} {st : Stmt} {rest sts : List Stmt} {t u tb : TS} {dt du dbd : TDS} {a b e o : Expr} {es : List Expr} {ta tb' te to : TE} {da db de : TD} {pos p p2 apos : Pos} {ts : TA} {ds : TDA}
def dNext : TDS := fun D s => D.nx s
def dSeq (t u : TDS) : TDS := fun D s => t { D with nx := u D } s
theorem dss_nil : DSs X [] tNext dNext := ⟨pss_nil, fun Y F H σ s Dd D E q L => L.nx F H σ s (Same.refl F) E q⟩
theorem dss_cons (h1 : DSt X st t dt) (h2 : DSs X rest u du) : DSs X (st :: rest) (tSeq t u) (dSeq dt du) :=
  ⟨pss_cons h1.ps h2.ps, fun Y F H σ s Dd D E q L => h1.sn Y F H σ s _ _ E q ⟨fun F' H' σ' s' g E' q' => h2.sn Y F' H' σ' s' Dd D E' q' (L.mono g), L.rt, L.bk, L.ct⟩⟩
theorem dss_one (h : DSt X st t dt) : DSs X [st] t dt := ⟨pss_one h.ps, h.sn⟩
theorem ds_pass : DSt X (.Pass pos) tNext dNext := ⟨ps_pass, fun Y F H σ s Dd D E q L => L.nx F H σ s (Same.refl F) E q⟩
def dDrop (a : TD) : TDS := fun D s => a s fun _ s1 => D.nx s1
theorem ds_expr (h : DE X e te de) (hs : swapsWith e none pos.line X.env = pure false := by rfl) : DSt X (.Expr e pos) (tDrop te) (dDrop de) :=
  ⟨ps_expr h.pe hs, fun Y F H σ s Dd D E q L => h.sn Y F H σ s _ _ E q fun v d F1 H1 s1 g1 E1 v1 q1 => L.nx F1 H1 σ s1 g1 E1 q1⟩
def dRet (a : TD) : TDS := fun D s => a s D.rt
theorem ds_ret (h : DE X e te de) : DSt X (.Return (some e) pos) (tRet te) (dRet de) :=
  ⟨ps_ret h.pe, fun Y F H σ s Dd D E q L => h.sn Y F H σ s _ _ E q fun v d F1 H1 s1 g1 E1 v1 q1 => L.rt v d F1 H1 σ s1 g1 E1 v1 q1⟩
def dRetN : TDS := fun D s => D.rt .none s
theorem ds_retN : DSt X (.Return none pos) tRetN dRetN := ⟨ps_retN, fun Y F H σ s Dd D E q L => L.rt _ _ F H σ s (Same.refl F) E .non q⟩
def dIfS (c : TDT) (t u : TDS) : TDS := fun D s => c s fun b s1 => if b = true then t D s1 else u D s1
theorem ds_if {c : Expr} {A B : List Stmt} {tc : TT} {dc : TDT} (hc : DT X c tc dc) (ha : DSs X A t dt) (hb : DSs X B u du) : DSt X (.If c A B pos) (tIfS tc t u) (dIfS dc dt du) :=
  ⟨ps_if hc.pt ha.ps hb.ps, fun Y F H σ s Dd D E q L => hc.sn Y F H σ s _ _ E q fun b F1 H1 s1 g1 E1 q1 => by
    cases b with
    | true =>
      rw [if_pos rfl] at q1 ⊢
      exact ha.sn Y F1 H1 σ s1 Dd D E1 q1 (L.mono g1)
    | false =>
      rw [if_neg Bool.false_ne_true] at q1 ⊢
      exact hb.sn Y F1 H1 σ s1 Dd D E1 q1 (L.mono g1)⟩
def dNever : TDS := fun _ _ => False
theorem ds_never : DSt X st tNever dNever := ⟨ps_never, fun _ _ _ _ _ _ _ _ q _ => q.elim⟩
theorem dss_never : DSs X sts tNever dNever := ⟨pss_never, fun _ _ _ _ _ _ _ _ q _ => q.elim⟩
/-! ### targets -/
abbrev TDG := PyData → DS → (DS → Prop) → Prop
abbrev TDGs := List PyData → DS → (DS → Prop) → Prop
structure DG (X : Cx) (tg : Expr) (g : TG) (gd : TDG) (is : List Nat) : Prop where
  pg : PG X tg g
  sn : ∀ (Y : Fx) (F H : Hp) (σ : L2.St) (s : DS) (v : V) (x : PyData) (Qd : DS → Prop) (Q : L2.St → Hp → Prop), EnvOk X.K Y F H σ s → Dt X.K F v x → gd x s Qd →
    (∀ F' H' σ' s', Same F F' → EnvOk X.K Y F' H' σ' s' → (∀ vs : List Nat, (∀ i ∈ is, i ∈ vs) → wipe σ' vs = wipe σ vs) → Qd s' → Q σ' H') → g v σ H Q
structure DGs (X : Cx) (tgs : List Expr) (g : TGs) (gd : TDGs) (is : List Nat) : Prop where
  pg : PGs X tgs g
  sn : ∀ (Y : Fx) (F H : Hp) (σ : L2.St) (s : DS) (vs : List V) (xs : List PyData) (Qd : DS → Prop) (Q : L2.St → Hp → Prop), EnvOk X.K Y F H σ s → DtAll X.K F vs xs → gd xs s Qd →
    (∀ F' H' σ' s', Same F F' → EnvOk X.K Y F' H' σ' s' → (∀ vs : List Nat, (∀ i ∈ is, i ∈ vs) → wipe σ' vs = wipe σ vs) → Qd s' → Q σ' H') → g vs σ H Q
theorem wipe_at {σ : L2.St} {j : Nat} : ∀ {vs : List Nat}, j ∉ vs → (wipe σ vs)[j]? = σ[j]?
  | [], _ => rfl
  | v :: vs, h => by
    unfold wipe
    rw [List.getElem?_set_ne (fun e => h (by rw [e]; exact List.mem_cons_self))]
    exact wipe_at fun q => h (List.mem_cons_of_mem _ q)
theorem wipe_in {σ : L2.St} {j : Nat} : ∀ {vs : List Nat}, j ∈ vs → j < σ.length → (wipe σ vs)[j]? = some none
  | v :: vs, h, hl => by
    unfold wipe
    by_cases e : v = j
    · subst e
      rw [List.getElem?_set_self (by rw [wipe_length]; exact hl)]
    · rw [List.getElem?_set_ne e]
      exact wipe_in (by rcases List.mem_cons.mp h with q | q; exact absurd q.symm e; exact q) hl
theorem wipe_set {σ : L2.St} {i : Nat} {x : Option V} {vs : List Nat} (h : i ∈ vs) : wipe (σ.set i x) vs = wipe σ vs := by
  refine List.ext_getElem? fun j => ?_
  by_cases hj : j ∈ vs
  · by_cases hl : j < σ.length
    · rw [wipe_in hj (by rw [List.length_set]; exact hl), wipe_in hj hl]
    · rw [List.getElem?_eq_none (by rw [wipe_length, List.length_set]; omega), List.getElem?_eq_none (by rw [wipe_length]; omega)]
  · rw [wipe_at hj, wipe_at hj, List.getElem?_set_ne fun e => hj (by rw [← e]; exact h)]
def gdName (i : Nat) : TDG := fun x s Q => Q { s with r := s.r.set i (.d x) }
theorem dg_name {i : Nat} {x : Str} (hN : X.N.Nodup) (hi : X.N[i]? = some x) (hx : Loc X.env.scope x) (hf : X.fn x = true ∨ X.env.scope.names.lookup x = some .local := by first | exact .inl rfl | exact .inr rfl | assumption) : DG X (.Name x pos) (gName i) (gdName i) [i] :=
  ⟨pg_name hN hi hx hf, fun Y F H σ s v x Qd Q E hv q k => k F H _ _ (Same.refl F) (E.set i hv) (fun vs hvs => wipe_set (hvs i List.mem_cons_self)) q⟩
def gdNil : TDGs := fun xs s Q => xs = [] ∧ Q s
def gdCons (g : TDG) (u : TDGs) : TDGs := fun xs s Q => ∃ y r, xs = y :: r ∧ g y s fun s' => u r s' Q
def gdTup (u : TDGs) : TDG := fun x s Q => ∃ xs, x = .tuple xs ∧ u xs s Q
theorem dgs_nil : DGs X [] gNil gdNil [] := ⟨pgs_nil, fun Y F H σ s vs xs Qd Q E hv q k => by
  obtain ⟨rfl, q⟩ := q
  cases hv
  exact ⟨rfl, k F H σ s (Same.refl F) E (fun _ _ => rfl) q⟩⟩
theorem dgs_cons {e : Expr} {es : List Expr} {g : TG} {gd : TDG} {u : TGs} {ud : TDGs} {is js : List Nat} (h1 : DG X e g gd is) (h2 : DGs X es u ud js) (hpg : (assignEach (e :: es) X.env).map (·.2) = assign e X.env :: (assignEach es X.env).map (·.2) := by rfl) : DGs X (e :: es) (gCons g u) (gdCons gd ud) (is ++ js) :=
  ⟨pgs_cons h1.pg h2.pg hpg, fun Y F H σ s vs xs Qd Q E hv q k => by
    obtain ⟨y, r, rfl, q⟩ := q
    cases hv with
    | cons v1 v2 =>
      refine ⟨_, _, rfl, h1.sn Y F H σ s _ y _ _ E v1 q fun F1 H1 σ1 s1 g1 E1 w1 q1 => ?_⟩
      exact h2.sn Y F1 H1 σ1 s1 _ r _ _ E1 (DtAll.mono g1 _ _ v2) q1 fun F2 H2 σ2 s2 g2 E2 w2 q2 =>
        k F2 H2 σ2 s2 (g1.trans g2) E2 (fun vs hvs => (w2 vs fun i hi => hvs i (List.mem_append_right _ hi)).trans (w1 vs fun i hi => hvs i (List.mem_append_left _ hi))) q2⟩
theorem gs_len {u : TDGs} {es : List Expr} {g : TGs} {is : List Nat} (h : DGs X es g u is) : True := trivial
theorem dg_tup {es : List Expr} {k1 : Nat} {g : TGs} {gd : TDGs} {n : Nat} {is : List Nat} (hc : X.calm = true) (h : DGs X es g gd is) (hlen : ∀ xs s Q, gd xs s Q → xs.length = n)
    (hn : (assignEach es X.env).length = n := by rfl) (hst : (assignEach es X.env).findIdx? (·.1) = none := by rfl) : DG X (.Tuple es k1 pos) (gTup X.K n g) (gdTup gd) is :=
  ⟨pg_tup hc h.pg hn hst, fun Y F H σ s v x Qd Q E hv q k => by
    obtain ⟨xs, rfl, q⟩ := q
    cases hv with
    | @tup a us _ h1 h2 =>
      exact ⟨a, us, rfl, sqT_mono E.fh h1, by rw [h2.len]; exact hlen _ _ _ q, h.sn Y F H σ s us xs _ _ E h2 q k⟩⟩
theorem gl_nil : ∀ xs s Q, gdNil xs s Q → xs.length = 0 := fun xs s Q h => by rw [h.1]; rfl
theorem gl_cons {i : Nat} {u : TDGs} {n : Nat} (h : ∀ xs s Q, u xs s Q → xs.length = n) : ∀ xs s Q, gdCons (gdName i) u xs s Q → xs.length = n + 1 := fun xs s Q q => by
  obtain ⟨y, r, rfl, q⟩ := q
  rw [List.length_cons, h r _ _ q]
/-! ### assignments -/
def dAsg (a : TD) (g : TDG) : TDS := fun D s => a s fun x s1 => g x s1 D.nx
theorem sn_asg {K : PySem.W.Frag} {X : Cx} {tg : Expr} {g : TG} {gd : TDG} {is : List Nat} (hK : X.K = K) (h : SnE K te de) (hg : DG X tg g gd is) : SnS K (tAsg te g) (dAsg de gd) := fun Y F H σ s Dd D E q L => by
  subst hK
  exact h Y F H σ s _ _ E q fun v d F1 H1 s1 g1 E1 v1 q1 => hg.sn Y F1 H1 σ s1 v d _ _ E1 v1 q1 fun F2 H2 σ2 s2 g2 E2 _ q2 => L.nx F2 H2 σ2 s2 (g1.trans g2) E2 q2
theorem sn_set {K : PySem.W.Frag} {i : Nat} (h : SnE K te de) : SnS K (tAsg te (gName i)) (dAsg de (gdName i)) := fun Y F H σ s Dd D E q L =>
  h Y F H σ s _ _ E q fun v d F1 H1 s1 g1 E1 v1 q1 => L.nx F1 H1 _ _ g1 (E1.set i v1) q1
theorem ds_set {i : Nat} {x : Str} {p' : Pos} (hN : X.N.Nodup) (hi : X.N[i]? = some x) (hx : Loc X.env.scope x) (he : DE X e te de) (hs : swapsWith e (some (.Name x p')) pos.line X.env = pure false := by rfl)
    (hf : X.fn x = true ∨ X.env.scope.names.lookup x = some .local := by first | exact .inl rfl | exact .inr rfl | assumption) : DSt X (.Assign [.Name x p'] e pos) (tAsg te (gName i)) (dAsg de (gdName i)) :=
  ⟨ps_set hN hi hx he.pe hs hf, sn_set he.sn⟩
def dSetOwn (i : Nat) (a : TDA) : TDS := fun D s => a s fun xs s1 => D.nx { s1 with r := s1.r.set i (.own xs) }
theorem sn_setOwn {K : PySem.W.Frag} {i : Nat} (h : SnF K te ds) : SnS K (tAsg te (gName i)) (dSetOwn i ds) := fun Y F H σ s Dd D E q L =>
  h Y F H σ s _ _ E q fun p xs F1 H1 s1 g1 E1 fr q1 => L.nx F1 H1 _ _ g1 (E1.setOwn i fr) q1
theorem ds_setOwn {i : Nat} {x : Str} {p' : Pos} (hN : X.N.Nodup) (hi : X.N[i]? = some x) (hx : Loc X.env.scope x) (he : DF X e te ds) (hs : swapsWith e (some (.Name x p')) pos.line X.env = pure false := by rfl)
    (hf : X.fn x = true ∨ X.env.scope.names.lookup x = some .local := by first | exact .inl rfl | exact .inr rfl | assumption) : DSt X (.Assign [.Name x p'] e pos) (tAsg te (gName i)) (dSetOwn i ds) :=
  ⟨ps_set hN hi hx he.pe hs hf, sn_setOwn he.sn⟩
theorem ds_asg {tg : Expr} {g : TG} {gd : TDG} {is : List Nat} (he : DE X e te de) (hg : DG X tg g gd is) (hs : swapsWithSole [tg] e pos.line X.env = pure false := by rfl) (hw : swappedStores [tg] e X.env = pure none := by rfl)
    (h1 : (assignEach [tg] X.env).map (·.2) = [assign tg X.env] := by rfl) : DSt X (.Assign [tg] e pos) (tAsg te g) (dAsg de gd) :=
  ⟨ps_asg he.pe hg.pg hs hw h1, sn_asg rfl he.sn hg⟩
/-- two at once -/
def dPar (i j : Nat) (a b : TD) : TDS := fun D s => a s fun x s1 => b s1 fun y s2 => D.nx { s2 with r := (s2.r.set i (.d x)).set j (.d y) }
theorem sn_par {K : PySem.W.Frag} {i j : Nat} (ha : SnE K ta da) (hb : SnE K tb' db) : SnS K (tPar i j (tCons ta (tCons tb' tNil))) (dPar i j da db) := fun Y F H σ s Dd D E q L =>
  ha Y F H σ s _ _ E q fun v d F1 H1 s1 g1 E1 v1 q1 => hb Y F1 H1 σ s1 _ _ E1 q1 fun w e F2 H2 s2 g2 E2 v2 q2 => ⟨v, w, rfl, L.nx F2 H2 _ _ (g1.trans g2) ((E2.set i (v1.mono g2)).set j v2) q2⟩
theorem ds_par {i j : Nat} {x y : Str} {px py pt : Pos} {kt k2 pt2} (hc : X.calm = true) (hN : X.N.Nodup) (hi : X.N[i]? = some x) (hj : X.N[j]? = some y) (hij : i ≠ j) (hx : X.env.scope.names.lookup x = some .local) (hy : X.env.scope.names.lookup y = some .local) (ha : DE X a ta da) (hb : DE X b tb' db) (hw : swappedStores [.Tuple [.Name x px, .Name y py] kt pt] (.Tuple [a, b] k2 pt2) X.env = pure (some [x, y]) := by rfl)
    (hs : swapsWithSole [.Tuple [.Name x px, .Name y py] kt pt] (.Tuple [a, b] k2 pt2) pos.line X.env = pure false := by rfl) (hs1 : starEach [a, b] X.env = (false, eval a X.env) :: starEach [b] X.env := by rfl) (hs2 : starEach [b] X.env = (false, eval b X.env) :: starEach [] X.env := by rfl) :
    DSt X (.Assign [.Tuple [.Name x px, .Name y py] kt pt] (.Tuple [a, b] k2 pt2) pos) (tPar i j (tCons ta (tCons tb' tNil))) (dPar i j da db) := ⟨ps_par hc hN hi hj hij hx hy (pa_cons ha.pe (pa_cons hb.pe pa_nil hs2) hs1) hw hs, sn_par ha.sn hb.sn⟩
def dPar3 (i j l : Nat) (a b c : TD) : TDS := fun D s => a s fun x s1 => b s1 fun y s2 => c s2 fun z s3 => D.nx { s3 with r := ((s3.r.set i (.d x)).set j (.d y)).set l (.d z) }
theorem ds_par3 {i j l : Nat} {c : Expr} {tc : TE} {dc : TD} {x y z : Str} {px py pz pt : Pos} {kt k2 pt2} (hcm : X.calm = true) (hN : X.N.Nodup) (hi : X.N[i]? = some x) (hj : X.N[j]? = some y) (hl : X.N[l]? = some z) (hij : i ≠ j) (hil : i ≠ l) (hjl : j ≠ l)
    (hx : X.env.scope.names.lookup x = some .local) (hy : X.env.scope.names.lookup y = some .local) (hz : X.env.scope.names.lookup z = some .local) (ha : DE X a ta da) (hb : DE X b tb' db) (hc : DE X c tc dc)
    (hw : swappedStores [.Tuple [.Name x px, .Name y py, .Name z pz] kt pt] (.Tuple [a, b, c] k2 pt2) X.env = pure (some [x, y, z]) := by rfl)
    (hs : swapsWithSole [.Tuple [.Name x px, .Name y py, .Name z pz] kt pt] (.Tuple [a, b, c] k2 pt2) pos.line X.env = pure false := by rfl)
    (hs1 : starEach [a, b, c] X.env = (false, eval a X.env) :: starEach [b, c] X.env := by rfl) (hs2 : starEach [b, c] X.env = (false, eval b X.env) :: starEach [c] X.env := by rfl) (hs3 : starEach [c] X.env = (false, eval c X.env) :: starEach [] X.env := by rfl) :
    DSt X (.Assign [.Tuple [.Name x px, .Name y py, .Name z pz] kt pt] (.Tuple [a, b, c] k2 pt2) pos) (tPar3 i j l (tCons ta (tCons tb' (tCons tc tNil)))) (dPar3 i j l da db dc) := ⟨ps_par3 hcm hN hi hj hl hij hil hjl hx hy hz (pa_cons ha.pe (pa_cons hb.pe (pa_cons hc.pe pa_nil hs3) hs2) hs1) hw hs, fun Y F H σ s Dd D E q L =>
  ha.sn Y F H σ s _ _ E q fun v d F1 H1 s1 g1 E1 v1 q1 => hb.sn Y F1 H1 σ s1 _ _ E1 q1 fun w e F2 H2 s2 g2 E2 v2 q2 => hc.sn Y F2 H2 σ s2 _ _ E2 q2 fun u f F3 H3 s3 g3 E3 v3 q3 =>
    ⟨v, w, u, rfl, L.nx F3 H3 _ _ ((g1.trans g2).trans g3) (((E3.set i ((v1.mono g2).mono g3)).set j (v2.mono g3)).set l v3) q3⟩⟩
/-! ### another footing: what stands at a point is the entry of what comes -/
def hide : Sl → Sl
  | .own _ => .un
  | x => x
theorem hide_not {x : Sl} {xs : List PyData} (h : hide x = .own xs) : False := by
  cases x <;> cases h
theorem get_hide {l : List Sl} {i : Nat} {x : Sl} (h : (l.map hide)[i]? = some x) : ∃ y, l[i]? = some y ∧ hide y = x := by
  rw [List.getElem?_map] at h
  cases q : l[i]? with
  | none => rw [q] at h; cases h
  | some y => rw [q] at h; exact ⟨y, rfl, Option.some.inj h⟩
theorem SlOk.hid {K : PySem.W.Frag} {z : Option (Addr × Addr)} {B B' F H : Hp} {o : Option (Option V)} : ∀ {x : Sl}, SlOk K z B F H o x → SlOk K z B' F H o (hide x)
  | .un, _ => trivial
  | .d x, h => h
  | .own xs, _ => trivial
  | .st, h => h
section
variable {K : PySem.W.Frag} {Y : Fx} {F H F2 H2 : Hp} {σ σ2 : L2.St} {s s2 : DS}
theorem EnvOk.based (E : EnvOk K Y F H σ s) {σ' : L2.St} {r' : List Sl} (hl : σ'.length = r'.length) (hs : ∀ (i : Nat) (x : Sl), r'[i]? = some x → SlOk K Y.z H F H σ'[i]? x) (ho : ∀ (i : Nat) (xs : List PyData), r'[i]? ≠ some (.own xs)) :
    EnvOk K ⟨Y.z, F, H⟩ F H σ' ⟨r', s.n⟩ := ⟨E.fh, Same.refl F, fun _ _ e => .inl e, fun _ _ e _ => e, E.st, hl, hs, fun i _ _ xs _ e _ _ _ => absurd e (ho i xs)⟩
theorem EnvOk.rebase (E : EnvOk K Y F H σ s) : EnvOk K ⟨Y.z, F, H⟩ F H σ ⟨s.r.map hide, s.n⟩ :=
  E.based (by rw [List.length_map]; exact E.ln) (fun i x e => by
    obtain ⟨y, e1, rfl⟩ := get_hide e
    exact (E.sl i y e1).hid) fun i xs e => by
    obtain ⟨y, e1, e2⟩ := get_hide e
    exact hide_not e2
theorem EnvOk.back (E : EnvOk K Y F H σ s) (E2 : EnvOk K ⟨Y.z, F, H⟩ F2 H2 σ2 s2) : EnvOk K Y F2 H2 σ ⟨s.r, s2.n⟩ :=
  E.grow (n := s2.n) E2.f0 (fun a u e w => E2.bh a u e w) E2.fh E2.fr E2.st
end
/-- x, y = [], e: the list one's own -/
def dParOwn (i j : Nat) (b : TD) : TDS := fun D s => b ⟨s.r.map hide, s.n⟩ fun y s2 => D.nx ⟨(s.r.set i (.own [])).set j (.d y), s2.n⟩
theorem ds_parOwn {i j : Nat} {pl : Pos} {x y : Str} {px py pt : Pos} {kt k2 pt2} (hc : X.calm = true) (hN : X.N.Nodup) (hi : X.N[i]? = some x) (hj : X.N[j]? = some y) (hij : i ≠ j) (hx : X.env.scope.names.lookup x = some .local) (hy : X.env.scope.names.lookup y = some .local) (hb : DE X b tb' db) (hw : swappedStores [.Tuple [.Name x px, .Name y py] kt pt] (.Tuple [.List [] pl, b] k2 pt2) X.env = pure (some [x, y]) := by rfl)
    (hs : swapsWithSole [.Tuple [.Name x px, .Name y py] kt pt] (.Tuple [.List [] pl, b] k2 pt2) pos.line X.env = pure false := by rfl) (hs1 : starEach [.List [] pl, b] X.env = (false, eval (.List [] pl) X.env) :: starEach [b] X.env := by rfl) (hs2 : starEach [b] X.env = (false, eval b X.env) :: starEach [] X.env := by rfl) :
    DSt X (.Assign [.Tuple [.Name x px, .Name y py] kt pt] (.Tuple [.List [] pl, b] k2 pt2) pos) (tPar i j (tCons (tLst tNil) (tCons tb' tNil))) (dParOwn i j db) :=
  ⟨ps_par hc hN hi hj hij hx hy (pa_cons (pe_lst pa_nil) (pa_cons hb.pe pa_nil hs2) hs1) hw hs, fun Y F H σ s Dd D E q L => by
    refine ⟨Nat.zero_le _, fun p hp => ?_⟩
    have E0 := E.alloc2 (.lst []) hp
    have fr := E.fresh hp (.nil : DtAll X.K F [] [])
    refine hb.sn _ F _ σ _ _ _ E0.rebase q fun w e F2 H2 s2 g2 E2 v2 q2 => ⟨.ref p, w, rfl, ?_⟩
    have E3 := E0.back E2
    have fr3 : Fresh X.K Y F2 H2 σ ⟨s.r, s2.n⟩ p [] := by
      refine ⟨⟨[], E2.bh p _ upd_same fr.2.2.2.1, .nil⟩, ?_, fr.2.2.1, fr.2.2.2.1, fr.2.2.2.2⟩
      cases z : F2 p with
      | none => rfl
      | some u =>
        rcases E2.fr p u z with z1 | z1
        · have z2 : F p = some u := z1
          have z3 := fr.2.1
          rw [z2] at z3
          cases z3
        · have z2 : (upd H p (.lst [])) p = none := z1
          rw [upd_same] at z2
          cases z2
    exact L.nx F2 H2 _ _ g2 ((E3.setOwn i fr3).set j v2) q2⟩
def dParOwn2 (i j : Nat) : TDS := fun D s => D.nx ⟨(s.r.set i (.own [])).set j (.own []), s.n⟩
theorem ds_parOwn2 {i j : Nat} {pl pl2 : Pos} {x y : Str} {px py pt : Pos} {kt k2 pt2} (hc : X.calm = true) (hN : X.N.Nodup) (hi : X.N[i]? = some x) (hj : X.N[j]? = some y) (hij : i ≠ j) (hx : X.env.scope.names.lookup x = some .local) (hy : X.env.scope.names.lookup y = some .local) (hw : swappedStores [.Tuple [.Name x px, .Name y py] kt pt] (.Tuple [.List [] pl, .List [] pl2] k2 pt2) X.env = pure (some [x, y]) := by rfl)
    (hs : swapsWithSole [.Tuple [.Name x px, .Name y py] kt pt] (.Tuple [.List [] pl, .List [] pl2] k2 pt2) pos.line X.env = pure false := by rfl) (hs1 : starEach [.List [] pl, .List [] pl2] X.env = (false, eval (.List [] pl) X.env) :: starEach [.List [] pl2] X.env := by rfl) (hs2 : starEach [.List [] pl2] X.env = (false, eval (.List [] pl2) X.env) :: starEach [] X.env := by rfl) :
    DSt X (.Assign [.Tuple [.Name x px, .Name y py] kt pt] (.Tuple [.List [] pl, .List [] pl2] k2 pt2) pos) (tPar i j (tCons (tLst tNil) (tCons (tLst tNil) tNil))) (dParOwn2 i j) :=
  ⟨ps_par hc hN hi hj hij hx hy (pa_cons (pe_lst pa_nil) (pa_cons (pe_lst pa_nil) pa_nil hs2) hs1) hw hs, fun Y F H σ s Dd D E q L => by
    refine ⟨Nat.zero_le _, fun p hp => ⟨Nat.zero_le _, fun p' hp' => ⟨.ref p, .ref p', rfl, ?_⟩⟩⟩
    have E0 := E.alloc2 (.lst []) hp
    have fr := E.fresh hp (.nil : DtAll X.K F [] [])
    have E1 := E0.alloc2 (.lst []) hp'
    have fr1 : Fresh X.K Y F (upd (upd H p (.lst [])) p' (.lst [])) σ s p [] := by
      obtain ⟨⟨vs, k1, k2⟩, k3⟩ := fr
      exact ⟨⟨vs, by rw [upd_ne (ne_of_none k1 hp')]; exact k1, k2⟩, k3⟩
    have E2 := E1.setOwn i fr1
    have np : p' ≠ p := fun z => by
      rw [z, upd_same] at hp'
      cases hp'
    have fr2 : Fresh X.K Y F (upd (upd H p (.lst [])) p' (.lst [])) (σ.set i (some (.ref p))) ⟨s.r.set i (.own []), s.n⟩ p' [] := by
      obtain ⟨k1, k2, k3, k4, k5⟩ := E0.fresh hp' (.nil : DtAll X.K F [] [])
      refine ⟨k1, k2, k3, k4, fun l xs e z => ?_⟩
      rcases get_set e with ⟨rfl, _, hl⟩ | ⟨ne, e⟩
      · rw [List.getElem?_set_self (by rw [E.ln]; exact hl)] at z
        cases z
        exact np rfl
      · rw [List.getElem?_set_ne (Ne.symm ne)] at z
        exact k5 l xs e z
    exact L.nx F _ _ _ (Same.refl F) (E2.setOwn j fr2) q⟩
/-! ### loops -/
abbrev TDI := DS → (List PyData → DS → Prop) → Prop
def Yld (K : PySem.W.Frag) (F' : Hp) (Yl : Nat → Hp → V → Hp → Prop) (items : List PyData) : Prop := ∀ (Y2 : Fx) (i : Nat) (x : V) (H2 H3 F2 : Hp) (σ2 : L2.St) (s2 : DS), i < items.length → Yl i H2 x H3 → Same F' F2 → EnvOk K Y2 F2 H2 σ2 s2 →
  ∃ F3 d, items[i]? = some d ∧ Same F2 F3 ∧ EnvOk K Y2 F3 H3 σ2 s2 ∧ Dt K F3 x d ∧ ∀ a o, H2 a = some o → H3 a = some o
structure DI (X : Cx) (tg iter : Expr) (wi : TI) (td : TDI) : Prop where
  pi : PI X tg iter wi
  sn : ∀ (Y : Fx) (F H : Hp) (σ : L2.St) (s : DS) (Qd : List PyData → DS → Prop) (R : It → Hp → Prop), EnvOk X.K Y F H σ s → td s Qd →
    (∀ J G Yl items F' H' s', Same F F' → EnvOk X.K Y F' H' σ s' → Walk J items.length G Yl → (∀ H2, Same F' H2 → G H2) → Yld X.K F' Yl items → Qd items s' → R J H') → wi σ H R
theorem DtAll.got {K : PySem.W.Frag} {F : Hp} {ds : List PyData} {vs : List V} {i : Nat} {x : V} (h : DtAll K F vs ds) (e : vs[i]? = some x) : ∃ d, ds[i]? = some d ∧ Dt K F x d := by
  have hi : i < vs.length := (List.getElem?_eq_some_iff.mp e).1
  rw [h.len] at hi
  obtain ⟨v, e1, e2⟩ := h.get (List.getElem?_eq_getElem hi)
  rw [e] at e1
  cases e1
  exact ⟨_, List.getElem?_eq_getElem hi, e2⟩
theorem yld_at {K : PySem.W.Frag} {F' : Hp} {xs : List V} {items : List PyData} (h : DtAll K F' xs items) : Yld K F' (YAt xs) items := fun Y2 i x H2 H3 F2 σ2 s2 hi hy g E => by
  obtain ⟨rfl, e⟩ := hy
  obtain ⟨d, e1, e2⟩ := h.got e
  exact ⟨F2, d, e1, Same.refl F2, E, e2.mono g, fun _ _ z => z⟩
def diL (t : TD) : TDI := fun s Q => t s fun x s1 => ∃ xs, x = .list xs ∧ Q xs s1
def diT (t : TD) : TDI := fun s Q => t s fun x s1 => ∃ xs, x = .tuple xs ∧ Q xs s1
variable {tg : Expr} {wi : TI} {g : TG} {gd : TDG} {ti : TDI} {is : List Nat}
theorem di_list (he : DE X e te de) : DI X tg e (iList X.K te) (diL de) := ⟨pi_list he.pe, fun Y F H σ s Qd R E q k => by
  refine he.sn Y F H σ s _ _ E q fun v d F1 H1 s1 g1 E1 v1 q1 => ?_
  obtain ⟨xs, rfl, q1⟩ := q1
  cases v1 with
  | @lst a us _ h1 h2 => exact ⟨a, rfl, ⟨us, SqL.of (E1.fh _ _ h1)⟩, k _ _ _ xs F1 H1 s1 g1 E1 (by rw [← h2.len]; exact walk_list) (fun H2 g2 => SqL.of (g2 _ _ h1)) (yld_at h2) q1⟩⟩
theorem di_tup (he : DE X e te de) : DI X tg e (iTup X.K te) (diT de) := ⟨pi_tup he.pe, fun Y F H σ s Qd R E q k => by
  refine he.sn Y F H σ s _ _ E q fun v d F1 H1 s1 g1 E1 v1 q1 => ?_
  obtain ⟨xs, rfl, q1⟩ := q1
  cases v1 with
  | @tup a us _ h1 h2 => exact ⟨a, rfl, ⟨us, sqT_mono E1.fh h1⟩, k _ _ _ xs F1 H1 s1 g1 E1 (by rw [← h2.len]; exact walk_tup) (fun H2 g2 => sqT_mono g2 h1) (yld_at h2) q1⟩⟩
/-- range(n) -/
def rngD (n : Nat) : List PyData := (List.range n).map fun i => .int (i : Nat)
def diRng (t : TDA) : TDI := fun s Q => t s fun xs s1 => ∃ j : Int, xs = [.int j] ∧ -(2 ^ 62) ≤ j ∧ j < 2 ^ 62 ∧ Q (rngD j.toNat) s1
theorem di_range {a : Expr} (hg : Gl X "range") (hm : X.mg "range" = none) (ha : DA X [a] ts ds) (hs : starEach [a] X.env = [(false, eval a X.env)] := by rfl) : DI X tg (.Call (.Name "range" p) [a] [] pos) (iRng1 ts) (diRng ds) := ⟨pi_range1 hg hm ha.pa hs, fun Y F H σ s Qd R E q k => by
  refine ha.sn Y F H σ s _ _ E q fun vs d F1 H1 s1 g1 E1 v1 q1 => ?_
  obtain ⟨j, rfl, h1, h2, q1⟩ := q1
  cases v1 with
  | cons w1 w2 =>
    cases w2
    cases w1
    refine ⟨j, rfl, h1, h2, k _ _ _ (rngD j.toNat) F1 H1 s1 g1 E1 (by unfold rngD; rw [List.length_map, List.length_range]; exact walk_range) (fun _ _ => trivial) (fun Y2 i x H2 H3 F2 σ2 s2 hi hy g E => ?_) q1⟩
    obtain ⟨rfl, rfl⟩ := hy
    refine ⟨F2, .int (0 + (i : Nat)), ?_, Same.refl F2, E, .int _, fun _ _ z => z⟩
    have hi2 : i < j.toNat := by
      unfold rngD at hi
      rw [List.length_map, List.length_range] at hi
      exact hi
    unfold rngD
    rw [List.getElem?_map, List.getElem?_range hi2, Int.zero_add]
    rfl⟩
def forGo (g : TDG) (tb : TDS) (D : DEnds) : List PyData → DS → Prop
  | [] => D.nx
  | x :: xs => fun s => g x s fun s' => tb { D with nx := forGo g tb D xs, ct := forGo g tb D xs, bk := D.nx } s'
def dFor (ti : TDI) (g : TDG) (tb : TDS) : TDS := fun D s => ti s fun items s1 => forGo g tb D items s1
theorem ds_for {iter : Expr} {body : List Stmt} (hp : PassesOwn (model X.prog X.w) X.A X.env X.xe) (hc : X.calm = true) (hi : DI X tg iter wi ti) (hg : DG X tg g gd is) (hb : DSs X body tb dbd)
    (hs : ∀ x, foldedSetIterable iter X.env x = pure x := by intro _; rfl) : DSt X (.For tg iter body [] pos) (tFor wi g tb) (dFor ti gd dbd) :=
  ⟨ps_for hp hc hi.pi hg.pg hb.ps hs, fun Y F H σ s Dd D E q L => by
    refine hi.sn Y F H σ s _ _ E q fun J G Yl items F1 H1 s1 g1 E1 w hG hY q1 => ?_
    refine for_it w (fun i σ' H' => ∃ F' s', Same F1 F' ∧ EnvOk X.K Y F' H' σ' s' ∧ forGo gd dbd Dd (items.drop i) s') ⟨F1, s1, Same.refl F1, E1, by rw [List.drop_zero]; exact q1⟩ (fun i σ' H' _ ⟨F', s', g', E', _⟩ => hG H' (g'.trans E'.fh)) ?_ ?_
    · rintro i x σ' H2 H3 hi ⟨F', s', g', E', q'⟩ hy
      obtain ⟨F3, d, e, g3, E3, v3, _⟩ := hY Y i x H2 H3 F' σ' s' hi hy g' E'
      have hd : items.drop i = d :: items.drop (i + 1) := by
        rw [List.drop_eq_getElem_cons hi]
        have : items[i] = d := by
          rw [List.getElem?_eq_getElem hi] at e
          exact Option.some.inj e
        rw [this]
      rw [hd] at q'
      refine hg.sn Y F3 H3 σ' s' x d _ _ E3 v3 q' fun F4 H4 σ4 s4 g4 E4 _ q4 => ?_
      have g14 : Same F1 F4 := (g'.trans g3).trans g4
      refine hb.sn Y F4 H4 σ4 s4 _ _ E4 q4 ⟨fun F5 H5 σ5 s5 g5 E5 q5 => ⟨F5, s5, g14.trans g5, E5, q5⟩, fun v d F5 H5 σ5 s5 g5 E5 v5 q5 => L.rt v d F5 H5 σ5 s5 ((g1.trans g14).trans g5) E5 v5 q5, fun F5 H5 σ5 s5 g5 E5 q5 => L.nx F5 H5 σ5 s5 ((g1.trans g14).trans g5) E5 q5, fun F5 H5 σ5 s5 g5 E5 q5 => ⟨F5, s5, g14.trans g5, E5, q5⟩⟩
    · rintro σ' H' ⟨F', s', g', E', q'⟩
      rw [List.drop_of_length_le (Nat.le_refl _)] at q'
      exact L.nx F' H' σ' s' (g1.trans g') E' q'⟩
/-- while, by a word and a measure -/
def dWhile (c : TDT) (tb : TDS) : TDS := fun D s => ∃ W : Nat → DS → Prop, (∃ m, W m s) ∧ ∀ m s, W m s →
  c s fun b s1 => if b = true then tb { D with nx := fun s' => ∃ m', m' < m ∧ W m' s', ct := fun s' => ∃ m', m' < m ∧ W m' s', bk := D.nx } s1 else D.nx s1
theorem ds_while {c : Expr} {body : List Stmt} {tc : TT} {dc : TDT} (hp : PassesOwn (model X.prog X.w) X.A X.env X.xe) (hc : DT X c tc dc) (hb : DSs X body tb dbd) : DSt X (.While c body [] pos) (tWhile tc tb) (dWhile dc dbd) :=
  ⟨ps_while hp hc.pt hb.ps, fun Y F H σ s Dd D E q L => by
    obtain ⟨W, ⟨m0, w0⟩, turn⟩ := q
    refine ⟨fun m σ' H' => ∃ F' s', Same F F' ∧ EnvOk X.K Y F' H' σ' s' ∧ W m s', ⟨m0, F, s, Same.refl F, E, w0⟩, ?_⟩
    rintro m σ' H' ⟨F', s', g', E', w'⟩
    refine hc.sn Y F' H' σ' s' _ _ E' (turn m s' w') fun b F1 H1 s1 g1 E1 q1 => ?_
    cases b with
    | true =>
      rw [if_pos rfl] at q1 ⊢
      have g01 := g'.trans g1
      refine ⟨fun σ2 H2 => ∃ F2 s2 m', m' < m ∧ Same F F2 ∧ EnvOk X.K Y F2 H2 σ2 s2 ∧ W m' s2, fun σ2 H2 ⟨F2, s2, m', h1, h2, h3, h4⟩ => ⟨m', h1, F2, s2, h2, h3, h4⟩, ?_⟩
      exact hb.sn Y F1 H1 σ' s1 _ _ E1 q1 ⟨fun F5 H5 σ5 s5 g5 E5 ⟨m', h1, h2⟩ => ⟨F5, s5, m', h1, g01.trans g5, E5, h2⟩, fun v d F5 H5 σ5 s5 g5 E5 v5 q5 => L.rt v d F5 H5 σ5 s5 (g01.trans g5) E5 v5 q5, fun F5 H5 σ5 s5 g5 E5 q5 => L.nx F5 H5 σ5 s5 (g01.trans g5) E5 q5, fun F5 H5 σ5 s5 g5 E5 ⟨m', h1, h2⟩ => ⟨F5, s5, m', h1, g01.trans g5, E5, h2⟩⟩
    | false =>
      rw [if_neg Bool.false_ne_true] at q1 ⊢
      exact L.nx F1 H1 σ' s1 (g'.trans g1) E1 q1⟩
/-! ### comprehensions -/
def wipeR (r : List Sl) : List Nat → List Sl
  | [] => r.map hide
  | v :: vs => (wipeR r vs).set v .un
def lcGo (g : TDG) (tt : TDT) (te : TD) (r : List Sl) (Q : List PyData → Nat → Prop) : List PyData → List PyData → Nat → Prop
  | [], acc, n => Q acc n
  | x :: xs, acc, n => g x ⟨r, n⟩ fun s2 => tt s2 fun b s3 => if b = true then te s3 fun y s4 => lcGo g tt te r Q xs (acc ++ [y]) s4.n else lcGo g tt te r Q xs acc s3.n
def dLc (ti : TDI) (g : TDG) (tt : TDT) (te : TD) (vs : List Nat) : TDA := fun s Q => ti s fun items s1 => items.length ≤ sizeLine ∧ lcGo g tt te (wipeR s1.r vs) (fun ys n => Q ys ⟨s1.r, n⟩) items [] s1.n
structure DTs (X : Cx) (ifs : List Expr) (t : TT) (td : TDT) : Prop where
  pt : PTs X ifs t
  sn : SnT X.K t td
def dYes : TDT := fun s Q => Q true s
theorem dts_nil : DTs X [] tYes dYes := ⟨pts_nil, fun Y F H σ s Qd Q E q k => k true F H s (Same.refl F) E q⟩
theorem dts_one {c : Expr} {t : TT} {td : TDT} (h : DT X c t td) : DTs X [c] t td := ⟨pts_one h.pt, h.sn⟩
theorem wipeR_len (r : List Sl) : ∀ vs, (wipeR r vs).length = r.length
  | [] => by unfold wipeR; rw [List.length_map]
  | v :: vs => by unfold wipeR; rw [List.length_set, wipeR_len r vs]
theorem EnvOk.block {K : PySem.W.Frag} {Y : Fx} {F H : Hp} {σ : L2.St} {s : DS} (E : EnvOk K Y F H σ s) (vs : List Nat) : EnvOk K ⟨Y.z, F, H⟩ F H (wipe σ vs) ⟨wipeR s.r vs, s.n⟩ := by
  have all : ∀ vs : List Nat, (∀ (i : Nat) (x : Sl), (wipeR s.r vs)[i]? = some x → SlOk K Y.z H F H (wipe σ vs)[i]? x) ∧ ∀ (i : Nat) (xs : List PyData), (wipeR s.r vs)[i]? ≠ some (.own xs) := by
    intro vs
    induction vs with
    | nil => exact ⟨E.rebase.sl, fun i xs e => by
        obtain ⟨y, e1, e2⟩ := get_hide e
        exact hide_not e2⟩
    | cons v vs ih =>
      refine ⟨fun i x e => ?_, fun i xs e => ?_⟩
      · unfold wipeR at e
        unfold wipe
        rcases get_set e with ⟨rfl, rfl, _⟩ | ⟨ne, e⟩
        · trivial
        · rw [List.getElem?_set_ne (Ne.symm ne)]
          exact ih.1 i x e
      · unfold wipeR at e
        rcases get_set e with ⟨_, q, _⟩ | ⟨_, e⟩
        · cases q
        · exact ih.2 i xs e
  exact E.based (by rw [wipe_length, wipeR_len]; exact E.ln) (all vs).1 (all vs).2
/-- the reading of a comprehension -/
theorem sn_lc {K : PySem.W.Frag} {vs : List Nat} {tt : TT} {dt : TDT} {wi : TI} {ti : TDI} {g : TG} {gd : TDG}
    (hi : ∀ (Y : Fx) (F H : Hp) (σ : L2.St) (s : DS) (Qd : List PyData → DS → Prop) (R : It → Hp → Prop), EnvOk K Y F H σ s → ti s Qd →
      (∀ J G Yl items F' H' s', Same F F' → EnvOk K Y F' H' σ s' → Walk J items.length G Yl → (∀ H2, Same F' H2 → G H2) → Yld K F' Yl items → Qd items s' → R J H') → wi σ H R)
    (hg : ∀ (Y : Fx) (F H : Hp) (σ : L2.St) (s : DS) (v : V) (x : PyData) (Qd : DS → Prop) (Q : L2.St → Hp → Prop), EnvOk K Y F H σ s → Dt K F v x → gd x s Qd →
      (∀ F' H' σ' s', Same F F' → EnvOk K Y F' H' σ' s' → wipe σ' vs = wipe σ vs → Qd s' → Q σ' H') → g v σ H Q)
    (ht : SnT K tt dt) (he : SnE K te de) : SnF K (tLc wi g tt te vs) (dLc ti gd dt de vs) := fun Y F H σ s Qd Q E q k => by
  refine hi Y F H σ s _ _ E q fun J G Yl items F1 H1 s1 g1 E1 w hG hY q1 => ?_
  intro D hD
  have E0 := E1.alloc2 (.lst []) hD
  have fr := E1.fresh hD (.nil : DtAll K F1 [] [])
  refine lc_it w (fun i H' => ∃ F' n acc, Same F1 F' ∧ EnvOk K Y F' H' σ ⟨s1.r, n⟩ ∧ Fresh K Y F' H' σ ⟨s1.r, n⟩ D acc ∧ acc.length ≤ i ∧ lcGo gd dt de (wipeR s1.r vs) (fun ys n => Qd ys ⟨s1.r, n⟩) (items.drop i) acc n)
    ⟨F1, s1.n, [], Same.refl F1, E0, fr, Nat.zero_le _, by rw [List.drop_zero]; exact q1.2⟩ (fun i H' _ ⟨F', n, acc, g', E', _⟩ => hG H' (g'.trans E'.fh)) ?_ ?_
  · rintro i x H2 H3 hi ⟨F', n, acc, g', E', fr', ha, q'⟩ hy
    obtain ⟨F3, d, e, g3, E3, v3, k3⟩ := hY Y i x H2 H3 F' σ _ hi hy g' E'
    have frK : ∀ {Fa Ha : Hp} {m : Nat}, Same F' Fa → (∀ a u, Fa a = some u → F' a = some u ∨ H2 a = none) → (∀ o, H2 D = some o → Ha D = some o) → Fresh K Y Fa Ha σ ⟨s1.r, m⟩ D acc := fun {Fa Ha m} a1 a2 a3 => by
      obtain ⟨⟨us, k1, k2⟩, k3, k4, k5, k6⟩ := fr'
      refine ⟨⟨us, a3 _ k1, DtAll.mono a1 _ _ k2⟩, ?_, k4, k5, k6⟩
      cases z : Fa D with
      | none => rfl
      | some u =>
        rcases a2 D u z with z1 | z1
        · rw [k3] at z1; cases z1
        · rw [k1] at z1; cases z1
    -- the yielded item, on the old footing: what stood stands, what is frozen anew was new
    obtain ⟨F3', d', e', g3', E3b, v3', k3'⟩ := hY ⟨Y.z, F', H2⟩ i x H2 H3 F' (wipe σ vs) _ hi hy g' (E'.block vs)
    have hd : items.drop i = d' :: items.drop (i + 1) := by
      rw [List.drop_eq_getElem_cons hi]
      have : items[i] = d' := by
        rw [List.getElem?_eq_getElem hi] at e'
        exact Option.some.inj e'
      rw [this]
    rw [hd] at q'
    refine hg ⟨Y.z, F', H2⟩ F3' H3 (wipe σ vs) _ x d' _ _ E3b v3' q' fun F4 H4 σ4 s4 g4 E4 hw q4 => ?_
    have hw2 : wipe (wipe σ vs) vs = wipe σ vs := by
      refine List.ext_getElem? fun j => ?_
      by_cases hj : j ∈ vs
      · by_cases hl : j < σ.length
        · rw [wipe_in hj (by rw [wipe_length]; exact hl), wipe_in hj hl]
        · rw [List.getElem?_eq_none (by rw [wipe_length, wipe_length]; omega), List.getElem?_eq_none (by rw [wipe_length]; omega)]
      · rw [wipe_at hj]
    refine ⟨hw.trans hw2, ?_⟩
    refine ht ⟨Y.z, F', H2⟩ F4 H4 σ4 s4 _ _ E4 q4 fun b F5 H5 s5 g5 E5 q5 => ?_
    have back : ∀ {Fa Ha : Hp} {σa : L2.St} {sa : DS}, EnvOk K ⟨Y.z, F', H2⟩ Fa Ha σa sa → EnvOk K Y Fa Ha σ ⟨s1.r, sa.n⟩ ∧ Fresh K Y Fa Ha σ ⟨s1.r, sa.n⟩ D acc := fun {Fa Ha σa sa} Ea =>
      ⟨E'.back Ea, frK Ea.f0 (fun a u z => by
        rcases Ea.fr a u z with z1 | z1
        · exact .inl z1
        · exact .inr z1) fun o z => Ea.bh D o z fr'.2.2.2.1⟩
    cases b with
    | true =>
      rw [if_pos rfl] at q5 ⊢
      refine he ⟨Y.z, F', H2⟩ F5 H5 σ4 s5 _ _ E5 q5 fun v y F6 H6 s6 g6 E6 v6 q6 => ?_
      obtain ⟨E7, fr7⟩ := back E6
      obtain ⟨⟨us, k1, k2⟩, k3, k4, k5, k6⟩ := fr7
      have hl : us.length ≤ i := by rw [k2.len]; exact ha
      refine ⟨us, k1, Nat.lt_of_le_of_lt hl (Nat.lt_of_lt_of_le hi q1.1), F6, s6.n, acc ++ [y], ?_, ?_, ⟨⟨us ++ [v], upd_same, k2.app (.one v6)⟩, k3, k4, k5, k6⟩, by rw [List.length_append, List.length_singleton]; omega, q6⟩
      · exact g'.trans E6.f0
      · -- the list at D is nobody's: writing it changes nothing that is known
        refine ⟨fun a o z => ?_, E7.f0, E7.fr, fun a o z wz => ?_, fun a l z => ?_, E7.ln, fun j z ez => ?_, E7.nd⟩
        · rw [upd_ne (ne_of_none z k3)]; exact E7.fh a o z
        · rw [upd_ne (ne_of_none z k4)]; exact E7.bh a o z wz
        · obtain ⟨m1, m2, m3, pc, cs, ls, m4, m5, m6⟩ := E7.st a l z
          have n1 : a ≠ D := fun w => k5 ⟨a, l, z, .inl w.symm⟩
          have n2 : l ≠ D := fun w => k5 ⟨a, l, z, .inr w.symm⟩
          exact ⟨m1, m2, m3, pc, cs, ls, by rw [upd_ne n1]; exact m4, by rw [upd_ne n2]; exact m5, m6⟩
        · have zz := E7.sl j z ez
          cases z with
          | un => trivial
          | d x => exact zz
          | st => exact zz
          | own zs =>
            obtain ⟨c, z1, ⟨ws, z2, z3⟩, z4⟩ := zz
            have nc : c ≠ D := fun w => k6 j zs ez (by rw [← w]; exact z1)
            exact ⟨c, z1, ⟨ws, by rw [upd_ne nc]; exact z2, z3⟩, z4⟩
    | false =>
      rw [if_neg Bool.false_ne_true] at q5 ⊢
      obtain ⟨E7, fr7⟩ := back E5
      exact ⟨F5, s5.n, acc, g'.trans E5.f0, E7, fr7, by omega, q5⟩
  · rintro H' ⟨F', n, acc, g', E', fr', ha, q'⟩
    rw [List.drop_of_length_le (Nat.le_refl _)] at q'
    exact k D acc F' H' _ (g1.trans g') E' fr' q'
theorem df_lc {elt tg iter : Expr} {ifs : List Expr} {scope : Scope} {own : List (Str × Nat)} {wi : TI} {ti : TDI} {g : TG} {gd : TDG} {is : List Nat} {tt : TT} {dt : TDT} (hc : X.calm = true) (hN : X.N.Nodup) (hi : DI X tg iter wi ti) (ok : BlkOk X.N X.env.scope scope own)
    (hg : ∀ (s : Shared) (H : Hp) (C : Addr) (cl : List (Str × Addr)) (fp : List Addr), DG (X.blk s H scope (compEnvC scope cl C X.env) fp) tg g gd is) (ht : ∀ (s : Shared) (H : Hp) (C : Addr) (cl : List (Str × Addr)) (fp : List Addr), DTs (X.blk s H scope (compEnvC scope cl C X.env) fp) ifs tt dt)
    (he : ∀ (s : Shared) (H : Hp) (C : Addr) (cl : List (Str × Addr)) (fp : List Addr), DE (X.blk s H scope (compEnvC scope cl C X.env) fp) elt te de) (hsub : ∀ i ∈ is, i ∈ own.map (·.2)) (hs : ∀ x, foldedSetIterable iter X.env x = pure x := by intro _; rfl) :
    DF X (.ListComp elt [⟨tg, iter, ifs, 0⟩] scope pos) (tLc wi g tt te (own.map (·.2))) (dLc ti gd dt de (own.map (·.2))) :=
  ⟨pe_lc hc hN hi.pi ok (fun s H C cl fp => (hg s H C cl fp).pg) (fun s H C cl fp => (ht s H C cl fp).pt) (fun s H C cl fp => (he s H C cl fp).pe) hs,
    sn_lc hi.sn (fun Y F H σ s v x Qd Q E hv q k => (hg {} H 0 [] []).sn Y F H σ s v x Qd Q E hv q fun F' H' σ' s' g' E' hw q' => k F' H' σ' s' g' E' (hw _ hsub) q') (ht {} (fun _ => none) 0 [] []).sn (he {} (fun _ => none) 0 [] []).sn⟩
/-- y = [..] on one line, y a local -/
theorem ds_setLc {i : Nat} {y : Str} {py : Pos} {elt tg iter : Expr} {ifs : List Expr} {scope : Scope} {own : List (Str × Nat)} {spos : Pos} {wi : TI} {ti : TDI} {g : TG} {gd : TDG} {is : List Nat} {tt : TT} {dt : TDT} (hc : X.calm = true) (hN : X.N.Nodup) (hy : X.N[i]? = some y) (hyl : X.env.scope.names.lookup y = some .local)
    (hsw : swapsWith (.ListComp elt [⟨tg, iter, ifs, 0⟩] scope pos) (some (.Name y py)) spos.line X.env = pure true) (hi : DI X tg iter wi ti) (ok : BlkOk X.N X.env.scope scope own)
    (hg : ∀ (s : Shared) (H : Hp) (C : Addr) (cl : List (Str × Addr)) (fp : List Addr), DG (X.blk s H scope (compEnvC scope cl C X.env) fp) tg g gd is) (ht : ∀ (s : Shared) (H : Hp) (C : Addr) (cl : List (Str × Addr)) (fp : List Addr), DTs (X.blk s H scope (compEnvC scope cl C X.env) fp) ifs tt dt)
    (he : ∀ (s : Shared) (H : Hp) (C : Addr) (cl : List (Str × Addr)) (fp : List Addr), DE (X.blk s H scope (compEnvC scope cl C X.env) fp) elt te de) (hsub : ∀ i ∈ is, i ∈ own.map (·.2)) (hs : ∀ x, foldedSetIterable iter X.env x = pure x := by intro _; rfl) :
    DSt X (.Assign [.Name y py] (.ListComp elt [⟨tg, iter, ifs, 0⟩] scope pos) spos) (tAsg (tLc wi g tt te (own.map (·.2))) (gName i)) (dAsg (dFrz (dLc ti gd dt de (own.map (·.2)))) (gdName i)) :=
  ⟨ps_setLc hc hN hy hyl hsw hi.pi ok (fun s H C cl fp => (hg s H C cl fp).pg) (fun s H C cl fp => (ht s H C cl fp).pt) (fun s H C cl fp => (he s H C cl fp).pe) hs, sn_set (sn_frz (df_lc (pos := pos) hc hN hi ok hg ht he hsub hs).sn)⟩
theorem ds_setOwnLc {i : Nat} {y : Str} {py : Pos} {elt tg iter : Expr} {ifs : List Expr} {scope : Scope} {own : List (Str × Nat)} {spos : Pos} {wi : TI} {ti : TDI} {g : TG} {gd : TDG} {is : List Nat} {tt : TT} {dt : TDT} (hc : X.calm = true) (hN : X.N.Nodup) (hy : X.N[i]? = some y) (hyl : X.env.scope.names.lookup y = some .local)
    (hsw : swapsWith (.ListComp elt [⟨tg, iter, ifs, 0⟩] scope pos) (some (.Name y py)) spos.line X.env = pure true) (hi : DI X tg iter wi ti) (ok : BlkOk X.N X.env.scope scope own)
    (hg : ∀ (s : Shared) (H : Hp) (C : Addr) (cl : List (Str × Addr)) (fp : List Addr), DG (X.blk s H scope (compEnvC scope cl C X.env) fp) tg g gd is) (ht : ∀ (s : Shared) (H : Hp) (C : Addr) (cl : List (Str × Addr)) (fp : List Addr), DTs (X.blk s H scope (compEnvC scope cl C X.env) fp) ifs tt dt)
    (he : ∀ (s : Shared) (H : Hp) (C : Addr) (cl : List (Str × Addr)) (fp : List Addr), DE (X.blk s H scope (compEnvC scope cl C X.env) fp) elt te de) (hsub : ∀ i ∈ is, i ∈ own.map (·.2)) (hs : ∀ x, foldedSetIterable iter X.env x = pure x := by intro _; rfl) :
    DSt X (.Assign [.Name y py] (.ListComp elt [⟨tg, iter, ifs, 0⟩] scope pos) spos) (tAsg (tLc wi g tt te (own.map (·.2))) (gName i)) (dSetOwn i (dLc ti gd dt de (own.map (·.2)))) :=
  ⟨ps_setLc hc hN hy hyl hsw hi.pi ok (fun s H C cl fp => (hg s H C cl fp).pg) (fun s H C cl fp => (ht s H C cl fp).pt) (fun s H C cl fp => (he s H C cl fp).pe) hs, sn_setOwn (df_lc (pos := pos) hc hN hi ok hg ht he hsub hs).sn⟩
def dCont : TDS := fun D s => D.ct s
theorem ds_cont : DSt X (.Continue pos) tCont dCont := ⟨ps_continue, fun Y F H σ s Dd D E q L => L.ct F H σ s (Same.refl F) E q⟩
end
end DL

set_option Elab.async false
set_option linter.all false
set_option maxRecDepth 100000
set_option maxHeartbeats 4000000
namespace DL
open PySem PySem.Spec PyProof.Rows L2
/-! ### promises -/
abbrev QN := PyData → Nat → Prop
/-- what a def is asked and gives: its data, the number of draws so far, what is wanted of its answer -/
abbrev DX := List PyData → Nat → QN → Prop
/-- a promise: m data handed in -/
structure Pm (m : Nat) (D : DX) : Prop where
  mono : ∀ ds n Q Q', (∀ d n', Q d n' → Q' d n') → D ds n Q → D ds n Q'
  len : ∀ ds n Q, D ds n Q → ds.length = m
/-- a function's promise -/
def pureD {α : Type} (enc : α → List PyData) (pre : α → Prop) (f : α → PyData) : DX := fun ds n Q => ∃ a, ds = enc a ∧ pre a ∧ Q (f a) n
theorem pm_pure {α : Type} {enc : α → List PyData} {pre : α → Prop} {f : α → PyData} {m : Nat} (h : ∀ a, (enc a).length = m) : Pm m (pureD enc pre f) :=
  ⟨fun ds n Q Q' k ⟨a, e, p, q⟩ => ⟨a, e, p, k _ _ q⟩, fun ds n Q ⟨a, e, _⟩ => by rw [e]; exact h a⟩
/-- any answer that is as it is said -/
def anyD {α : Type} (enc : α → List PyData) (pre : α → Nat → Prop) (post : α → Nat → PyData → Nat → Prop) : DX := fun ds n Q => ∃ a, ds = enc a ∧ pre a n ∧ ∀ d n', post a n d n' → Q d n'
theorem pm_any {α : Type} {enc : α → List PyData} {pre : α → Nat → Prop} {post : α → Nat → PyData → Nat → Prop} {m : Nat} (h : ∀ a, (enc a).length = m) : Pm m (anyD enc pre post) :=
  ⟨fun ds n Q Q' k ⟨a, e, p, q⟩ => ⟨a, e, p, fun d n' z => k _ _ (q d n' z)⟩, fun ds n Q ⟨a, e, _⟩ => by rw [e]; exact h a⟩
def stArg (z : Option (Addr × Addr)) (st : Bool) (vs us : List V) : Prop := if st = true then ∃ p l, z = some (p, l) ∧ vs = .ref p :: us else vs = us
def spD (K : PySem.W.Frag) (st : Bool) (m : Nat) (D : DX) : Sp := fun vs H Q _ => ∃ (z : Option (Addr × Addr)) (F : Hp) (n : Nat) (us : List V) (ds : List PyData), Same F H ∧ StAt z F H n ∧ stArg z st vs us ∧ us.length = m ∧ DtAll K F us ds ∧
  D ds n fun d n' => ∀ F' H' v, Same F F' → (∀ a o, H a = some o → ¬ Wr z a → H' a = some o) → Same F' H' → (∀ a o, F' a = some o → F a = some o ∨ H a = none) → StAt z F' H' n' → Dt K F' v d → Q v H'
theorem spD_len {K : PySem.W.Frag} {st : Bool} {m : Nat} {D : DX} {vs : List V} {H : Hp} {Q : VK} {E : XK} (h : spD K st m D vs H Q E) : vs.length = (if st = true then 1 else 0) + m := by
  obtain ⟨z, F, n, us, ds, _, _, h3, h4, _⟩ := h
  unfold stArg at h3
  cases st with
  | true =>
    rw [if_pos rfl] at h3
    obtain ⟨p, l, _, rfl⟩ := h3
    rw [if_pos rfl, List.length_cons, h4]
    omega
  | false =>
    rw [if_neg Bool.false_ne_true] at h3
    rw [if_neg Bool.false_ne_true, h3, h4]
    omega
section
variable {X : Cx} {e : Expr} {es : List Expr} {te : TE} {ta : TA} {de : TD} {da : TDA} {k : Nat} {f : Addr} {fd : FuncData} {ps : List Str} {m : Nat} {D : DX} {x y : Str} {p p2 pos : Pos}
def dCall (D : DX) (t : TDA) : TD := fun s Q => t s fun ds s1 => D ds s1.n fun d n' => Q d ⟨s1.r, n'⟩
theorem sn_call (K : PySem.W.Frag) (M : Pm m D) (h : SnA K ta da) : SnE K (tCall (spD K false m D) [] E0 ta) (dCall D da) := fun Y F H σ s Qd Q E q k =>
  h Y F H σ s _ _ E q fun vs ds F1 H1 s1 g1 E1 v1 q1 => by
    refine ⟨Y.z, F1, s1.n, vs, ds, E1.fh, E1.st, ?_, by rw [v1.len]; exact M.len _ _ _ q1, v1, M.mono _ _ _ _ (fun d n' qd F' H' v a1 a2 a3 a4 a5 a6 => ?_) q1⟩
    · unfold stArg
      rw [if_neg Bool.false_ne_true, List.append_nil]
    · exact k v d F' H' _ (g1.trans a1) (E1.grow (n := n') a1 a2 a3 a4 a5) a6 qd
theorem de_call (M : Pm m D) (G : FnOk X.prog X.w X.K X.mg X.base CX0 k f fd ps (spD X.K false m D)) (hr : Room k X.A) (hg : Gl X x) (hm : X.mg x = some (.ref f)) (hk : PySem.W.keepIn X.K (.ref f) = true) (hb : Binds X.K fd ps []) (ha : DA X (e :: es) ta da)
    (hdb : (x == ("__debug__" : Str)) = false := by decide) (he : starEach (e :: es) X.env = (false, eval e X.env) :: starEach es X.env := by rfl) (hpl : (backTo pos (starEach es X.env)).any (·.1) = false := by rfl) :
    DE X (.Call (.Name x p) (e :: es) [] pos) (tCall (spD X.K false m D) [] E0 ta) (dCall D da) :=
  ⟨pe_call G hr hg hm hk hb .nil pass0 ha.pa hdb he hpl, sn_call _ M ha.sn⟩
/-- the state handed on first -/
def dCallS (i : Nat) (D : DX) (t : TDA) : TD := fun s Q => s.r[i]? = some .st ∧ t s fun ds s1 => D ds s1.n fun d n' => Q d ⟨s1.r, n'⟩
theorem sn_callS (K : PySem.W.Frag) (i : Nat) (M : Pm m D) (h : SnA K ta da) : SnE K (tCall (spD K true m D) [] E0 (tCons (tVar i) ta)) (dCallS i D da) := fun Y F H σ s Qd Q E q k => by
  obtain ⟨e, q⟩ := q
  obtain ⟨p, l, ez, es⟩ := E.sl i _ e
  refine ⟨.ref p, es, h Y F H σ s _ _ E q fun vs ds F1 H1 s1 g1 E1 v1 q1 => ?_⟩
  refine ⟨Y.z, F1, s1.n, vs, ds, E1.fh, E1.st, ?_, by rw [v1.len]; exact M.len _ _ _ q1, v1, M.mono _ _ _ _ (fun d n' qd F' H' v a1 a2 a3 a4 a5 a6 => ?_) q1⟩
  · unfold stArg
    rw [if_pos rfl, List.append_nil]
    exact ⟨p, l, ez, rfl⟩
  · exact k v d F' H' _ (g1.trans a1) (E1.grow (n := n') a1 a2 a3 a4 a5) a6 qd
theorem de_callS {i : Nat} (M : Pm m D) (G : FnOk X.prog X.w X.K X.mg X.base CX0 k f fd ps (spD X.K true m D)) (hr : Room k X.A) (hg : Gl X x) (hm : X.mg x = some (.ref f)) (hk : PySem.W.keepIn X.K (.ref f) = true) (hb : Binds X.K fd ps []) (hv : PE X (.Name y p2) (tVar i)) (ha : DA X es ta da)
    (hdb : (x == ("__debug__" : Str)) = false := by decide) (he : starEach (.Name y p2 :: es) X.env = (false, eval (.Name y p2) X.env) :: starEach es X.env := by rfl) (hpl : (backTo pos (starEach es X.env)).any (·.1) = false := by rfl) :
    DE X (.Call (.Name x p) (.Name y p2 :: es) [] pos) (tCall (spD X.K true m D) [] E0 (tCons (tVar i) ta)) (dCallS i D da) :=
  ⟨pe_call G hr hg hm hk hb .nil pass0 (pa_cons hv ha.pa he) hdb he hpl, sn_callS _ i M ha.sn⟩
end
/-! ### a def keeps its promise -/
def ends (Q : QN) : DEnds := { nx := fun s => Q .none s.n, rt := fun d s => Q d s.n }
def entry (st : Bool) (N : List Str) (ds : List PyData) (n : Nat) : DS := ⟨(if st = true then [.st] else []) ++ ds.map .d ++ List.replicate (N.length - ((if st = true then 1 else 0) + ds.length)) .un, n⟩
abbrev FnP (K : PySem.W.Frag) (x : Str) (st : Stmt) (f : Addr) (fd : FuncData) : Prop := FunD K x x (defArgs st) (defBody st) (defScope st) [] [] f fd
theorem EnvOk.atStart {K : PySem.W.Frag} {z : Option (Addr × Addr)} {F H : Hp} {n : Nat} {us vs : List V} {ds : List PyData} {st : Bool} {N : List Str} (fh : Same F H) (hz : StAt z F H n) (hst : stArg z st vs us) (hd : DtAll K F us ds) (hl : vs.length ≤ N.length) :
    EnvOk K ⟨z, F, H⟩ F H (start N vs) (entry st N ds n) := by
  have hlen := hd.len
  have key : ∃ hv : List Sl, (if st = true then [Sl.st] else []) ++ ds.map Sl.d = hv ∧ hv.length = vs.length ∧ ∀ (i : Nat) (x : Sl), hv[i]? = some x → SlOk K z H F H ((vs.map some)[i]?) x ∧ ∀ xs, x ≠ .own xs := by
    have base : ∀ (i : Nat) (x : Sl), (ds.map Sl.d)[i]? = some x → SlOk K z H F H ((us.map some)[i]?) x ∧ ∀ xs, x ≠ .own xs := fun i x e => by
      rw [List.getElem?_map] at e
      cases q : ds[i]? with
      | none => rw [q] at e; cases e
      | some d =>
        rw [q] at e
        cases e
        obtain ⟨v, e1, e2⟩ := hd.get q
        exact ⟨⟨v, by rw [List.getElem?_map, e1]; rfl, e2⟩, fun xs z => nomatch z⟩
    unfold stArg at hst
    cases st with
    | true =>
      rw [if_pos rfl] at hst ⊢
      obtain ⟨p, l, ez, rfl⟩ := hst
      refine ⟨_, rfl, by simp [hlen], fun i x e => ?_⟩
      cases i with
      | zero =>
        cases e
        exact ⟨⟨p, l, ez, rfl⟩, fun xs z => nomatch z⟩
      | succ i => exact base i x e
    | false =>
      rw [if_neg Bool.false_ne_true] at hst ⊢
      subst hst
      exact ⟨_, rfl, by simp [hlen], base⟩
  obtain ⟨hv, e1, e2, e3⟩ := key
  have e4 : (if st = true then 1 else 0) + ds.length = hv.length := by
    rw [← e1, List.length_append, List.length_map]
    cases st <;> rfl
  have eE : entry st N ds n = ⟨hv ++ List.replicate (N.length - hv.length) .un, n⟩ := by
    unfold entry
    rw [e1, e4]
  rw [eE]
  unfold L2.start
  have all : ∀ (i : Nat) (x : Sl), (hv ++ List.replicate (N.length - hv.length) Sl.un)[i]? = some x → (SlOk K z H F H ((vs.map some ++ List.replicate (N.length - vs.length) none)[i]?) x ∧ ∀ xs, x ≠ .own xs) := fun i x e => by
    by_cases hi : i < hv.length
    · rw [List.getElem?_append_left hi] at e
      rw [List.getElem?_append_left (by rw [List.length_map, ← e2]; exact hi)]
      exact e3 i x e
    · rw [List.getElem?_append_right (by omega), List.getElem?_replicate] at e
      split at e
      · cases e
        exact ⟨trivial, fun xs z => nomatch z⟩
      · cases e
  exact ⟨fh, Same.refl F, fun _ _ e => .inl e, fun _ _ e _ => e, hz, by simp [e2], fun i x e => (all i x e).1, fun i j p xs ys e _ _ _ => absurd rfl ((all i _ e).2 xs)⟩
section
variable {P : Program} {w : World} {K : PySem.W.Frag} {mg : Str → Option Value} {base : Heap}
theorem fnD {x : Str} {st : Stmt} {f : Addr} {fd : FuncData} {N ps : List Str} {k m : Nat} {b : Bool} {D : DX} (F : FnP K x st f fd) (S : FnScope N ps (defScope st)) (hps : ps.length = (if b = true then 1 else 0) + m)
    (hbody : ∀ (cdv : Value) (A : Around) (outer : List Env) (s : Shared) (H : Hp) (E : XK), Room k (A.deeper (envOfC x (defScope st) s.heap.objs.size f cdv)) →
      ∃ t td, DSs (cxOf CX0 P w K mg base N x (defScope st) f cdv A outer s H E).nox (defBody st) t td ∧ ∀ ds n Q, D ds n Q → td (ends Q) (entry b N ds n)) : FnOk P w K mg base CX0 (k + 1) f fd ps (spD K b m D) := by
  refine F.ok S (fun vs H Q E h => by rw [spD_len h, hps]) (fun cdv A outer s H vs Q E hr h => ?_)
  obtain ⟨t, td, hd, hq⟩ := hbody cdv A outer s H E hr
  refine ⟨t, hd.ps.nox, ?_⟩
  have hlen := spD_len h
  obtain ⟨z, F0, n, us, ds, h1, h2, h3, h4, h5, h6⟩ := h
  have hpl : ps.length ≤ N.length := by have := congrArg List.length S.pre; rw [List.length_take] at this; omega
  refine hd.sn ⟨z, F0, H⟩ F0 H (start N vs) (entry b N ds n) _ _ (EnvOk.atStart h1 h2 h3 h5 (by omega)) (hq ds n _ h6) ⟨fun F' H' σ' s' g E' q => ?_, fun v d F' H' σ' s' g E' hv q => ?_, fun F' H' σ' s' g E' q => q.elim, fun F' H' σ' s' g E' q => q.elim⟩
  · exact q F' H' .non E'.f0 E'.bh E'.fh E'.fr E'.st .non
  · exact q F' H' v E'.f0 E'.bh E'.fh E'.fr E'.st hv
end
end DL

set_option Elab.async false
set_option linter.all false
set_option maxRecDepth 100000
set_option maxHeartbeats 4000000
namespace DL
open PySem PySem.Spec PyProof.Rows L2
/-! ### the text's defs, by their names -/
structure Okd (P : Program) (w : World) (K : PySem.W.Frag) (mg : Str → Option Value) (base : Heap) (k : Nat) (x : Str) (ps : List Str) (b : Bool) (m : Nat) (D : DX) : Prop where
  ex : ∃ fd, mg x = some (.ref (He.ga K x)) ∧ PySem.W.keepIn K (.ref (He.ga K x)) = true ∧ Binds K fd ps [] ∧ FnOk P w K mg base CX0 k (He.ga K x) fd ps (spD K b m D)
section
variable {X : Cx} {e : Expr} {es : List Expr} {te : TE} {ta : TA} {de : TD} {da : TDA} {k : Nat} {ps : List Str} {m : Nat} {D : DX} {x y : Str} {p p2 pos : Pos}
theorem de_callO (O : Okd X.prog X.w X.K X.mg X.base k x ps false m D) (M : Pm m D) (hr : Room k X.A) (hg : Gl X x) (ha : DA X (e :: es) ta da)
    (hdb : (x == ("__debug__" : Str)) = false := by decide) (he : starEach (e :: es) X.env = (false, eval e X.env) :: starEach es X.env := by rfl) (hpl : (backTo pos (starEach es X.env)).any (·.1) = false := by rfl) :
    DE X (.Call (.Name x p) (e :: es) [] pos) (tCall (spD X.K false m D) [] E0 ta) (dCall D da) := by
  obtain ⟨fd, h1, h2, h3, h4⟩ := O.ex
  exact de_call M h4 hr hg h1 h2 h3 ha hdb he hpl
theorem de_callOS {i : Nat} (O : Okd X.prog X.w X.K X.mg X.base k x ps true m D) (M : Pm m D) (hr : Room k X.A) (hg : Gl X x) (hv : PE X (.Name y p2) (tVar i)) (ha : DA X es ta da)
    (hdb : (x == ("__debug__" : Str)) = false := by decide) (he : starEach (.Name y p2 :: es) X.env = (false, eval (.Name y p2) X.env) :: starEach es X.env := by rfl) (hpl : (backTo pos (starEach es X.env)).any (·.1) = false := by rfl) :
    DE X (.Call (.Name x p) (.Name y p2 :: es) [] pos) (tCall (spD X.K true m D) [] E0 (tCons (tVar i) ta)) (dCallS i D da) := by
  obtain ⟨fd, h1, h2, h3, h4⟩ := O.ex
  exact de_callS M h4 hr hg h1 h2 h3 hv ha hdb he hpl
/-- name op= e -/
def dAug (i : Nat) (a : TD) (rd : RD) : TDS := fun D s => ∃ x, s.r[i]? = some (.d x) ∧ a s fun y s1 => rd x y fun z => D.nx { s1 with r := s1.r.set i (.d z) }
theorem ds_aug {i : Nat} {op : Operator} {r : R2} {rd : RD} {pos' : Pos} (hN : X.N.Nodup) (hi : X.N[i]? = some x) (hx : Loc X.env.scope x) (he : DE X e te de) (ho : DR X (inplaceOp op) r rd) (hf : X.fn x = true ∨ X.env.scope.names.lookup x = some .local := by first | exact .inl rfl | exact .inr rfl | assumption) :
    DSt X (.AugAssign (.Name x pos') op e pos) (tAug i te r) (dAug i de rd) :=
  ⟨ps_aug hN hi hx he.pe ho.op hf, fun Y F H σ s Dd D E q L => by
    obtain ⟨x, e1, q⟩ := q
    obtain ⟨v, es, hv⟩ := E.sl i _ e1
    refine ⟨v, es, he.sn Y F H σ s _ _ E q fun u y F1 H1 s1 g1 E1 v1 q1 => ?_⟩
    exact ho.sn Y F1 H1 σ s1 v u x y _ _ E1 (hv.mono g1) v1 q1 fun w z F2 H2 g2 E2 v2 q2 => L.nx F2 H2 _ _ (g1.trans g2) (E2.set i v2) q2⟩
def addR2 : RD := fun d e k => match d, e with
  | .int i, .int j => k (.int (i + j))
  | .str a, .str b => a.length + b.length ≤ sizeLine ∧ k (.str (a ++ b))
  | _, _ => False
theorem ob_iadd : DR X (inplaceOp .Add) (fun x y H Q => rAddI x y H Q ∨ rAddS x y H Q) addR2 := by
  refine ⟨OpR.or iop_add iop_add_str, fun Y F H σ s x y d e k Q E hx hy h q => ?_⟩
  cases hx with
  | int i =>
    cases hy with
    | int j => exact .inl ⟨i, j, rfl, rfl, q _ _ F H (Same.refl F) E (.int _) h⟩
    | _ => exact h.elim
  | str i =>
    cases hy with
    | str j => exact .inr ⟨i, j, rfl, rfl, h.1, q _ _ F H (Same.refl F) E (.str _) h.2⟩
    | _ => exact h.elim
  | _ => exact h.elim
theorem ob_isub : DR X (inplaceOp .Sub) (rI0 fun i j => .int (i - j)) subR := by
  refine ⟨iop_sub, fun Y F H σ s x y d e k Q E hx hy h q => ?_⟩
  cases hx with
  | int i =>
    cases hy with
    | int j => exact ⟨i, j, rfl, rfl, q _ _ F H (Same.refl F) E (.int _) h⟩
    | _ => exact h.elim
  | _ => exact h.elim
end
section
variable {X : Cx} {a b e : Expr} {ta tb te : TE} {da db de : TD} {pos : Pos} {x : Str}
theorem de_gint {i : Int} (hg : Gl X x) (h : ∃ t, X.mg x = some (.int i t)) (hdb : (x == ("__debug__" : Str)) = false := by decide) : DE X (.Name x pos) (tC (.int i)) (dC (.int i)) := by
  obtain ⟨t, h⟩ := h
  exact de_glob hg h ⟨t, rfl⟩ (fun _ => .int i) hdb
theorem de_gstr {z : Str} (hg : Gl X x) (h : ∃ t, X.mg x = some (.str z t)) (hdb : (x == ("__debug__" : Str)) = false := by decide) : DE X (.Name x pos) (tC (.str z)) (dC (.str z)) := by
  obtain ⟨t, h⟩ := h
  exact de_glob hg h ⟨t, rfl⟩ (fun _ => .str z) hdb
theorem de_gtup {d : PyData} {p : Addr} (hg : Gl X x) (h : X.mg x = some (.ref p) ∧ ∀ F, Dt X.K F (.ref p) d) (hdb : (x == ("__debug__" : Str)) = false := by decide) : DE X (.Name x pos) (tC (.ref p)) (dC d) :=
  de_glob hg h.1 rfl h.2 hdb
/-- -e -/
def dNeg (a : TD) : TD := fun s Q => a s fun x s1 => ∃ i, x = .int i ∧ Q (.int (-i)) s1
theorem de_neg (ha : DE X a ta da) : DE X (.UnaryOp .USub a pos) (tUn (rU fun i => .int (-i)) ta) (dNeg da) :=
  ⟨pe_un un_neg ha.pe, fun Y F H σ s Qd Q E q k => ha.sn Y F H σ s _ _ E q fun v d F1 H1 s1 g1 E1 v1 q1 => by
    obtain ⟨i, rfl, q1⟩ := q1
    cases v1
    exact ⟨i, rfl, k _ _ F1 H1 s1 g1 E1 (.int _) q1⟩⟩
/-- x in xs, x not in xs, xs one's own, as tests -/
theorem dt_notinOwn {i : Nat} {p2 : Pos} (hu : X.A.units + 65 < cLine) (h : PE X (.Name x p2) (tVar i)) (ha : DE X a ta da) (hm : behindInMarks .NotIn (.Name x p2) = false := by rfl) : DT X (.Compare a [.NotIn] [.Name x p2] pos) (tTest (tOp (rNotInD X.K) ta (tVar i))) (dTest (dInOwn true i da)) :=
  ⟨pt_cmpR (op_notInD hu) ha.pe h hm, sn_test (de_notinOwn (pos := pos) hu h ha hm).sn⟩
theorem dt_inOwn {i : Nat} {p2 : Pos} (hu : X.A.units + 65 < cLine) (h : PE X (.Name x p2) (tVar i)) (ha : DE X a ta da) (hm : behindInMarks .In (.Name x p2) = false := by rfl) : DT X (.Compare a [.In] [.Name x p2] pos) (tTest (tOp (rInD X.K) ta (tVar i))) (dTest (dInOwn false i da)) :=
  ⟨pt_cmpR (op_inD hu) ha.pe h hm, sn_test (de_inOwn (pos := pos) hu h ha hm).sn⟩
end
theorem bb_len : bootBuiltins "len" = some (.builtin "len") := by decide +kernel
theorem bb_any : bootBuiltins "any" = some (.builtin "any") := by decide +kernel
theorem bb_max : bootBuiltins "max" = some (.builtin "max") := by decide +kernel
theorem bb_min : bootBuiltins "min" = some (.builtin "min") := by decide +kernel
theorem bb_sorted : bootBuiltins "sorted" = some (.builtin "sorted") := by decide +kernel
theorem bb_repr : bootBuiltins "repr" = some (.builtin "repr") := by decide +kernel
theorem bb_isi : bootBuiltins "isinstance" = some (.builtin "isinstance") := by decide +kernel
theorem bb_int : bootBuiltins "int" = some (.type "int") := by decide +kernel
theorem bb_str : bootBuiltins "str" = some (.type "str") := by decide +kernel
theorem bb_tuple : bootBuiltins "tuple" = some (.type "tuple") := by decide +kernel
theorem bb_list : bootBuiltins "list" = some (.type "list") := by decide +kernel
theorem bb_bool : bootBuiltins "bool" = some (.type "bool") := by decide +kernel
theorem bb_dict : bootBuiltins "dict" = some (.type "dict") := by decide +kernel
end DL

set_option Elab.async false
set_option linter.all false
set_option maxRecDepth 100000
set_option maxHeartbeats 4000000
namespace PySem.W
open PySem PySem.SeqAt PyProof.Rows
section
variable {prog : Program} {w : World} {A : Around} {E : Value → Shared → Prop} {s : Shared}
theorem two_reads {h : Heap} {a b : Value} {x y : PyData} {as bs : List Addr} (ra : Reads h a x as) (rb : Reads h b y bs) : ∃ cs, ReadsAll h (#[a, b] : Array Value).toList [x, y] cs := ⟨_, .cons ra (.cons rb .nil)⟩
/-- max(a, b) of two data that are alike -/
theorem max_two_data {a b : Value} {x y : PyData} {as bs : List Addr} {Q : Value → Shared → Prop} (hh : A.handled = none) (ra : Reads s.heap a x as) (rb : Reads s.heap b y bs) (ha : AlikeAll [x, y]) (hu : A.units + 1 + PyData.depthAll [x, y] < cLine)
    (h : ∀ h' tk, (∀ b o, s.heap.get? b = some o → h'.get? b = some o) → Q (if dataLt x y then b else a) { s with heap := h', toks := tk }) :
    wpAny (model prog w) A (call (.builtin "max") [a, b]) Q E s := by
  have hname : (toString "max" ++ toString ".loop" : String) = "max.loop" := by decide
  refine call_function_tree F.kind_max F.plain_max F.entry_max (F.args_max2 _ _) ?_
  show wpAny _ A.in1 (Builtin.Builtins.bindParams "max" ["key", "default"] 0 ⟨[], []⟩ >>= _) _ _ s
  refine wpAny_bind (wpAny_of_eq (show Builtin.Builtins.bindParams "max" ["key", "default"] 0 ⟨[], []⟩ = pure [none, none] from rfl) ?_)
  show wpAny _ A.in1 (newTuple [a, b] >>= _) _ _ s
  refine wpAny_bind (wpAny_newObj_type ?_ (by show 2 ≤ sizeLine; decide))
  generalize es : ({ s with heap := s.heap.push { cls := .type "tuple", data := .seq [a, b].toArray } } : Shared) = s1
  have kp : ∀ c o, s.heap.get? c = some o → s1.heap.get? c = some o := fun c o e => by rw [← es]; exact Heap.get?_push_of_some _ e
  have hT : s1.heap.IsTuple s.heap.objs.size #[a, b] := by rw [← es]; exact ⟨_, Heap.get?_push_size _ rfl, rfl, 0, rfl⟩
  obtain ⟨cs, hr⟩ := two_reads (reads_keeps kp ra) (reads_keeps kp rb)
  refine wpAny_bind (wpAny_mono (iter_tupleW (A := A.in1) hh hT fun s₂ e W st hfp hw hk => ?_) (fun it s₂ h₂ => h₂) fun _ _ e => e)
  refine wpAny_bind (wpAny_newObj_type ?_ (by show 0 ≤ sizeLine; decide))
  have hSf : s₂.heap.objs.size ∉ [s1.heap.objs.size, s.heap.objs.size] := fun hm => Nat.lt_irrefl _ (hfp _ hm)
  rw [hname]
  refine wpAny_pure ⟨plainId_quiet F.plain_max_loop _, codeAny_max_loop_firstH W s1.heap hw _ (cmpIn_gt (A := A.in1) hr ha (by show A.units + 1 + _ < _; exact hu)) s₂.heap.objs.size hSf (fresh_in hk) _ (by show 0 < 2; decide) (fun b o e => Heap.get?_push_of_some _ (hk b o e)) (W.frame 0 s₂ _ s₂.toks st (Nat.le_refl _) fun b _ o e => Heap.get?_push_of_some _ e) (Heap.get?_push_size _ rfl) fun v s' hP hm => ?_⟩
  obtain ⟨h', tk, rfl, hk'⟩ := moved_old e rfl (Moved.drop_new (tk := s₂.toks) hm (Nat.le_refl _))
  have hv : v = if dataLt x y then b else a := by
    have hP' : (#[a, b] : Array Value)[argBest (fun i j => dataLt ([x, y].getD j .none) ([x, y].getD i .none)) 1]? = some v := hP
    by_cases q : dataLt x y = true
    · have e : argBest (fun i j => dataLt ([x, y].getD j .none) ([x, y].getD i .none)) 1 = 1 := by
        show (if dataLt x y = true then 1 else 0) = 1
        rw [if_pos q]
      rw [e] at hP'
      rw [if_pos q]
      exact (Option.some.inj hP').symm
    · have e : argBest (fun i j => dataLt ([x, y].getD j .none) ([x, y].getD i .none)) 1 = 0 := by
        show (if dataLt x y = true then 1 else 0) = 0
        rw [if_neg q]
      rw [e] at hP'
      rw [if_neg q]
      exact (Option.some.inj hP').symm
  rw [hv, ← es]
  exact h h' tk fun c o z => hk' c o (kp c o z)
/-- min(a, b) of two data that are alike -/
theorem min_two_data {a b : Value} {x y : PyData} {as bs : List Addr} {Q : Value → Shared → Prop} (hh : A.handled = none) (ra : Reads s.heap a x as) (rb : Reads s.heap b y bs) (ha : AlikeAll [x, y]) (hu : A.units + 1 + PyData.depthAll [x, y] < cLine)
    (h : ∀ h' tk, (∀ b o, s.heap.get? b = some o → h'.get? b = some o) → Q (if dataLt y x then b else a) { s with heap := h', toks := tk }) :
    wpAny (model prog w) A (call (.builtin "min") [a, b]) Q E s := by
  have hname : (toString "min" ++ toString ".loop" : String) = "min.loop" := by decide
  refine call_function_tree F.kind_min F.plain_min F.entry_min (F.args_min2 _ _) ?_
  show wpAny _ A.in1 (Builtin.Builtins.bindParams "min" ["key", "default"] 0 ⟨[], []⟩ >>= _) _ _ s
  refine wpAny_bind (wpAny_of_eq (show Builtin.Builtins.bindParams "min" ["key", "default"] 0 ⟨[], []⟩ = pure [none, none] from rfl) ?_)
  show wpAny _ A.in1 (newTuple [a, b] >>= _) _ _ s
  refine wpAny_bind (wpAny_newObj_type ?_ (by show 2 ≤ sizeLine; decide))
  generalize es : ({ s with heap := s.heap.push { cls := .type "tuple", data := .seq [a, b].toArray } } : Shared) = s1
  have kp : ∀ c o, s.heap.get? c = some o → s1.heap.get? c = some o := fun c o e => by rw [← es]; exact Heap.get?_push_of_some _ e
  have hT : s1.heap.IsTuple s.heap.objs.size #[a, b] := by rw [← es]; exact ⟨_, Heap.get?_push_size _ rfl, rfl, 0, rfl⟩
  obtain ⟨cs, hr⟩ := two_reads (reads_keeps kp ra) (reads_keeps kp rb)
  refine wpAny_bind (wpAny_mono (iter_tupleW (A := A.in1) hh hT fun s₂ e W st hfp hw hk => ?_) (fun it s₂ h₂ => h₂) fun _ _ e => e)
  refine wpAny_bind (wpAny_newObj_type ?_ (by show 0 ≤ sizeLine; decide))
  have hSf : s₂.heap.objs.size ∉ [s1.heap.objs.size, s.heap.objs.size] := fun hm => Nat.lt_irrefl _ (hfp _ hm)
  rw [hname]
  refine wpAny_pure ⟨plainId_quiet F.plain_min_loop _, codeAny_min_loop_firstH W s1.heap hw _ (cmpIn_lt (A := A.in1) hr ha (by show A.units + 1 + _ < _; exact hu)) s₂.heap.objs.size hSf (fresh_in hk) _ (by show 0 < 2; decide) (fun b o e => Heap.get?_push_of_some _ (hk b o e)) (W.frame 0 s₂ _ s₂.toks st (Nat.le_refl _) fun b _ o e => Heap.get?_push_of_some _ e) (Heap.get?_push_size _ rfl) fun v s' hP hm => ?_⟩
  obtain ⟨h', tk, rfl, hk'⟩ := moved_old e rfl (Moved.drop_new (tk := s₂.toks) hm (Nat.le_refl _))
  have hv : v = if dataLt y x then b else a := by
    have hP' : (#[a, b] : Array Value)[argBest (fun i j => dataLt ([x, y].getD i .none) ([x, y].getD j .none)) 1]? = some v := hP
    by_cases q : dataLt y x = true
    · have e : argBest (fun i j => dataLt ([x, y].getD i .none) ([x, y].getD j .none)) 1 = 1 := by
        show (if dataLt y x = true then 1 else 0) = 1
        rw [if_pos q]
      rw [e] at hP'
      rw [if_pos q]
      exact (Option.some.inj hP').symm
    · have e : argBest (fun i j => dataLt ([x, y].getD i .none) ([x, y].getD j .none)) 1 = 0 := by
        show (if dataLt y x = true then 1 else 0) = 0
        rw [if_neg q]
      rw [e] at hP'
      rw [if_neg q]
      exact (Option.some.inj hP').symm
  rw [hv, ← es]
  exact h h' tk fun c o z => hk' c o (kp c o z)
end
end PySem.W
namespace DL
open PySem PySem.Spec PyProof.Rows L2
open PySem.W (alike dataLt)
section
variable {X : Cx}
/-! ### < <= > >= of data that are alike -/
def cmpR (f : PyData → PyData → Bool) : RD := fun d e k => alike d e = true ∧ d ≠ .none ∧ d.depth ≤ 60 ∧ k (.bool (f d e))
def ltR : RD := cmpR fun d e => dataLt d e
def gtR : RD := cmpR fun d e => dataLt e d
def leR : RD := cmpR fun d e => !dataLt e d
def geR : RD := cmpR fun d e => !dataLt d e
def rCmp (K : PySem.W.Frag) (f : PyData → PyData → Bool) : R2 := fun x y H Q => ∃ d e, Dp K H x d ∧ Dp K H y e ∧ alike d e = true ∧ d ≠ .none ∧ d.depth ≤ 60 ∧ Q (.bl (f d e)) H
theorem ob_cmp {op : CmpOp} {f : PyData → PyData → Bool} (hu : X.A.units + 64 < cLine)
    (rule : ∀ (s : Shared) (a b : Value) (d e : PyData) (as bs : List Addr) (Q : Value → Shared → Prop), Reads s.heap a d as → Reads s.heap b e bs → alike d e = true → d ≠ .none → X.A.units + min d.depth e.depth < cLine → Q (.bool (f d e)) s → wpAny (model X.prog X.w) X.A (compareOp op a b) Q X.xe s) :
    DR X (compareOp op) (rCmp X.K f) (cmpR f) := by
  refine ⟨fun pins s σ H x y v u Q I rx ry h => ?_, fun Y F H σ s x y d e k Q E hx hy h q => ⟨d, e, dp_of E.fh hx, dp_of E.fh hy, h.1, h.2.1, h.2.2.1, q _ _ F H (Same.refl F) E (.bl _) h.2.2.2⟩⟩
  obtain ⟨d, e, hd, he, h1, h2, h3, q⟩ := h
  obtain ⟨as, r1⟩ := Dp.reads I d x v hd rx
  obtain ⟨bs, r2⟩ := Dp.reads I e y u he ry
  exact rule s v u d e as bs _ r1 r2 h1 h2 (by have := Nat.min_le_left d.depth e.depth; omega) ⟨.bl _, H, I, rfl, q⟩
theorem ob_lt (hu : X.A.units + 64 < cLine) : DR X (compareOp .Lt) (rCmp X.K fun d e => dataLt d e) ltR := ob_cmp hu fun _ _ _ _ _ _ _ _ r1 r2 h1 h2 h3 q => PySem.W.lt_data r1 r2 h1 h2 h3 q
theorem ob_gt (hu : X.A.units + 64 < cLine) : DR X (compareOp .Gt) (rCmp X.K fun d e => dataLt e d) gtR := ob_cmp hu fun _ _ _ _ _ _ _ _ r1 r2 h1 h2 h3 q => PySem.W.gt_data r1 r2 h1 h2 h3 q
theorem ob_le (hu : X.A.units + 64 < cLine) : DR X (compareOp .LtE) (rCmp X.K fun d e => !dataLt e d) leR := ob_cmp hu fun _ _ _ _ _ _ _ _ r1 r2 h1 h2 h3 q => PySem.W.le_data r1 r2 h1 h2 h3 q
theorem ob_ge (hu : X.A.units + 64 < cLine) : DR X (compareOp .GtE) (rCmp X.K fun d e => !dataLt d e) geR := ob_cmp hu fun _ _ _ _ _ _ _ _ r1 r2 h1 h2 h3 q => PySem.W.ge_data r1 r2 h1 h2 h3 q
/-! ### max and min of two -/
def bestR (g : PyData → PyData → Bool) : RC := fun ds k => ∃ d e, ds = [d, e] ∧ PySem.W.AlikeAll [d, e] ∧ PyData.depthAll [d, e] ≤ 60 ∧ k (if g d e = true then e else d)
def max2R : RC := bestR fun d e => dataLt d e
def min2R : RC := bestR fun d e => dataLt e d
def rBest (K : PySem.W.Frag) (g : PyData → PyData → Bool) : List V → Hp → VK → Prop := fun xs H Q => ∃ (x y : V) (d e : PyData), xs = [x, y] ∧ Dp K H x d ∧ Dp K H y e ∧ PySem.W.AlikeAll [d, e] ∧ PyData.depthAll [d, e] ≤ 60 ∧ Q (if g d e = true then y else x) H
theorem sn_best {K : PySem.W.Frag} {g : PyData → PyData → Bool} : SnC K (rBest K g) (bestR g) := fun Y F H σ s xs ds k Q E hv h q => by
  obtain ⟨d, e, rfl, h1, h2, h3⟩ := h
  cases hv with
  | cons v1 v2 =>
    cases v2 with
    | cons v2 v3 =>
      cases v3
      refine ⟨_, _, d, e, rfl, dp_of E.fh v1, dp_of E.fh v2, h1, h2, ?_⟩
      by_cases z : g d e = true
      · rw [if_pos z] at h3 ⊢
        exact q _ _ F H (Same.refl F) E v2 h3
      · rw [if_neg z] at h3 ⊢
        exact q _ _ F H (Same.refl F) E v1 h3
theorem db_max2 (hc : X.calm = true) (hu : X.A.units + 64 < cLine) : DB X (.builtin "max") (rBest X.K fun d e => dataLt d e) max2R := by
  refine ⟨fun pins s σ H xs us Q I r h => ?_, sn_best⟩
  obtain ⟨x, y, d, e, rfl, hd, he, h1, h2, q⟩ := h
  obtain ⟨u, v, rfl, r1, r2⟩ := vals2 r
  obtain ⟨as, k1⟩ := Dp.reads I d x u hd r1
  obtain ⟨bs, k2⟩ := Dp.reads I e y v he r2
  refine PySem.W.max_two_data (I.ok.hd hc) k1 k2 h1 (by omega) fun h' tk kp => ?_
  by_cases z : dataLt d e = true
  · rw [if_pos z] at q ⊢
    exact ⟨y, H, I.kept kp, r2, q⟩
  · rw [if_neg z] at q ⊢
    exact ⟨x, H, I.kept kp, r1, q⟩
theorem db_min2 (hc : X.calm = true) (hu : X.A.units + 64 < cLine) : DB X (.builtin "min") (rBest X.K fun d e => dataLt e d) min2R := by
  refine ⟨fun pins s σ H xs us Q I r h => ?_, sn_best⟩
  obtain ⟨x, y, d, e, rfl, hd, he, h1, h2, q⟩ := h
  obtain ⟨u, v, rfl, r1, r2⟩ := vals2 r
  obtain ⟨as, k1⟩ := Dp.reads I d x u hd r1
  obtain ⟨bs, k2⟩ := Dp.reads I e y v he r2
  refine PySem.W.min_two_data (I.ok.hd hc) k1 k2 h1 (by omega) fun h' tk kp => ?_
  by_cases z : dataLt e d = true
  · rw [if_pos z] at q ⊢
    exact ⟨y, H, I.kept kp, r2, q⟩
  · rw [if_neg z] at q ⊢
    exact ⟨x, H, I.kept kp, r1, q⟩
end
end DL

set_option Elab.async false
set_option linter.all false
set_option maxRecDepth 100000
set_option maxHeartbeats 4000000
namespace L2
open PySem PySem.Spec PyProof.Rows
/-! tuple * 1, tuple * 0 -/
theorem tuple_mul1 (l : Addr) (items : Array Value) (n : Nat) (dd : Option Addr) (sl : Array (Option Value)) (u : Tok) :
    Meets (Builtin.«tuple.__mul__» ⟨[.ref l, .int 1 u], []⟩) (fun _ R s => s.heap.get? l = some { cls := .type "tuple", dict := dd, data := .seq items n, slots := sl } ∧ R (.ok (.ret (Value.ref l))) s) :=
  .of_wp fun prog w A R s h => by
    obtain ⟨hp, g, d, tk, os⟩ := s
    obtain ⟨hl, h⟩ := h
    have f1 := AutoSeq1.idx_int
    wp_walk using wpAny_loadPart' hl
    repeat (first
      | (refine wpAny_ite_false (decide_eq_false (by decide)) ?_; wp_walk using wpAny_loadPart' hl)
      | (refine wpAny_ite_true (decide_eq_true (by simp)) ?_; wp_walk using wpAny_loadPart' hl))
    exact ⟨_, rfl, h⟩
theorem tuple_mul0 (l : Addr) (items : Array Value) (n : Nat) (dd : Option Addr) (sl : Array (Option Value)) (u : Tok) (hi : items.isEmpty = false) :
    Meets (Builtin.«tuple.__mul__» ⟨[.ref l, .int 0 u], []⟩) (fun _ R s => s.heap.get? l = some { cls := .type "tuple", dict := dd, data := .seq items n, slots := sl } ∧
      R (.ok (.ret (Value.ref s.heap.objs.size))) { s with heap := s.heap.push { cls := Value.type "tuple", data := Data.seq #[] }, toks := s.toks }) :=
  .of_wp fun prog w A R s h => by
    obtain ⟨hp, g, d, tk, os⟩ := s
    obtain ⟨hl, h⟩ := h
    have f1 := AutoSeq1.idx_int
    wp_walk using wpAny_loadPart' hl
    repeat (first
      | (refine wpAny_ite_false (decide_eq_false (by simp [hi])) ?_; wp_walk using wpAny_loadPart' hl)
      | (refine wpAny_ite_true (decide_eq_true (by simp)) ?_; wp_walk using wpAny_loadPart' hl))
    exact ⟨_, rfl, h⟩
end L2
namespace L2
open PySem PySem.Spec PyProof.Rows
def rRepS (K : PySem.W.Frag) : R2 := fun x y H Q => ∃ l k xs, x = .ref l ∧ y = .int k ∧ SqT K H l xs ∧ xs ≠ [] ∧ 0 ≤ k ∧ k ≤ 1000 ∧ xs.length ≤ 1000 ∧ (k = 1 → Q (.ref l) H) ∧ (k ≠ 1 → ∀ p, H p = none → Q (.ref p) (upd H p (.tup (List.replicate k.toNat xs).flatten)))
section
variable {X : Cx}
theorem op_repS : OpR X (binaryOp .Mult) (rRepS X.K) := by
  intro pins s σ H x y v u Q I rx ry h
  obtain ⟨l, k, xs, rfl, rfl, hT, hne, h1, h2, hz, q1, q2⟩ := h
  by_cases hk : 2 ≤ k
  · exact op_repT pins s σ H _ _ v u Q I rx ry ⟨l, k, xs, rfl, rfl, hT, hne, hk, h2, hz, q2 (by omega)⟩
  cases rx
  obtain ⟨t, rfl⟩ := ry
  obtain ⟨its, r, ⟨⟨cls, dd, data, sl⟩, ho, hc, n, hd⟩, hs⟩ := I.tuple hT
  simp only at hc hd
  subst hc hd
  have hle : its.length = xs.length := r.length.symm
  have hn : its ≠ [] := fun e => hne (by
    rw [e] at hle
    exact List.eq_nil_of_length_eq_zero hle.symm)
  have hi : its.toArray.isEmpty = false := by
    cases its with
    | nil => exact absurd rfl hn
    | cons a b => rfl
  have hk2 : k = 0 ∨ k = 1 := by omega
  rcases hk2 with rfl | rfl
  · refine wpAny_binaryOp_repeat_ref (T := "tuple") (U := "int") (by decide) ⟨_, ho, rfl⟩ (fun s' => typeIs_int s' 0 t) noFill_tuple_mul F.fills_int_mul F.slot_int_rmul repeat_tuple F.slot_int_index.lookup
      (call_meets F.slot_int_rmul (typeIs_int s 0 t) F.entry_int_rmul (F.args_int_rmul_2 _ _) (int_rmul_tuple 0 t l its.toArray n dd sl)
        ⟨ho, rfl, ⟨_, ho, rfl⟩, call_meets F.slot_tuple_mul ⟨_, ho, rfl⟩ F.entry_tuple_mul (F.args_tuple_mul_2 _ _) (tuple_mul0 l its.toArray n dd sl t hi) ⟨ho, ?_⟩⟩)
    have q := q2 (by decide) s.heap.objs.size (I.hok.fresh (Nat.le_refl _))
    refine ⟨.ref s.heap.objs.size, _, I.laid (t' := s.toks) (o := .tup []) (fun b ob q => Heap.get?_push_of_some _ q) (Nat.le_refl _) ?_, rfl, q⟩
    exact ⟨Nat.zero_le _, _, .nil, IsTup.new _ _⟩
  · refine wpAny_binaryOp_repeat_ref (T := "tuple") (U := "int") (by decide) ⟨_, ho, rfl⟩ (fun s' => typeIs_int s' 1 t) noFill_tuple_mul F.fills_int_mul F.slot_int_rmul repeat_tuple F.slot_int_index.lookup
      (call_meets F.slot_int_rmul (typeIs_int s 1 t) F.entry_int_rmul (F.args_int_rmul_2 _ _) (int_rmul_tuple 1 t l its.toArray n dd sl)
        ⟨ho, rfl, ⟨_, ho, rfl⟩, call_meets F.slot_tuple_mul ⟨_, ho, rfl⟩ F.entry_tuple_mul (F.args_tuple_mul_2 _ _) (tuple_mul1 l its.toArray n dd sl t) ⟨ho, ?_⟩⟩)
    exact ⟨.ref l, H, I, rfl, q1 rfl⟩
/-- (a, b)[::-1] -/
theorem getItem_tuple_rev2 {prog : Program} {w : World} {A : Around} {E : Value → Shared → Prop} {s : Shared} {t sl : Addr} {a b vs : Value} {Q : Value → Shared → Prop} (ht : IsTup s.heap t #[a, b]) (hs : s.heap.IsSliceOf sl .none .none vs) (ps : IsPart vs (some (-1)))
    (h : Q (.ref s.heap.objs.size) { s with heap := s.heap.push { cls := .type "tuple", data := .seq #[b, a] } }) : wpAny (model prog w) A (getItem (.ref t) (.ref sl)) Q E s := by
  obtain ⟨os, hos, hcs, hds⟩ := id hs
  have hTs : s.TypeIs (.ref sl) "slice" := ⟨os, hos, hcs⟩
  unfold getItem
  try with_reducible refine wpAny_holding ?_
  first | refine wpAny_bind (wpAny_pure ?_) | skip
  refine wpAny_bind (wpAny_sequenceKey ht.typeIs (by decide) ?_)
  refine wpAny_bind (wpAny_callSpecial?_slot (name := Str.ofString "__getitem__") ht.typeIs PyProof.Rows.slot_tuple_getitem
    (wpAny_call_entry PyProof.Rows.slot_tuple_getitem ht.typeIs entry_tuple_getitem ?_ (args_tuple_getitem _ _)))
  show wpAny _ _ (Builtin.Tuple.tupleItemsOf (.ref t) >>= _) _ _ s
  refine wpAny_bind (tupleItemsOf_ ht ?_)
  refine wpAny_bind (wpAny_typeOf hTs ?_)
  rw [if_pos (by decide)]
  refine wpAny_bind ?_
  · unfold Builtin.Slice.sliceApplied Builtin.Slice.sliceFields
    refine wpAny_bind (wpAny_bind (wpAny_field hos hds (x := .none) rfl (wpAny_bind (wpAny_field hos hds (x := .none) rfl (wpAny_bind (wpAny_field hos hds (x := vs) rfl (wpAny_pure ?_)))))))
    refine wpAny_bind (HT.slicePart_ ps ?_)
    show wpAny _ _ (if ((-1 : Int) == 0) = true then _ else _) _ _ s
    rw [if_neg (by decide)]
    refine wpAny_bind (slicePart_none (wpAny_bind (slicePart_none (wpAny_bind (wpAny_pure ?_)))))
    refine wpAny_of_eq (show _ = pure ((1 : Int), (-1 : Int), (2 : Nat)) by first | rfl | kernel_rfl) ?_
    show wpAny _ _ (if ((1 : Int) == 0 && (-1 : Int) == 1 && (2 : Nat) == 2) = true then _ else _) _ _ s
    rw [if_neg (by decide)]
    refine wpAny_bind (m := Builtin.Tuple.tupleExact #[b, a]) ?_
    refine wpAny_newObj_type ?_ (by show 2 ≤ sizeLine; decide)
    exact wpAny_pure ⟨_, rfl, wpAny_pure h⟩
end
end L2

/-! enumerate of a tuple -/
namespace PySem
open Sem (wp)
open AutoSeq1 (wpAny_loadPart')
theorem meets_enumerate_newT (l : Addr) (items : Array Value) (n : Nat) (dct : Option Addr) (sl : Array (Option Value)) :
    Meets (Builtin.«enumerate.__new__» ⟨[.type "enumerate", .ref l], []⟩) (fun _ R s => s.heap.get? l = some { cls := .type "tuple", dict := dct, data := .seq items n, slots := sl } ∧
      R (.ok (.ret (.ref (s.heap.push { cls := .type "tuple_iterator", data := .fields #[.ref l, .int 0 0] }).objs.size)))
        { s with heap := (s.heap.push { cls := .type "tuple_iterator", data := .fields #[.ref l, .int 0 0] }).push { cls := .type "enumerate", data := .fields #[.none, .bool false, .ref s.heap.objs.size, rawInt 0, .none, .none] } }) :=
  .of_wp fun prog w A R s h => by
    obtain ⟨hp, g, d, tk, os⟩ := s; obtain ⟨hl, h⟩ := h
    have hsub := sub_enumerate
    have hL : Heap.IsTuple (Shared.heap ⟨hp, g, d, tk, os⟩) l items := ⟨_, hl, rfl, n, rfl⟩
    wp_walk using wpAny_loadPart' hl
    refine wpAny_stack_any fun st => wpAny_pure ?_
    split
    · rename_i c _ _ _ _ _
      cases (c == Value.type "enumerate")
      · wp_walk using wpAny_loadPart' hl, wpAny_pyIter_tuple hL
        exact ⟨_, rfl, h⟩
      · wp_walk using wpAny_loadPart' hl, wpAny_pyIter_tuple hL
        exact ⟨_, rfl, h⟩
    · wp_walk using wpAny_loadPart' hl, wpAny_pyIter_tuple hL
      exact ⟨_, rfl, h⟩
theorem call_enumerate_tuple {prog : Program} {w : World} {A : Around} {E : Value → Shared → Prop} {s : Shared} {l : Addr} {items : Array Value} {Q : Value → Shared → Prop} (hL : s.heap.IsTuple l items)
    (h : ∀ h', IsEnum h' (s.heap.objs.size + 1) s.heap.objs.size 0 .none → h'.IsTupleIter s.heap.objs.size l 0 → h'.objs.size = s.heap.objs.size + 2 →
      (∀ b o, s.heap.get? b = some o → h'.get? b = some o) → Q (.ref (s.heap.objs.size + 1)) { s with heap := h' }) :
    wpAny (model prog w) A (call (.type "enumerate") [.ref l]) Q E s := by
  obtain ⟨⟨c, dct, dt, sl⟩, hl, hc, n, hd⟩ := hL
  replace hc : c = .type "tuple" := hc
  replace hd : dt = .seq items n := hd
  subst hc hd
  refine callType_new F.called_enumerate (by decide) (F.typeCall_enumerate_1 _) (F.newCall_enumerate_1 _) (fun obj => F.args_object_init_2 obj _) F.entry_enumerate_new
    (meets_enumerate_newT l items n dct sl) ⟨hl, ?_⟩
  have hz : (s.heap.push { cls := .type "tuple_iterator", data := .fields #[.ref l, .int 0 0] }).objs.size = s.heap.objs.size + 1 := Heap.size_push ..
  show _ ∧ _
  rw [hz]
  have he : IsEnum ((s.heap.push { cls := .type "tuple_iterator", data := .fields #[.ref l, .int 0 0] }).push
      { cls := .type "enumerate", data := .fields #[.none, .bool false, .ref s.heap.objs.size, rawInt 0, .none, .none] }) (s.heap.objs.size + 1) s.heap.objs.size 0 .none := by
    have := Heap.get?_push_size (s.heap.push { cls := .type "tuple_iterator", data := .fields #[.ref l, .int 0 0] })
      (o := { cls := .type "enumerate", data := .fields #[.none, .bool false, .ref s.heap.objs.size, rawInt 0, .none, .none] }) rfl
    rw [hz] at this; exact this
  refine ⟨⟨_, he, rfl⟩, h _ he ⟨_, Heap.get?_push_of_some _ (Heap.get?_push_size _ rfl), rfl, rfl⟩ (by rw [Heap.size_push, hz]) fun b o x => Heap.get?_push_of_some _ (Heap.get?_push_of_some _ x)⟩
end PySem
namespace PySem
theorem wpAny_pyNext_enum_endG {prog : Program} {w : World} {A : Around} {E : Value → Shared → Prop} {s : Shared} {e it t : Addr} {j : Nat} {i : Int} {items : Array Value} {old : Value} {Q : Option Value → Shared → Prop} (hh : A.handled = none)
    (he : IsEnum s.heap e it i old) (hit : s.heap.IsTupleIter it t j) (ht : s.heap.IsTuple t items) (hx : items[j]? = none)
    (hQ : ∀ h', Heap.ExtBut it s.heap h' → Q none { s with heap := h' }) : wpAny (model prog w) A (pyNext (.ref e)) Q E s := by
  have hT : s.TypeIs (.ref e) "enumerate" := ⟨_, he, rfl⟩
  unfold pyNext
  refine wpAny_bind (wpAny_attempt (wpAny_callSpecial?_slot (name := Str.ofString "__next__") hT F.slot_enumerate_next
    (wpAny_call_entry F.slot_enumerate_next hT F.entry_enumerate_next ?_ (F.args_enumerate_next_1 _))))
  show wpAny _ _ (field (.ref e) 2 >>= _) _ _ _
  refine wpAny_bind (wpAny_field he rfl (x := .ref it) rfl ?_)
  refine wpAny_bind (wpAny_nextOf_tuple_end hh hit ht hx fun h' x he' hx' => ?_)
  obtain ⟨o, ho, hc⟩ := hx'
  refine wpAny_bind (wpAny_isInstance (T := "StopIteration") (b := true) ⟨o, ho, hc⟩ isSubtype_stop ?_)
  exact wpAny_pure (hQ _ he')
end PySem
namespace L2
open PySem PySem.Spec PyProof.Rows
def IteT (K : PySem.W.Frag) (a : Addr) : It :=
  ⟨fun i H => ∃ (xs : List V) (x : V), SqT K H a xs ∧ xs[i]? = some x, fun i H v H' => ∃ T x, v = .ref T ∧ H T = none ∧ H' = upd H T (.tup [.int (i : Nat), x]) ∧ ∀ xs, SqT K H a xs → xs[i]? = some x, fun i H => ∃ xs : List V, SqT K H a xs ∧ xs.length ≤ i⟩
theorem turn_enumT {P : Program} {w : World} {K : PySem.W.Frag} {elts : List Expr} {kk : Nat} {tpos : Pos} (a e it : Addr) (hai : a ≠ it) (hae : e ≠ a) :
    Turn P w K (.Tuple elts kk tpos) (IteT K a) [e, it] e (fun i h => (∃ old, IsEnum h e it ((i : Nat) : Int) old) ∧ h.IsTupleIter it a i ∧ e ≠ it) where
  mem := by simp
  obj := fun i h st b hb => by
    obtain ⟨⟨old, he⟩, ⟨o, ho, hc, hd⟩, _⟩ := st
    have e' : b = e ∨ b = it := by simpa using hb
    rcases e' with z | z
    · rw [z]; exact ⟨_, he, fun v q => nomatch q⟩
    · rw [z]; exact ⟨o, ho, fun v q => by rw [hd] at q; cases q⟩
  keep := fun i h h' st k => let ⟨⟨old, he⟩, hi, hne⟩ := st; ⟨⟨old, k e (by simp) _ he⟩, hi.at fun o q => k it (by simp) o q, hne⟩
  item := by
    intro X hP hw hK hc i pins s σ H E I hf st hg
    subst hP hw hK
    obtain ⟨⟨old, he⟩, hit, hne⟩ := st
    obtain ⟨xs, x, hq, hx⟩ := hg
    obtain ⟨its, rv, p, hz⟩ := I.tuple hq
    obtain ⟨u, hu, ru⟩ := rv.get hx
    have hel : e < s.heap.objs.size := Heap.lt_size he
    have hil : it < s.heap.objs.size := by obtain ⟨_, q, _⟩ := hit; exact Heap.lt_size q
    have hlt : i < its.toArray.size := by
      rw [List.size_toArray, ← rv.length]
      exact (List.getElem?_eq_some_iff.mp hx).1
    refine wpAny_pyNext_enum_itemD (Draws.tuple (A := X.A.in1) (I.ok.hd hc) it a hai its.toArray) he ⟨hit, show s.heap.IsTuple a its.toArray from p⟩ hlt hne (by simp [hne, hae]) fun u' h' tk hu' ho hst' hT hsz hk => ?_
    obtain ⟨hit', _⟩ := hst'
    have eu : u' = u := by
      have h1 : its.toArray[i]? = some u' := hu'
      have h2 : its.toArray[i]? = some u := by simpa using hu
      rw [h1] at h2
      exact Option.some.inj h2
    subst eu
    refine ⟨_, rfl, wpAny_letOwnedTupleGo_enum (s := { s with heap := h', toks := tk + 1 }) ho fun h'' he' sb => ?_⟩
    have hT2 : h''.get? s.heap.objs.size = some { cls := .type "tuple", data := .seq #[.int i tk, u'] } := (sb.2 _ (Nat.ne_of_gt hel)).trans hT
    have new : ObjOk X.prog X.w (upd H s.heap.objs.size (.tup [.int (i : Nat), x])) h'' s.heap.objs.size (.tup [.int (i : Nat), x]) :=
      ⟨by show 2 ≤ sizeLine; decide, [.int i tk, u'], .cons ⟨_, rfl⟩ (.cons ru .nil), ⟨_, hT2, rfl, _, rfl⟩⟩
    have I1 : Inv X pins σ (upd H s.heap.objs.size (.tup [.int (i : Nat), x])) { s with heap := h'', toks := tk + 1 } :=
      I.turnedNew (ch := [e, it]) (fun b ob hb q => (sb.2 b (fun z => hb (by simp [z]))).trans (hk b ob (fun z => hb (by simp [z])) (fun z => hb (by simp [z])) q)) hf (Nat.le_refl _) new
    refine ⟨.ref s.heap.objs.size, _, I1, rfl, ⟨_, x, rfl, I.hok.fresh (Nat.le_refl _), rfl, fun ys hy => by rw [I.tuple_inj hy hq]; exact hx⟩, ⟨⟨u', ?_⟩, hit'.at fun o q => (sb.2 it (Ne.symm hne)).trans q, hne⟩, fun b hb => ?_⟩
    · have e1 : ((i + 1 : Nat) : Int) = (i : Int) + 1 := by omega
      rw [e1]; exact he'
    · have hb' : b < s.heap.objs.size := by
        have e' : b = e ∨ b = it := by simpa using hb
        rcases e' with z | z
        · rw [z]; exact hel
        · rw [z]; exact hil
      rw [upd_ne (Nat.ne_of_lt hb')]
      exact (hf b hb).1
  done := by
    intro X hP hw hK hc i pins s σ H E I hf st hg
    subst hP hw hK
    obtain ⟨⟨old, he⟩, hit, hne⟩ := st
    obtain ⟨xs, hq, hx⟩ := hg
    obtain ⟨its, rv, p, hz⟩ := I.tuple hq
    obtain ⟨f0, f1, f2, f3, f4, f5⟩ := hf it (by simp)
    have hl := rv.length
    have T := (show s.heap.IsTuple a its.toArray from p)
    refine wpAny_pyNext_enum_endG (I.ok.hd hc) he hit T (by simp; omega) fun h' eb => ⟨rfl, I.turned (t' := s.toks) (fun b o hb q => eb b o hb q) f0 f1 f3 f4 f5⟩
  self := fun A i s Q E st h => let ⟨⟨_, he⟩, _⟩ := st; wpAny_pyIter_enum he h
end L2

set_option Elab.async false
set_option linter.all false
set_option maxRecDepth 100000
set_option maxHeartbeats 4000000
namespace L2
open PySem PySem.Spec PyProof.Rows
/-! enumerate of a tuple; (a, b)[::-1] -/
def iEnumT (K : PySem.W.Frag) (ta : TA) : TI := fun σ H R => ta σ H fun vs H1 => ∃ a xs, vs = [.ref a] ∧ SqT K H1 a xs ∧ R (IteT K a) H1
theorem pi_enumT {X : Cx} {e : Expr} {ta : TA} {p pos tpos : Pos} {elts : List Expr} {kk : Nat} (hg : Gl X "enumerate") (hm : X.mg "enumerate" = none) (ha : PA X [e] ta) (hs : starEach [e] X.env = [(false, eval e X.env)] := by rfl) :
    PI X (.Tuple elts kk tpos) (.Call (.Name "enumerate" p) [e] [] pos) (iEnumT X.K ta) := by
  refine ⟨fun pins s σ H R I h => ?_⟩
  refine Call_ (ld_blt I hg hm boot_enumerate (PyProof.Rows.callWith_type1 (thn (ha.run pos pins s σ H _ I h) fun us s1 ⟨vs, H1, I1, r1, q1⟩ => ?_) hs rfl))
  obtain ⟨a, xs, ex, hq, q⟩ := q1
  subst ex
  cases r1 with
  | cons r rr =>
    cases rr
    cases r
    obtain ⟨its, rv, p', hz⟩ := I1.tuple hq
    have hal : a < s1.heap.objs.size := by obtain ⟨o, ho, _⟩ := p'; exact Heap.lt_size ho
    refine call_enumerate_tuple (show s1.heap.IsTuple a its.toArray from p') fun h' he hit hsz hk => wpAny_pyIter_enum he ?_
    have I2 : Inv X pins σ H1 { s1 with heap := h' } := I1.kept (t' := s1.toks) hk
    refine ⟨s1.heap.objs.size + 1, [s1.heap.objs.size + 1, s1.heap.objs.size], _, _, H1, rfl, I2, turn_enumT a (s1.heap.objs.size + 1) s1.heap.objs.size (Nat.ne_of_lt hal) (Nat.ne_of_gt (Nat.lt_succ_of_lt hal)), ⟨⟨.none, he⟩, hit, Nat.succ_ne_self _⟩, fun b hb => ?_, q⟩
    have e' : b = s1.heap.objs.size + 1 ∨ b = s1.heap.objs.size := by simpa using hb
    have hle : s1.heap.objs.size ≤ b := by
      rcases e' with z | z
      · rw [z]; exact Nat.le_add_right _ _
      · rw [z]; exact Nat.le_refl _
    exact I1.fpOk hle (I1.hok.fresh hle)
theorem walk_enumT {K : PySem.W.Frag} {a : Addr} {xs : List V} : Walk (IteT K a) xs.length (fun H => SqT K H a xs) (YPair (fun i => some (.int (i : Nat))) (fun i => xs[i]?)) := by
  refine ⟨fun i _ hi q => ⟨xs, xs[i], q, by simp [hi]⟩, fun _ q => ⟨xs, q, Nat.le_refl _⟩, fun i H v H' _ q y => ?_⟩
  obtain ⟨T, x, h1, h2, h3, h4⟩ := y
  exact ⟨T, .int (i : Nat), x, h1, h2, h3, rfl, h4 xs q⟩
def tRevT (K : PySem.W.Frag) (te : TE) : TE := fun σ H Q => te σ H fun x H1 => ∃ a y z, x = .ref a ∧ SqT K H1 a [y, z] ∧ ∀ p, H1 p = none → Q (.ref p) (upd H1 p (.tup [z, y]))
theorem pe_revT {X : Cx} {e : Expr} {te : TE} {k : Nat} {p1 p2 p3 pos : Pos} (he : PE X e te) : PE X (.Subscript e (.Slice none none (some (.UnaryOp .USub (.Constant (.int 1) k p1) p2)) p3) pos) (tRevT X.K te) := by
  refine ⟨fun pins s σ H Q I h => ?_⟩
  refine Subscript_ (thn (he.run pins s σ H _ I h) fun v s1 ⟨x, H1, I1, r1, q1⟩ => ?_)
  obtain ⟨a, y, z, ex, hx, q⟩ := q1
  subst ex
  cases r1
  have hst : PO X (some (.UnaryOp .USub (.Constant (.int 1) k p1) p2)) (tPart (tUn (rU fun i => .int (-i)) (tC (.int 1)))) := po_some (pe_un un_neg pe_int)
  refine wpAny_Slice (thn (po_none.run pins s1 σ H1 (fun o H2 => o = none ∧ H2 = H1) I1 ⟨rfl, rfl⟩) fun vl s2 ⟨l, H2, I2, pl, el, e2⟩ => ?_)
  subst el e2
  refine thn (po_none.run pins s2 σ H2 (fun o H3 => o = none ∧ H3 = H2) I2 ⟨rfl, rfl⟩) fun vu s3 ⟨u, H3, I3, pu, eu, e3⟩ => ?_
  subst eu e3
  refine thn (hst.run pins s3 σ H3 (fun o H4 => o = some (-1) ∧ H4 = H3) I3 ⟨1, rfl, -1, rfl, rfl, rfl⟩) fun vs s4 ⟨o, H4, I4, ps, eo, e4⟩ => ?_
  subst eo e4
  cases pl
  cases pu
  have I5 : Inv X pins σ H4 { s4 with heap := s4.heap.push { cls := .type "slice", data := .fields #[.none, .none, vs] } } := I4.kept (t' := s4.toks) fun b ob q => Heap.get?_push_of_some _ q
  obtain ⟨its, r, ht, hz⟩ := I5.tuple hx
  cases r with
  | cons ry r =>
    cases r with
    | cons rz r =>
      cases r
      show wpAny (model X.prog X.w) X.A (subscriptTail e (.Slice none none (some (.UnaryOp .USub (.Constant (.int 1) k p1) p2)) p3) (.ref a) (.ref s4.heap.objs.size)) (EP X pins σ Q) X.xe { s4 with heap := s4.heap.push { cls := .type "slice", data := .fields #[.none, .none, vs] } }
      refine tail_any (ops := [.ref a, .ref s4.heap.objs.size]) ht.typeIs (PyProof.Rows.slot_tuple_getitem.lookup) ?_ (by with_unfolding_all rfl)
      refine getItem_tuple_rev2 ht (Heap.IsSliceOf.new _ .none .none vs) ps ?_
      refine ⟨.ref _, _, I5.laid (t' := s4.toks) (o := .tup [z, y]) (fun b ob q => Heap.get?_push_of_some _ q) (Nat.le_refl _) ?_, rfl, q _ (I5.hok.fresh (Nat.le_refl _))⟩
      exact ⟨by show 2 ≤ sizeLine; decide, _, .cons rz (.cons ry .nil), IsTup.new _ _⟩
end L2
namespace DL
open PySem PySem.Spec PyProof.Rows L2
section
variable {X : Cx} {a b e o : Expr} {es : List Expr} {ta tb te to : TE} {da db de : TD} {pos p p2 apos : Pos} {ts : TA} {ds : TDA}
/-! ### * -/
def mulR : RD := fun d e k => match d, e with
  | .int i, .int j => CMul i j ∧ k (.int (i * j))
  | .tuple xs, .int j => xs ≠ [] ∧ 0 ≤ j ∧ j ≤ 1000 ∧ xs.length ≤ 1000 ∧ k (.tuple (List.replicate j.toNat xs).flatten)
  | .list xs, .int j => 0 ≤ j ∧ j ≤ 1000 ∧ xs.length ≤ 1000 ∧ k (.list (List.replicate j.toNat xs).flatten)
  | _, _ => False
abbrev rMulI : R2 := rI CMul fun i j => .int (i * j)
def rMulA (K : PySem.W.Frag) : R2 := fun x y H Q => rMulI x y H Q ∨ (rRepS K x y H Q ∨ rRep x y H Q)
theorem ob_mul : DR X (binaryOp .Mult) (rMulA X.K) mulR := by
  refine ⟨OpR.or op_mul (OpR.or op_repS op_rep), fun Y F H σ s x y d e k Q E hx hy h q => ?_⟩
  cases hx with
  | int i =>
    cases hy with
    | int j => exact .inl ⟨i, j, rfl, rfl, h.1, q _ _ F H (Same.refl F) E (.int _) h.2⟩
    | _ => exact h.elim
  | @tup a xs ds ha hs =>
    cases hy with
    | int j =>
      obtain ⟨h1, h2, h3, h4, h5⟩ := h
      have hne : xs ≠ [] := fun z => h1 (by
        have := hs.len
        rw [z] at this
        exact List.eq_nil_of_length_eq_zero this.symm)
      refine .inr (.inl ⟨a, j, xs, rfl, rfl, sqT_mono E.fh ha, hne, h2, h3, by rw [hs.len]; exact h4, fun e1 => ?_, fun _ p hp => ?_⟩)
      · subst e1
        have e2 : (List.replicate (1 : Int).toNat ds).flatten = ds := by
          show (List.replicate 1 ds).flatten = ds
          simp
        rw [e2] at h5
        exact q _ _ F H (Same.refl F) E (.tup ha hs) h5
      · exact q _ _ _ _ (same_upd (same_none E.fh hp)) (E.alloc _ hp) (dt_at (hs.rep _) (same_none E.fh hp)) h5
    | _ => exact h.elim
  | @lst a xs ds ha hs =>
    cases hy with
    | int j =>
      obtain ⟨h2, h3, h4, h5⟩ := h
      refine .inr (.inr ⟨a, j, xs, rfl, rfl, E.fh _ _ ha, by omega, by omega, ?_, fun p hp => ?_⟩)
      · rw [hs.len, sizeLine_eq]
        have : ds.length * j.toNat ≤ 1000 * 1000 := Nat.mul_le_mul h4 (by omega)
        omega
      · exact q _ _ _ _ (same_upd (same_none E.fh hp)) (E.alloc _ hp) (dl_at (hs.rep _) (same_none E.fh hp)) h5
    | _ => exact h.elim
  | _ => exact h.elim
/-! ### (a, b)[::-1] -/
def dRevT (a : TD) : TD := fun s Q => a s fun x s1 => ∃ y z, x = .tuple [y, z] ∧ Q (.tuple [z, y]) s1
theorem de_revT {k : Nat} {p1 p2 p3 : Pos} (he : DE X e te de) : DE X (.Subscript e (.Slice none none (some (.UnaryOp .USub (.Constant (.int 1) k p1) p2)) p3) pos) (tRevT X.K te) (dRevT de) :=
  ⟨pe_revT he.pe, fun Y F H σ s Qd Q E q k => he.sn Y F H σ s _ _ E q fun v d F1 H1 s1 g1 E1 v1 q1 => by
    obtain ⟨y, z, rfl, q1⟩ := q1
    cases v1 with
    | @tup a us _ h1 h2 =>
      cases h2 with
      | cons w1 h2 =>
        cases h2 with
        | cons w2 h2 =>
          cases h2
          exact ⟨a, _, _, rfl, sqT_mono E1.fh h1, fun p hp => k _ _ _ _ s1 (g1.trans (same_upd (same_none E1.fh hp))) (E1.alloc _ hp) (dt_at (.cons w2 (.cons w1 .nil)) (same_none E1.fh hp)) q1⟩⟩
/-! ### x, y, .. = a list -/
def gdUnl (u : TDGs) : TDG := fun x s Q => ∃ xs, x = .list xs ∧ u xs s Q
theorem dg_unl {es : List Expr} {k1 : Nat} {g : TGs} {gd : TDGs} {n : Nat} {is : List Nat} (hc : X.calm = true) (h : DGs X es g gd is) (hlen : ∀ xs s Q, gd xs s Q → xs.length = n)
    (hn : (assignEach es X.env).length = n := by rfl) (hst : (assignEach es X.env).findIdx? (·.1) = none := by rfl) : DG X (.Tuple es k1 pos) (gUnl X.K n g) (gdUnl gd) is :=
  ⟨pg_unl hc h.pg hn hst, fun Y F H σ s v x Qd Q E hv q k => by
    obtain ⟨xs, rfl, q⟩ := q
    cases hv with
    | @lst a us _ h1 h2 =>
      exact ⟨a, us, rfl, SqL.of (E.fh _ _ h1), by rw [h2.len]; exact hlen _ _ _ q, h.sn Y F H σ s us xs _ _ E h2 q k⟩⟩
/-! ### enumerate(a tuple) -/
def enumGo : Nat → List PyData → List PyData
  | _, [] => []
  | i, x :: xs => .tuple [.int (i : Nat), x] :: enumGo (i + 1) xs
theorem enumGo_len : ∀ (xs : List PyData) (i : Nat), (enumGo i xs).length = xs.length
  | [], _ => rfl
  | x :: xs, i => by unfold enumGo; rw [List.length_cons, List.length_cons, enumGo_len xs]
theorem enumGo_get : ∀ (xs : List PyData) (i j : Nat), (enumGo i xs)[j]? = xs[j]?.map fun x => .tuple [.int ((i + j : Nat) : Int), x]
  | [], _, _ => rfl
  | x :: xs, i, 0 => rfl
  | x :: xs, i, j + 1 => by
    unfold enumGo
    rw [List.getElem?_cons_succ, List.getElem?_cons_succ, enumGo_get xs, show i + 1 + j = i + (j + 1) by omega]
def diEnumT (t : TDA) : TDI := fun s Q => t s fun vs s1 => ∃ xs, vs = [.tuple xs] ∧ Q (enumGo 0 xs) s1
theorem di_enumT {elts : List Expr} {kk : Nat} {tpos : Pos} (hg : Gl X "enumerate") (hm : X.mg "enumerate" = none) (he : DA X [e] ts ds) (hs : starEach [e] X.env = [(false, eval e X.env)] := by rfl) :
    DI X (.Tuple elts kk tpos) (.Call (.Name "enumerate" p) [e] [] pos) (iEnumT X.K ts) (diEnumT ds) := ⟨pi_enumT hg hm he.pa hs, fun Y F H σ s Qd R E q k => by
  refine he.sn Y F H σ s _ _ E q fun vs d F1 H1 s1 g1 E1 v1 q1 => ?_
  obtain ⟨xs, rfl, q1⟩ := q1
  cases v1 with
  | cons w1 w2 =>
    cases w2
    cases w1 with
    | @tup a us _ h1 h2 =>
      refine ⟨a, us, rfl, sqT_mono E1.fh h1, k _ _ _ (enumGo 0 xs) F1 H1 s1 g1 E1 (by rw [enumGo_len, ← h2.len]; exact walk_enumT) (fun H2 g2 => sqT_mono g2 h1) (fun Y2 i x H2 H3 F2 σ2 s2 hi hy g E => ?_) q1⟩
      obtain ⟨T, u, v, rfl, h4, rfl, h6, h7⟩ := hy
      cases h6
      obtain ⟨d, e1, e2⟩ := h2.got h7
      refine ⟨upd F2 T (.tup [.int (i : Nat), v]), .tuple [.int (i : Nat), d], ?_, same_upd (same_none E.fh h4), E.alloc _ h4, dt_at (.cons (.int _) (.one (e2.mono g))) (same_none E.fh h4), same_upd h4⟩
      rw [enumGo_get, e1, Nat.zero_add]
      rfl⟩
/-! ### WORDS.index(x) -/
def dIxT (ys : List Str) (a : TD) : TD := fun s Q => a s fun x s1 => ∃ (z : Str) (j : Nat), x = .str z ∧ ys[j]? = some z ∧ (∀ m, m < j → ys[m]? ≠ some z) ∧ Q (.int (j : Nat)) s1
abbrev rTIx (K : PySem.W.Frag) : V → List V → Hp → VK → Prop := fun x xs H Q => ∃ p, ∃ ys : List Str, ∃ z j, x = .ref p ∧ xs = [.str z] ∧ SqT K H p (ys.map V.str) ∧ ys[j]? = some z ∧ (∀ m, m < j → ys[m]? ≠ some z) ∧ Q (.int (j : Nat)) H
theorem de_ixT {x : Str} {ys : List Str} {g0 : Addr} (hg : Gl X x) (hm : X.mg x = some (.ref g0)) (hq : ∀ H, SqT X.K H g0 (ys.map V.str)) (hK : ∃ ob, X.K.lookup g0 = some ob ∧ ob.cls = .type "tuple" ∧ ob.dict = none) (ha : DE X e te de)
    (hdb : (x == ("__debug__" : Str)) = false := by decide) (hbase : attributeBase (.Name x p2) "index" X.env (eval (.Name x p2) X.env) = eval (.Name x p2) X.env := by rfl)
    (hfew : ((backTo pos (starEach [e] X.env)).all (fun x => !x.1) && (backToKw pos (keywordEach [] X.env)).all (fun x => x.1.isSome)
      && decide ([e].length + ([] : List Keyword).length + (if ([] : List Keyword).isEmpty then 0 else 1) < 30)) = true := by rfl)
    (hline : (apos.endLine == pos.line) = true := by rfl) (hs : starEach [e] X.env = (false, eval e X.env) :: starEach [] X.env := by rfl) (hplain : (backTo pos (starEach [] X.env)).any (·.1) = false := by rfl) :
    DE X (.Call (.Attribute (.Name x p2) "index" apos) [e] [] pos) (tBM X.K "tuple" (rTIx X.K) (tC (.ref g0)) (tCons te tNil)) (dIxT ys de) :=
  ⟨pe_bm F.plainAttrs_tuple F.slot_tuple_index F.type_tuple_index mt_tup_index (pe_glob (v := .ref g0) hg hm rfl hdb) (pa_cons ha.pe pa_nil hs) hbase hfew hline hs hplain, fun Y F H σ s Qd Q E q k => by
    have ty : tyV X.K "tuple" (.ref g0) H := .inr (.inl ⟨rfl, hK⟩)
    refine ⟨ty, ha.sn Y F H σ s _ _ E q fun v d F1 H1 s1 g1 E1 v1 q1 => ?_⟩
    obtain ⟨z, j, rfl, h1, h2, q1⟩ := q1
    cases v1
    exact ⟨_, ys, z, j, rfl, rfl, hq H1, h1, h2, k _ _ F1 H1 s1 g1 E1 (.int _) q1⟩⟩
end
end DL

set_option Elab.async false
set_option linter.all false
set_option maxRecDepth 100000
set_option maxHeartbeats 4000000
/-! promises that hold where no repr is under way -/
namespace L2
open PySem PySem.Spec PyProof.Rows
structure FnG (P : Program) (w : World) (K : PySem.W.Frag) (mg : Str → Option Value) (base : Heap) (CX : CXT) (k : Nat) (f : Addr) (fd : FuncData) (ps : List Str) (sp : Sp) : Prop where
  len : ∀ vs H Q E, sp vs H Q E → vs.length = ps.length
  run : ∀ (A : Around) (outer : List Env) (s : Shared) (H : Hp) (args : Args) (us : List Value) (vs : List V) (Q : VK) (E : XK), Room k A → A.guards = some [] → Env0 P w K mg base A outer s H → BindsTo s fd args (ps.zip us) → Vals vs us → sp vs H Q E →
    codeAny (model P w) A (.call (.ref f) args) (CR CX outer P w H s Q E) s
theorem fn_ofG {CX : CXT} {P : Program} {w : World} {K : PySem.W.Frag} {mg : Str → Option Value} {base : Heap} {k : Nat} {f : Addr} {name qual : Str} {params : Arguments} {body : List Stmt} {scope : Scope} {dV kV doc pm cdv ct oc : Value} {an od : Option Addr}
    {osl : Array (Option Value)} {N ps : List Str} {sp : Sp} (lk : K.lookup f = some ⟨oc, od, .func (PySem.W.fnOf name qual params body scope dV kV doc pm an cdv ct), osl⟩) (hcd : PySem.W.codeIn K cdv qual = true) (S : FnScope N ps scope)
    (len : ∀ vs H Q E, sp vs H Q E → vs.length = ps.length)
    (hbody : ∀ (A : Around) (outer : List Env) (s : Shared) (H : Hp) (vs : List V) (Q : VK) (E : XK), Room k (A.deeper (envOfC qual scope s.heap.objs.size f cdv)) → A.guards = some [] → sp vs H Q E →
      ∃ t, PSs (cxOf CX P w K mg base N qual scope f cdv A outer s H E) body t ∧ t { nx := fun _ H' => Q .non H', rt := Q } (start N vs) H) :
    FnG P w K mg base CX (k + 1) f (PySem.W.fnOf name qual params body scope dV kV doc pm an cdv ct) ps sp := by
  refine ⟨len, fun A outer s H args us vs Q E hr hg e0 hb r hsp => ?_⟩
  have hl := len _ _ _ _ hsp
  have KX : K.In s.heap := e0.mod.kin.keeps fun b o e => (e0.bs b o e).1
  have lim : s.heap.NoLimit := e0.mod.nolimit.keeps fun b o e => (e0.bs b o e).1
  have hkind : ∀ y ∈ ps.zip us, scope.names.lookup y.1 = some .local ∨ (scope.names.lookup y.1 = some .cell ∧ ((cellsFrom (s.heap.objs.size + 1) scope.names []).lookup y.1).isSome = true) := fun ⟨n, v⟩ hy => by
    rcases S.par n (List.of_mem_zip hy).1 with q | q
    · exact .inl q
    · exact .inr ⟨q, PySem.W.cellsFrom_some _ _ _ (.inl q)⟩
  refine codeAny_call_function hr.depth (KX _ _ lk) rfl S.co S.gen rfl (PySem.W.codeRec_of KX hcd) (hb _ _ _ _ ?_)
  refine wpAny_newFunctionEnv_cells S.kind hkind fun env he s1 x => ?_
  subst he
  refine ⟨lim.keeps x.toInCall.keep, codeAny_func ?_⟩
  obtain ⟨t, ht, hq⟩ := hbody A outer s H vs Q E (hr.deeper _) hg hsp
  have I : Inv (cxOf CX P w K mg base N qual scope f cdv A outer s H E) [] (start N vs) H s1 := inv_start S hr.hd e0 hl r x
  refine wpAny_mono (ht.run [] s1 (start N vs) H _ I hq) (fun fl s' hs => ?_) fun e s' hs => hs
  have fin : ∀ {σ' : St} {H' : Hp} {v : V} {u : Value}, Inv (cxOf CX P w K mg base N qual scope f cdv A outer s H E) [] σ' H' s' → RelV v u → Q v H' → CE outer P w H s Q u s' :=
    fun {σ' H' v u} J rv q => ⟨v, H', J.os, J.bare, J.base, J.hok, rv, q⟩
  cases fl with
  | ret u =>
    obtain ⟨v, σ', H', J, rv, q⟩ := hs
    exact fin J rv q
  | next =>
    obtain ⟨σ', H', J, q⟩ := hs
    exact fin (v := V.non) (u := Value.none) J rfl q
  | brk =>
    obtain ⟨_, _, _, q⟩ := hs
    exact False.elim q
  | cont =>
    obtain ⟨_, _, _, q⟩ := hs
    exact False.elim q

section
variable {P : Program} {w : World} {K : PySem.W.Frag} {mg : Str → Option Value} {base : Heap} {x qual : Str} {params : Arguments} {body : List Stmt} {scope : Scope} {dvs : List V} {kws : List (Str × V)} {f : Addr} {fd : FuncData}
theorem FunD.okG {CX : CXT} {N ps : List Str} {k : Nat} {sp : Sp} (F : FunD K x qual params body scope dvs kws f fd) (S : FnScope N ps scope) (len : ∀ vs H Q E, sp vs H Q E → vs.length = ps.length)
    (hbody : ∀ (cdv : Value) (A : Around) (outer : List Env) (s : Shared) (H : Hp) (vs : List V) (Q : VK) (E : XK), Room k (A.deeper (envOfC qual scope s.heap.objs.size f cdv)) → A.guards = some [] → sp vs H Q E →
      ∃ t, PSs (cxOf CX P w K mg base N qual scope f cdv A outer s H E) body t ∧ t { nx := fun _ H' => Q .non H', rt := Q } (start N vs) H) : FnG P w K mg base CX (k + 1) f fd ps sp := by
  obtain ⟨oc, od, dV, kV, doc, pm, an, cdv, ct, osl, rfl, lk, hcd, _, _⟩ := F.ex
  exact fn_ofG lk hcd S len fun A outer s H vs Q E hr hg hsp => hbody cdv A outer s H vs Q E hr hg hsp
end
section
variable {X : Cx} {CX : CXT} {k : Nat} {f C : Addr} {fd : FuncData} {ps : List Str} {sp : Sp} {dvs : List V} {ds : List Value} {E : XK} {x m : Str} {p pos apos : Pos} {e o : Expr} {es : List Expr} {ta : TE} {t : TA}
theorem run_fnG {pins : List (Addr × Obj)} {σ : St} {H : Hp} {s : Shared} {Q : VK} {us : List Value} {vs : List V} (F : FnG X.prog X.w X.K X.mg X.base CX k f fd ps sp) (hr : Room k X.A) (hg : X.A.guards = some []) (hb : Binds X.K fd ps ds) (hd : Vals dvs ds) (hx : Passes CX X E)
    (I : Inv X pins σ H s) (r : Vals vs us) (h : sp (vs ++ dvs) H Q E) : wpAny (model X.prog X.w) X.A (call (.ref f) us) (EP X pins σ Q) X.xe s := by
  have r2 : Vals (vs ++ dvs) (us ++ ds) := r.append hd
  have hl : (us ++ ds).length = ps.length := by rw [← r2.length]; exact F.len _ _ _ _ h
  refine wpAny_call (codeAny_mono (F.run X.A X.stack s H ⟨us, []⟩ (us ++ ds) (vs ++ dvs) Q E hr hg I.env0 (hb s us I.kIn hl) r2 h) fun r s' hq => ?_)
  cases r with
  | error e => exact hx pins σ H s e s' I hq
  | ok fl =>
    cases fl with
    | ret u => exact I.after hq
    | next => exact False.elim hq
    | brk => exact False.elim hq
    | cont => exact False.elim hq
theorem pe_callG (F : FnG X.prog X.w X.K X.mg X.base CX k f fd ps sp) (hr : Room k X.A) (hgs : X.A.guards = some []) (hg : Gl X x) (hm : X.mg x = some (.ref f)) (hk : PySem.W.keepIn X.K (.ref f) = true) (hb : Binds X.K fd ps ds) (hd : Vals dvs ds) (hx : Passes CX X E)
    (ha : PA X (e :: es) t) (hdb : (x == ("__debug__" : Str)) = false := by decide) (he : starEach (e :: es) X.env = (false, eval e X.env) :: starEach es X.env := by rfl) (hpl : (backTo pos (starEach es X.env)).any (·.1) = false := by rfl) :
    PE X (.Call (.Name x p) (e :: es) [] pos) (tCall sp dvs E t) := by
  refine ⟨fun pins s σ H Q I h => ?_⟩
  refine wpAny_Call_Name_kw (ld_glob I hg hm ?_ hdb)
  refine PySem.W.callWith_K (h₀ := X.base) I.ok.mod.kin hk (thn (ha.run pos pins s σ H _ I h) fun us s1 ⟨vs, H1, I1, r, q⟩ => ⟨I1.kIn, ?_⟩) he hpl
  exact run_fnG F hr hgs hb hd hx I1 r q
end
theorem law_callG {P : Program} {w : World} {K : PySem.W.Frag} {mg mb : Str → Option Value} {CX : CXT} {k : Nat} {fa a : Addr} {fd : FuncData} {x : Str} {sp : Sp} {s₁ : Shared} {vs : List Value} {ns : List Int}
    (KX : K.In s₁.heap) (hns : s₁.heap.Ns mainGlobals mg) (hb : s₁.heap.Ns builtinsNs mb) (hbb : ∀ x : Str, x ≠ "__name__" → mb x = bootBuiltins x) (hlim : s₁.heap.NoLimit) (hg : s₁.gens = #[])
    (ha : s₁.heap.get? a = some { cls := .type "list", data := .seq vs.toArray }) (hi : IntsAre vs ns) (hl : ns.length ≤ sizeLine) (hr : Room k callerA)
    (F : ∀ base : Heap, K.In base → base.Ns mainGlobals mg → FnG P w K mg base CX k fa fd [x] sp) (hbind : ∀ (s : Shared) (u : Value), BindsTo s fd ⟨[u], []⟩ [(x, u)])
    (hsp : ∀ H : Hp, Only H → SqL K H a (ns.map V.int) → sp [.ref a] H (fun v _ => v = .bl true) fun _ _ _ => False)
    (hCX : ∀ H e s', CX [] H s₁ (fun _ _ _ => False) e s' → False) :
    codeAny (model P w) callerA (.call (.ref fa) ⟨[.ref a], []⟩) (fun r s' => r = .ok (.ret (.bool true)) ∧ OldK s₁.heap s'.heap ∧ s'.os = s₁.os ∧ AllBare s'.gens) s₁ := by
  have rv := vals_ints hi
  have lenV := hi.length
  -- from an abstract heap in which nothing but the script may be tracked
  have core : ∀ H : Hp, Only H → SqL K H a (ns.map V.int) → HOk P w H s₁.heap → (∀ b, H b ≠ none → b = a) → (H a ≠ none → K.lookup a = none) →
      codeAny (model P w) callerA (.call (.ref fa) ⟨[.ref a], []⟩) (fun r s' => r = .ok (.ret (.bool true)) ∧ OldK s₁.heap s'.heap ∧ s'.os = s₁.os ∧ AllBare s'.gens) s₁ := by
    intro H hO hS hok hA hK
    have base_of : ∀ {b : Addr} {o : Obj}, s₁.heap.get? b = some o → H b = none → (hidT s₁.heap H).get? b = some o := fun e n => hidT_get e n
    have noA : ∀ {b : Addr} {o : Obj} {es : Array DictEntry} {ep : Nat}, s₁.heap.get? b = some o → o.data = .dict es ep → H b = none := fun {b o es ep} e d => by
      cases q : H b with
      | none => rfl
      | some u =>
        have e' : b = a := hA b (by rw [q]; simp)
        subst e'
        rw [ha] at e; cases e
        have d' : Data.seq vs.toArray _ = Data.dict es ep := d
        cases d'
    have nsK : ∀ {b : Addr} {m : Str → Option Value}, s₁.heap.Ns b m → (hidT s₁.heap H).Ns b m := fun {b m} ⟨o, es, ep, e, d, r⟩ => ⟨o, es, ep, base_of e (noA e d), d, r⟩
    have hKb : K.In (hidT s₁.heap H) := fun b o e => base_of (KX b o e) (by
      cases q : H b with
      | none => rfl
      | some u =>
        have e' : b = a := hA b (by rw [q]; simp)
        subst e'
        rw [hK (by rw [q]; simp)] at e; cases e)
    have hM : Mod K mg (hidT s₁.heap H) := ⟨hKb, nsK hns, ⟨mb, nsK hb, hbb⟩, let ⟨mc, h1, h2⟩ := hlim; ⟨mc, nsK h1, h2⟩⟩
    have e0 : Env0 P w K mg (hidT s₁.heap H) callerA [] s₁ H := ⟨rfl, hM, fun b o e => of_hidT e, Nat.le_of_eq (hidT_size _ _), trivial, fun b hb => absurd (show b ∈ ([] : List Addr) from hb) (by simp), hok, .of_eq hg⟩
    refine codeAny_mono ((F _ hKb (nsK hns)).run callerA [] s₁ H ⟨[.ref a], []⟩ [.ref a] [.ref a] _ _ hr rfl e0 (hbind s₁ (.ref a)) (.cons rfl .nil) (hsp H hO hS)) fun r s' h => ?_
    cases r with
    | error e => exact (hCX H e s' h).elim
    | ok fl =>
      cases fl with
      | next => exact False.elim h
      | brk => exact False.elim h
      | cont => exact False.elim h
      | ret u =>
        obtain ⟨v, H', os, bare, un, hok', r', q⟩ := h
        have q' : v = .bl true := q
        subst q'
        obtain rfl : u = Value.bool true := r'
        refine ⟨rfl, OldK.of_keep fun b o e => ?_, os, bare⟩
        cases q : H b with
        | none => exact un.keep b o e q (by intro z; exact absurd (show b ∈ ([] : List Addr) from z) (by simp)) (by simp)
        | some u =>
          rcases hO b with z | ⟨ob, xs, z⟩
          · rw [q] at z; cases z
          · have z2 := un.frzs b ob _ z
            obtain ⟨e1, _⟩ := hok b _ z
            obtain ⟨e2, _⟩ := hok' b _ z2
            rw [e] at e1; cases e1
            exact e2
  cases hk : K.lookup a with
  | some o =>
    -- the script is one of the module's own objects
    have e := KX a o hk
    rw [ha] at e
    cases e
    refine core (fun _ => none) (fun _ => .inl rfl) (.inr ⟨_, vs.toArray, _, hk, rfl, rfl, rfl, by rw [List.size_toArray, lenV]; exact hl, by simpa using rv⟩) (fun b u z => by have z' : (none : Option HO) = some u := z; cases z') (fun b z => absurd rfl z) fun z => absurd rfl z
  | none =>
    refine core (fun b => if b = a then some (.frz { cls := .type "list", data := .seq vs.toArray } (.lst (ns.map V.int))) else none) (fun b => ?_) (.inl (.inr ⟨{ cls := .type "list", data := .seq vs.toArray }, if_pos rfl⟩)) (fun b u z => ?_) (fun b z => ?_) fun _ => hk
    · by_cases hb : b = a
      · exact .inr ⟨_, _, if_pos hb⟩
      · exact .inl (if_neg hb)
    · by_cases hb : b = a
      · have z' := (if_pos hb).symm.trans z
        cases z'
        subst hb
        exact ⟨ha, by rw [List.length_map]; exact hl, vs, _, rv, ha⟩
      · have z' := (if_neg hb).symm.trans z
        cases z'
    · by_cases hb : b = a
      · exact hb
      · exact absurd (if_neg hb) z

theorem walk_ofEG {l : PySem.W.OpenLaw} {n k : Nat} {q : Program} {loose : List Str} {XP : (Str → Option Value) → Heap → Prop} {YP : World → Heap → Prop} {d : DefRec} {CX : CXT} {x : Str}
    (hn : l.most = some n) (hn2 : n ≤ sizeLine) (hdf : d.params.defaults = []) (hr : Room k callerA)
    (F : ∀ (w : World) (mg : Str → Option Value) (fa : Addr) (h : Heap), YP w h → h.Ns mainGlobals mg → mg d.name = some (.ref fa) →
      ∃ (K : PySem.W.Frag) (fd : FuncData) (sp : Sp), K.In h ∧ (∀ (s : Shared) (u : Value), BindsTo s fd ⟨[u], []⟩ [(x, u)]) ∧
        (∀ (H : Hp) (a : Addr) (ns : List Int), ns.length ≤ n → Only H → SqL K H a (ns.map V.int) → sp [.ref a] H (fun v _ => v = .bl true) fun _ _ _ => False) ∧
        ∀ base : Heap, K.In base → base.Ns mainGlobals mg → FnG l.prog w K mg base CX k fa fd [x] sp)
    (hCX : ∀ (H : Hp) (s : Shared) (e : Value) (s' : Shared), CX [] H s (fun _ _ _ => False) e s' → False) :
    PySem.W.WalkO q loose XP YP l.row.toRowW d [] (fun f vs => PySem.call f vs) := by
  refine Att.attach_call hn hdf fun w s₀ s₁ mg mb fa o pm cd doc a vs ns G Y ho hd hcd hmg hobj hints hlen hg => ?_
  obtain ⟨K, fd, sp, KX, hb, hsp, hF⟩ := F w mg fa _ Y G.T.g hmg
  exact law_callG KX G.T.g G.T.b G.T.builtins G.T.nolimit hg hobj hints (Nat.le_trans hlen hn2) hr hF hb (fun H hO hS => hsp H a ns hlen hO hS) fun H e s' => hCX H s₁ e s'
end L2
namespace DL
open PySem PySem.Spec PyProof.Rows L2
structure OkdG (P : Program) (w : World) (K : PySem.W.Frag) (mg : Str → Option Value) (base : Heap) (k : Nat) (x : Str) (ps : List Str) (b : Bool) (m : Nat) (D : DX) : Prop where
  ex : ∃ fd, mg x = some (.ref (He.ga K x)) ∧ PySem.W.keepIn K (.ref (He.ga K x)) = true ∧ Binds K fd ps [] ∧ FnG P w K mg base CX0 k (He.ga K x) fd ps (spD K b m D)
section
variable {X : Cx} {e : Expr} {es : List Expr} {te : TE} {ta : TA} {de : TD} {da : TDA} {k : Nat} {ps : List Str} {m : Nat} {D : DX} {x y : Str} {p p2 pos : Pos}
theorem de_callG (O : OkdG X.prog X.w X.K X.mg X.base k x ps false m D) (M : Pm m D) (hgs : X.A.guards = some []) (hr : Room k X.A) (hg : Gl X x) (ha : DA X (e :: es) ta da)
    (hdb : (x == ("__debug__" : Str)) = false := by decide) (he : starEach (e :: es) X.env = (false, eval e X.env) :: starEach es X.env := by rfl) (hpl : (backTo pos (starEach es X.env)).any (·.1) = false := by rfl) :
    DE X (.Call (.Name x p) (e :: es) [] pos) (tCall (spD X.K false m D) [] E0 ta) (dCall D da) := by
  obtain ⟨fd, h1, h2, h3, h4⟩ := O.ex
  exact ⟨pe_callG h4 hr hgs hg h1 h2 h3 .nil pass0 ha.pa hdb he hpl, sn_call _ M ha.sn⟩
theorem de_callGS {i : Nat} (O : OkdG X.prog X.w X.K X.mg X.base k x ps true m D) (M : Pm m D) (hgs : X.A.guards = some []) (hr : Room k X.A) (hg : Gl X x) (hv : PE X (.Name y p2) (tVar i)) (ha : DA X es ta da)
    (hdb : (x == ("__debug__" : Str)) = false := by decide) (he : starEach (.Name y p2 :: es) X.env = (false, eval (.Name y p2) X.env) :: starEach es X.env := by rfl) (hpl : (backTo pos (starEach es X.env)).any (·.1) = false := by rfl) :
    DE X (.Call (.Name x p) (.Name y p2 :: es) [] pos) (tCall (spD X.K true m D) [] E0 (tCons (tVar i) ta)) (dCallS i D da) := by
  obtain ⟨fd, h1, h2, h3, h4⟩ := O.ex
  exact ⟨pe_callG h4 hr hgs hg h1 h2 h3 .nil pass0 (pa_cons hv ha.pa he) hdb he hpl, sn_callS _ i M ha.sn⟩
end
section
variable {P : Program} {w : World} {K : PySem.W.Frag} {mg : Str → Option Value} {base : Heap}
theorem fnDG {x : Str} {st : Stmt} {f : Addr} {fd : FuncData} {N ps : List Str} {k m : Nat} {b : Bool} {D : DX} (F : FnP K x st f fd) (S : FnScope N ps (defScope st)) (hps : ps.length = (if b = true then 1 else 0) + m)
    (hbody : ∀ (cdv : Value) (A : Around) (outer : List Env) (s : Shared) (H : Hp) (E : XK), Room k (A.deeper (envOfC x (defScope st) s.heap.objs.size f cdv)) → A.guards = some [] →
      ∃ t td, DSs (cxOf CX0 P w K mg base N x (defScope st) f cdv A outer s H E).nox (defBody st) t td ∧ ∀ ds n Q, D ds n Q → td (ends Q) (entry b N ds n)) : FnG P w K mg base CX0 (k + 1) f fd ps (spD K b m D) := by
  refine F.okG S (fun vs H Q E h => by rw [spD_len h, hps]) (fun cdv A outer s H vs Q E hr hg h => ?_)
  obtain ⟨t, td, hd, hq⟩ := hbody cdv A outer s H E hr hg
  refine ⟨t, hd.ps.nox, ?_⟩
  have hlen := spD_len h
  obtain ⟨z, F0, n, us, ds, h1, h2, h3, h4, h5, h6⟩ := h
  have hpl : ps.length ≤ N.length := by have := congrArg List.length S.pre; rw [List.length_take] at this; omega
  refine hd.sn ⟨z, F0, H⟩ F0 H (start N vs) (entry b N ds n) _ _ (EnvOk.atStart h1 h2 h3 h5 (by omega)) (hq ds n _ h6) ⟨fun F' H' σ' s' g E' q => ?_, fun v d F' H' σ' s' g E' hv q => ?_, fun F' H' σ' s' g E' q => q.elim, fun F' H' σ' s' g E' q => q.elim⟩
  · exact q F' H' .non E'.f0 E'.bh E'.fh E'.fr E'.st .non
  · exact q F' H' v E'.f0 E'.bh E'.fh E'.fr E'.st hv
end
/-! ### repr -/
section
variable {K : PySem.W.Frag} {F : Hp}
mutual
theorem Dt.noDict : ∀ (d : PyData) (v : V), Dt K F v d → d.hasDict = false
  | .none, _, _ => by simp only [PyData.hasDict]
  | .bool b, _, _ => by simp only [PyData.hasDict]
  | .int i, _, _ => by simp only [PyData.hasDict]
  | .str x, _, _ => by simp only [PyData.hasDict]
  | .list ds, _, h => by
    cases h with
    | lst hs ha => simp only [PyData.hasDict]; exact DtAll.noDict ds _ ha
  | .tuple ds, _, h => by
    cases h with
    | tup hs ha => simp only [PyData.hasDict]; exact DtAll.noDict ds _ ha
  | .dict _, _, h => by cases h
theorem DtAll.noDict : ∀ (ds : List PyData) (vs : List V), DtAll K F vs ds → PyData.hasDictAll ds = false
  | [], _, _ => by simp only [PyData.hasDictAll]
  | d :: ds, _, h => by
    cases h with
    | cons h1 h2 => simp only [PyData.hasDictAll, Dt.noDict d _ h1, DtAll.noDict ds _ h2, Bool.or_false]
end
end
section
variable {X : Cx}
def nested : PyData → Bool
  | .none => true
  | .bool _ => true
  | .list _ => true
  | .tuple _ => true
  | _ => false
def reprR : RC := fun ds k => ∃ d, ds = [d] ∧ nested d = true ∧ d.showable = true ∧ d.depth ≤ 50 ∧ d.shown.length ≤ sizeLine ∧ k (.str d.shown)
def rRepr (K : PySem.W.Frag) : List V → Hp → VK → Prop := fun xs H Q => ∃ x d, xs = [x] ∧ Dp K H x d ∧ nested d = true ∧ d.hasDict = false ∧ d.showable = true ∧ d.depth ≤ 50 ∧ d.shown.length ≤ sizeLine ∧ Q (.str d.shown) H
theorem db_repr (hgs : X.A.guards = some []) (hu : X.A.units + 64 < cLine) : DB X (.builtin "repr") (rRepr X.K) reprR := by
  refine ⟨fun pins s σ H xs us Q I r h => ?_, fun Y F H σ s xs ds k Q E hv h q => ?_⟩
  · obtain ⟨x, d, rfl, hd, hn, hnd, hs, hdp, hz, q⟩ := h
    obtain ⟨u, rfl, r1⟩ := vals1 r
    obtain ⟨as, k1⟩ := Dp.reads I d x u hd r1
    cases hd with
    | non =>
      cases (show u = Value.none from r1)
      exact PySem.P.repr_of_none ⟨.str _, H, I.tok _, ⟨_, rfl⟩, q⟩
    | bl b =>
      cases (show u = Value.bool b from r1)
      refine PySem.P.repr_of_bool ⟨.str (PyData.bool b).shown, H, I.tok _, ⟨s.toks, rfl⟩, q⟩
    | int i => exact absurd hn Bool.false_ne_true
    | str z => exact absurd hn Bool.false_ne_true
    | lst hs' ha =>
      cases (show u = _ from r1)
      exact repr_of_reads' k1 hs (PyData.noDict_hsm hnd) hgs (by omega) (fun _ _ e => e) (fun h' u tk kp => ⟨.str _, H, I.kept kp, ⟨_, rfl⟩, q⟩) hz
    | tup hs' ha =>
      cases (show u = _ from r1)
      exact repr_of_reads' k1 hs (PyData.noDict_hsm hnd) hgs (by omega) (fun _ _ e => e) (fun h' u tk kp => ⟨.str _, H, I.kept kp, ⟨_, rfl⟩, q⟩) hz
  · obtain ⟨d, rfl, h1, h2, h3, h4, h5⟩ := h
    cases hv with
    | cons v1 v2 =>
      cases v2
      exact ⟨_, d, rfl, dp_of E.fh v1, h1, Dt.noDict d _ v1, h2, h3, h4, q _ _ F H (Same.refl F) E (.str _) h5⟩
end
end DL

set_option Elab.async false
set_option linter.all false
set_option maxRecDepth 100000
set_option maxHeartbeats 4000000
namespace DL
open PySem PySem.Spec PyProof.Rows L2
section
variable {X : Cx} {a b c d e : Expr} {ta tb tc td te : TE} {da db dc dd de : TD} {pos p2 p : Pos}
/-- {..}[e], four written keys -/
def dDict4 (k1 k2 k3 k4 : Str) (a b c d ix : TD) : TD := fun s Q => a ⟨s.r.map hide, s.n⟩ fun x s1 => b s1 fun y s2 => c s2 fun z s3 => d s3 fun u s4 => ix ⟨s.r.map hide, s4.n⟩ fun i s5 => ∃ k v, i = .str k ∧ [(k1, x), (k2, y), (k3, z), (k4, u)].lookup k = some v ∧ Q v ⟨s.r, s5.n⟩
theorem EnvOk.back2 {K : PySem.W.Frag} {Y : Fx} {F H F2 H2 : Hp} {σ σ2 : L2.St} {s s2 : DS} {p : Addr} {o o' : HO} (E : EnvOk K Y F H σ s) (hp : H p = none) (E2 : EnvOk K ⟨Y.z, F, upd H p o⟩ F2 H2 σ2 s2) : EnvOk K Y F2 (upd H2 p o') σ ⟨s.r, s2.n⟩ ∧ H2 p = some o := by
  have hw : ¬ Wr Y.z p := fun w => E.st.has w hp
  have e2 : H2 p = some o := E2.bh p o upd_same hw
  have f2 : F2 p = none := by
    cases q : F2 p with
    | none => rfl
    | some u =>
      rcases E2.fr p u q with z | z
      · have z1 : F p = some u := z
        rw [same_none E.fh hp] at z1
        cases z1
      · have z1 : (upd H p o) p = none := z
        rw [upd_same] at z1
        cases z1
  refine ⟨E.grow (n := s2.n) E2.f0 (fun a u q w => ?_) (fun a u q => ?_) (fun a u q => ?_) (fun a l q => ?_), e2⟩
  · have n1 : a ≠ p := ne_of_none q hp
    rw [upd_ne n1]
    exact E2.bh a u (by show upd H p o a = some u; rw [upd_ne n1]; exact q) w
  · rw [upd_ne (ne_of_none q f2)]
    exact E2.fh a u q
  · rcases E2.fr a u q with z | z
    · exact .inl z
    · have z1 : (upd H p o) a = none := z
      have n1 : a ≠ p := fun w => by rw [w, upd_same] at z1; cases z1
      rw [upd_ne n1] at z1
      exact .inr z1
  · obtain ⟨k1, k2, k3, pc, cs, ls, k4, k5, k6⟩ := E2.st a l q
    have n1 : a ≠ p := fun z => hw ⟨a, l, q, .inl z.symm⟩
    have n2 : l ≠ p := fun z => hw ⟨a, l, q, .inr z.symm⟩
    exact ⟨k1, k2, k3, pc, cs, ls, by rw [upd_ne n1]; exact k4, by rw [upd_ne n2]; exact k5, k6⟩
theorem merge4 {k1 k2 k3 k4 : Str} {v1 v2 v3 v4 : V} (h12 : k1 ≠ k2) (h13 : k1 ≠ k3) (h14 : k1 ≠ k4) (h23 : k2 ≠ k3) (h24 : k2 ≠ k4) (h34 : k3 ≠ k4) :
    mergeK [] [((Sum.inr k1 : Key), v1), (Sum.inr k2, v2), (Sum.inr k3, v3), (Sum.inr k4, v4)] = [((Sum.inr k1 : Key), v1), (Sum.inr k2, v2), (Sum.inr k3, v3), (Sum.inr k4, v4)] := by
  simp [mergeK, putK, h12, h13, h14, h23, h24, h34]
theorem val4 {K : PySem.W.Frag} {F : Hp} {k : Str} {v : PyData} : ∀ {ks : List (Str × PyData)} {vs : List (Key × V)}, Paired (fun p q => q.1 = Sum.inr p.1 ∧ Dt K F q.2 p.2) ks vs → ks.lookup k = some v → ∃ w, valV vs (Sum.inr k) = some w ∧ Dt K F w v
  | _, _, .nil, h => by cases h
  | (k1, x) :: ks, _, .cons h r, hl => by
    rename_i q vs
    obtain ⟨q1, q2⟩ := q
    obtain ⟨e, hv⟩ := h
    have e' : q1 = Sum.inr k1 := e
    subst e'
    rw [List.lookup_cons] at hl
    by_cases hk : k = k1
    · subst hk
      simp at hl
      subst hl
      exact ⟨q2, valV_pos rfl, hv⟩
    · have hb : (k == k1) = false := beq_eq_false_iff_ne.mpr hk
      rw [hb] at hl
      obtain ⟨w, h1, h2⟩ := val4 r hl
      exact ⟨w, by rw [valV_neg (fun z => hk (Sum.inr.inj z).symm)]; exact h1, h2⟩
theorem de_dict4 {k1 k2 k3 k4 : Str} {q1 q2 q3 q4 : Pos} {j1 j2 j3 j4} (hu : X.A.units + 64 < cLine) (ha : DE X a ta da) (hb : DE X b tb db) (hc : DE X c tc dc) (hd : DE X d td dd) (he : DE X e te de) (hs : NoSl e)
    (h12 : k1 ≠ k2) (h13 : k1 ≠ k3) (h14 : k1 ≠ k4) (h23 : k2 ≠ k3) (h24 : k2 ≠ k4) (h34 : k3 ≠ k4) :
    DE X (.Subscript (.Dict [some (.Constant (.str k1) j1 q1), some (.Constant (.str k2) j2 q2), some (.Constant (.str k3) j3 q3), some (.Constant (.str k4) j4 q4)] [a, b, c, d] p2) e pos)
      (tDGet (tDisp [(tC (.str k1), ta), (tC (.str k2), tb), (tC (.str k3), tc), (tC (.str k4), td)]) te) (dDict4 k1 k2 k3 k4 da db dc dd de) :=
  ⟨pe_dget (by omega) (pe_disp (pps_cons pe_str ha.pe (pps_cons pe_str hb.pe (pps_cons pe_str hc.pe (pps_cons pe_str hd.pe pps_nil)))) rfl rfl (by simp) (show 4 ≤ 15 by decide)) he.pe hs, fun Y F H σ s Qd Q E q k => by
    intro p hp
    have E0 := (E.alloc2 (.dK []) hp).rebase
    refine ha.sn _ F _ σ _ _ _ E0 q fun v1 d1 F1 H1 s1 g1 E1 w1 q1 => ?_
    refine hb.sn _ F1 H1 σ _ _ _ E1 q1 fun v2 d2 F2 H2 s2 g2 E2 w2 q2 => ?_
    refine hc.sn _ F2 H2 σ _ _ _ E2 q2 fun v3 d3 F3 H3 s3 g3 E3 w3 q3 => ?_
    refine hd.sn _ F3 H3 σ _ _ _ E3 q3 fun v4 d4 F4 H4 s4 g4 E4 w4 q4 => ?_
    have w1 := ((w1.mono g2).mono g3).mono g4
    have w2 := (w2.mono g3).mono g4
    have w3 := w3.mono g4
    obtain ⟨E5, e5⟩ := E.back2 (o' := .dK (mergeK [] [((Sum.inr k1 : Key), v1), (Sum.inr k2, v2), (Sum.inr k3, v3), (Sum.inr k4, v4)])) hp E4
    refine ⟨e5, [((Sum.inr k1 : Key), v1), (Sum.inr k2, v2), (Sum.inr k3, v3), (Sum.inr k4, v4)], rfl, by show 4 ≤ 15; decide, ?_⟩
    -- the subscript, on a footing that keeps the dict
    have hw : ¬ Wr Y.z p := fun w => E.st.has w hp
    have g := ((g1.trans g2).trans g3).trans g4
    have E6 := E5.rebase
    refine he.sn _ F4 _ σ _ _ _ E6 q4 fun v5 d5 F5 H5 s5 g5 E7 w5 q5 => ?_
    obtain ⟨kk, v, rfl, hl, q5⟩ := q5
    cases w5
    have e7 := E7.bh p _ upd_same hw
    obtain ⟨w, l1, l2⟩ := val4 (K := X.K) (F := F4) (vs := [((Sum.inr k1 : Key), v1), (Sum.inr k2, v2), (Sum.inr k3, v3), (Sum.inr k4, v4)]) (.cons ⟨rfl, w1⟩ (.cons ⟨rfl, w2⟩ (.cons ⟨rfl, w3⟩ (.cons ⟨rfl, w4⟩ .nil)))) hl
    rw [merge4 h12 h13 h14 h23 h24 h34] at e7
    exact ⟨p, w, rfl, .inl ⟨_, Sum.inr kk, .inl e7, rfl, l1.symm⟩, k w v F5 H5 _ (g.trans g5) (E5.back E7) (l2.mono g5) q5⟩⟩
end
end DL

set_option Elab.async false
set_option linter.all false
set_option maxRecDepth 100000
set_option maxHeartbeats 4000000
namespace DL
open PySem PySem.Spec PyProof.Rows L2 PySem.W
/-! ### sorted(xs, key=f), f a def of the text -/
def rSortK (K : PySem.W.Frag) (f0 : Addr) (D : DX) : List V → List V → Hp → VK → Prop := fun vs zs H Q => ∃ (z : Option (Addr × Addr)) (G : Hp) (n : Nat) (a : Addr) (ds : List PyData) (key : PyData → PyData), vs = [.ref a] ∧ zs = [.ref f0] ∧ Same G H ∧ StAt z G H n ∧ Dt K G (.ref a) (.list ds) ∧
  (∀ d, d ∈ ds → D [d] n fun y n' => y = key d ∧ n' = n) ∧ AllAlike (ds.map key) ∧ Sortable (ds.map key) ∧ (∀ d, d ∈ ds → (key d).depth ≤ 50) ∧ ds.length ≤ sizeLine ∧
  ∀ F' H' p us, Same G F' → (∀ a o, H a = some o → ¬ Wr z a → H' a = some o) → Same F' H' → (∀ a o, F' a = some o → G a = some o ∨ H a = none) → StAt z F' H' n → H' p = none → H p = none → DtAll K F' us (ds.mergeSort (dataLe false key)) → Q (.ref p) (upd H' p (.lst us))
theorem each_vals {K : PySem.W.Frag} {F : Hp} : ∀ {its : List Value} {vs : List V} {ds : List PyData}, Vals vs its → DtAll K F vs ds → EachIs (fun u d => ∃ v, RelV v u ∧ Dt K F v d) its ds
  | [], _, _, .nil, h => by cases h; exact .nil
  | _ :: _, _, _, .cons r rs, h => by
    cases h with
    | cons h1 h2 => exact .cons ⟨_, r, h1⟩ (each_vals rs h2)
theorem vals_each {K : PySem.W.Frag} {F : Hp} : ∀ {its : List Value} {ds : List PyData}, EachIs (fun u d => ∃ v, RelV v u ∧ Dt K F v d) its ds → ∃ vs, Vals vs its ∧ DtAll K F vs ds
  | [], _, h => by cases h; exact ⟨[], .nil, .nil⟩
  | _ :: _, _, h => by
    cases h with
    | cons h1 h2 =>
      obtain ⟨v, r, d⟩ := h1
      obtain ⟨vs, rs, da⟩ := vals_each h2
      exact ⟨v :: vs, .cons r rs, .cons d da⟩
section
variable {X : Cx}
theorem call_sortK {k : Nat} {f0 : Addr} {fd : FuncData} {ps : List Str} {D : DX} (F : FnOk X.prog X.w X.K X.mg X.base CX0 k f0 fd ps (spD X.K false 1 D)) (M : Pm 1 D) (hr : Room (k + 2) X.A) (hu : X.A.units + 64 < cLine) (hb : Binds X.K fd ps []) : CallRK X (.builtin "sorted") [Str.ofString "key"] (rSortK X.K f0 D) := by
  intro pins s σ H vs zs us ws Q I r rz h
  obtain ⟨z, G, n, a, ds, key, rfl, rfl, gH, st, hd, hturn, hal, hsk, hdp, hz, q⟩ := h
  obtain rfl := Vals.ref1 r
  obtain ⟨w1, rfl, e1⟩ := vals1 rz
  obtain rfl : w1 = Value.ref f0 := e1
  cases hd with
  | @lst a xs _ ha hs =>
    obtain ⟨its, rv, hl, hzl⟩ := I.list (SqL.of (gH _ _ ha))
    have hlen : its.length = ds.length := by rw [← rv.length, hs.len]
    have hZ : its.length ≤ sizeLine := by rw [hlen]; exact hz
    refine sorted_of_sort (vs := its) hl.isList hZ (PyProof.Rows.ksk_s1 _ _) (fun _ => PyProof.Rows.ksk_l1 _ _) fun E' => ?_
    show wpAny _ _ (Builtin.«list.sort» ⟨[.ref (s.heap.objs.size + 1)], [(Str.ofString "key", .ref f0)]⟩) _ _ _
    rw [ksk_t1]
    have ho : (copyHeap s.heap its).get? (s.heap.objs.size + 1) = some (seqObj "list" its.toArray 0) := copyHeap_at s.heap its
    have hold : ∀ b o, s.heap.get? b = some o → (copyHeap s.heap its).get? b = some o := fun b o e => copyHeap_old e
    generalize ec : copyHeap s.heap its = hc at ho hold ⊢
    obtain ⟨e1, ho1⟩ : ∃ e1, (hc.update (s.heap.objs.size + 1) (Obj.mapSeq fun _ => (#[] : Array Value))).get? (s.heap.objs.size + 1) = some (seqObj "list" #[] e1) := ⟨_, get?_update_seq ho fun _ => #[]⟩
    have ha' : s.heap.objs.size + 1 < hc.objs.size := Heap.lt_size ho
    unfold ksk_tree
    refine wpAny_bind (listItems_at ho rfl ?_)
    refine wpAny_bind (listUpdate_at ho rfl ?_ (by rw [List.size_toArray]; exact hZ) (Nat.zero_le _))
    refine wpAny_bind (seqEpoch_at ho1 rfl ?_)
    refine wpAny_bind (wpAny_newTuple ?_ (by show its.length ≤ _; exact hZ))
    refine wpAny_bind (wpAny_newList ?_ (Nat.zero_le _))
    refine wpAny_holding ?_
    have hkS : ((hc.update (s.heap.objs.size + 1) (Obj.mapSeq fun _ => (#[] : Array Value))).push (seqObj "tuple" its.toArray 0)).objs.size = hc.objs.size + 1 := by rw [size_push', Heap.size_update]
    have hS : (((hc.update (s.heap.objs.size + 1) (Obj.mapSeq fun _ => (#[] : Array Value))).push (seqObj "tuple" its.toArray 0)).push (seqObj "list" #[] 0)).get? ((hc.update (s.heap.objs.size + 1) (Obj.mapSeq fun _ => (#[] : Array Value))).push (seqObj "tuple" its.toArray 0)).objs.size = some (seqObj "list" #[] 0) := Heap.get?_push_size _ rfl
    have hA : (((hc.update (s.heap.objs.size + 1) (Obj.mapSeq fun _ => (#[] : Array Value))).push (seqObj "tuple" its.toArray 0)).push (seqObj "list" #[] 0)).get? (s.heap.objs.size + 1) = some (seqObj "list" #[] e1) := Heap.get?_push_of_some _ (Heap.get?_push_of_some _ ho1)
    have kp : ∀ b o, s.heap.get? b = some o → (((hc.update (s.heap.objs.size + 1) (Obj.mapSeq fun _ => (#[] : Array Value))).push (seqObj "tuple" its.toArray 0)).push (seqObj "list" #[] 0)).get? b = some o := fun b o e => by
      have hne : b ≠ s.heap.objs.size + 1 := Nat.ne_of_lt (Nat.lt_succ_of_lt (Heap.lt_size e))
      exact Heap.get?_push_of_some _ (Heap.get?_push_of_some _ (((Heap.SameBut.update hc (s.heap.objs.size + 1) (Obj.mapSeq fun _ => (#[] : Array Value))).2 b hne).trans (hold b o e)))
    rw [hkS] at hS ⊢
    generalize eh : ((hc.update (s.heap.objs.size + 1) (Obj.mapSeq fun _ => (#[] : Array Value))).push (seqObj "tuple" its.toArray 0)).push (seqObj "list" #[] 0) = h2 at hS hA kp ⊢
    have hSs : s.heap.objs.size ≤ hc.objs.size + 1 := Nat.le_of_lt (Nat.lt_of_lt_of_le (Nat.lt_succ_self _) (Nat.le_trans (Nat.le_of_lt ha') (Nat.le_succ _)))
    have hne : hc.objs.size + 1 ≠ s.heap.objs.size + 1 := Nat.ne_of_gt (Nat.lt_succ_of_lt ha')
    generalize hc.objs.size + 1 = kS at hS hSs hne ⊢
    have hAs : s.heap.objs.size ≤ s.heap.objs.size + 1 := Nat.le_succ _
    generalize s.heap.objs.size + 1 = a' at hA hAs hne ⊢
    have fpS := I.fpOk hSs (I.hok.fresh hSs)
    have fpA := I.fpOk hAs (I.hok.fresh hAs)
    have I2 : Inv X pins σ H { s with heap := h2 } := I.kept (t' := s.toks) kp
    unfold ksk_rest
    refine wpAny_bind (wpAny_rule ?_)
    first
      | rw [List.forIn_toArray]
      | (rw [← Array.forIn_toList]; simp only [List.toList_toArray])
      | rw [← Array.forIn_toList]
    refine wpAny_bind (ksk_fold (fun i s' => ∃ H' F' kA e kvs, Inv X pins σ H' s' ∧ Same G F' ∧ (∀ b o, H b = some o → ¬ Wr z b → H' b = some o) ∧ Same F' H' ∧ (∀ b o, F' b = some o → G b = some o ∨ H b = none) ∧ StAt z F' H' n ∧ H' kS = none ∧ H' a' = none ∧
      s'.heap.get? kS = some (seqObj "list" kA e) ∧ s'.heap.get? a' = some (seqObj "list" #[] e1) ∧ Vals kvs kA.toList ∧ DtAll X.K F' kvs ((ds.map key).take i)) its 0 _
      ⟨H, G, #[], 0, [], I2, Same.refl G, fun _ _ e _ => e, gH, fun _ _ e => .inl e, st, fpS.1, fpA.1, hS, hA, .nil, by rw [List.take_zero]; exact .nil⟩ ?step ?done)
    case step =>
      rintro j x s' hx ⟨H', F', kA, e, kvs, I', g', hK, fH, fr, st', nS, nA, oS, oA, rk, dk⟩
      simp only [Nat.zero_add] at dk ⊢
      have hj : j < its.length := (List.getElem?_eq_some_iff.mp hx).1
      obtain ⟨xv, hxv, rx⟩ : ∃ v, xs[j]? = some v ∧ RelV v x := by
        obtain ⟨v, e1⟩ : ∃ v, xs[j]? = some v := ⟨_, List.getElem?_eq_getElem (by rw [rv.length]; exact hj)⟩
        obtain ⟨u, e2, e3⟩ := rv.get e1
        rw [hx] at e2
        cases e2
        exact ⟨v, e1, e3⟩
      obtain ⟨d, hdj, dv⟩ := hs.got hxv
      have hkA : kA.size ≤ its.length := by
        have h1 := rk.length
        have h2 := dk.len
        rw [List.length_take, List.length_map] at h2
        have h3 := Array.length_toList (xs := kA)
        omega
      have sp : spD X.K false 1 D [xv] H' (fun v H'' => ∃ F'', Same F' F'' ∧ (∀ b o, H' b = some o → ¬ Wr z b → H'' b = some o) ∧ Same F'' H'' ∧ (∀ b o, F'' b = some o → F' b = some o ∨ H' b = none) ∧ StAt z F'' H'' n ∧ Dt X.K F'' v (key d)) E0 := by
        refine ⟨z, F', n, [xv], [d], fH, st', ?_, rfl, .one (dv.mono g'), M.mono _ _ _ _ (fun y n' hy F2 H2 v a1 a2 a3 a4 a5 a6 => ?_) (hturn d (List.mem_of_getElem? hdj))⟩
        · unfold stArg
          rw [if_neg Bool.false_ne_true]
        · obtain ⟨rfl, rfl⟩ := hy
          exact ⟨F2, a1, a2, a3, a4, a5, a6⟩
      have hlen1 : ([x] ++ ([] : List Value)).length = ps.length := by
        have h1 := F.len _ _ _ _ sp
        rw [List.append_nil]
        exact h1
      refine wpAny_bind (wpAny_attempt ?_)
      have hbt := hb s' [x] I'.kIn hlen1
      rw [List.append_nil] at hbt
      refine wpAny_call (codeAny_mono (F.run X.A.in1.in1 X.stack s' H' ⟨[x], []⟩ [x] [xv] _ E0 (hr.in1.in1) I'.env0.in1.in1 hbt (.cons rx .nil) sp) fun r s'' hq => ?_)
      cases r with
      | error e => exact False.elim hq
      | ok fl =>
        cases fl with
        | next => exact False.elim hq
        | brk => exact False.elim hq
        | cont => exact False.elim hq
        | ret u =>
          obtain ⟨v, H3, os, bare, un, hok, ru, F3, b1, b2, b3, b4, b5, b6⟩ := hq
          have I3 : Inv X pins σ H3 s'' := I'.call' (ch := []) os un hok bare (fun b hb => absurd hb (by simp))
          have nofs : ∀ {b : Addr}, b ≠ X.env.locals ∧ b ∉ X.fs → b ∉ frs X.stack := fun {b} h1 h2 => (List.mem_cons.mp (I'.stkSub b h2)).elim h1.1 h1.2
          have oS3 : s''.heap.get? kS = some (seqObj "list" kA e) := un.keep _ _ oS nS (nofs ⟨fpS.2.1, fpS.2.2.1⟩) (by simp)
          have oA3 : s''.heap.get? a' = some (seqObj "list" #[] e1) := un.keep _ _ oA nA (nofs ⟨fpA.2.1, fpA.2.2.1⟩) (by simp)
          have nS3 : H3 kS = none := un.free _ _ oS nS (by simp)
          have nA3 : H3 a' = none := un.free _ _ oA nA (by simp)
          have s1 := Heap.SameBut.update s''.heap kS (Obj.mapSeq (·.push u))
          obtain ⟨c2, hc2⟩ : ∃ c2, (s''.heap.update kS (Obj.mapSeq (·.push u))).get? kS = some (seqObj "list" (kA.push u) c2) := ⟨_, get?_update_seq oS3 (·.push u)⟩
          try dsimp only
          refine wpAny_bind (listUpdate_at oS3 rfl ?_ (Nat.le_trans hkA hZ) (Nat.le_trans (Nat.le_of_eq (Array.size_push ..)) (Nat.succ_le_succ (Nat.le_trans hkA hZ))))
          have I4 : Inv X pins σ H3 { s'' with heap := s''.heap.update kS (Obj.mapSeq (·.push u)) } := I3.turned (t' := s''.toks) (fun b o hb e => (s1.2 b hb).trans e) nS3 fpS.2.1 fpS.2.2.2.1 fpS.2.2.2.2.1 fpS.2.2.2.2.2
          refine wpAny_pure ⟨rfl, H3, F3, kA.push u, c2, kvs ++ [v], I4, g'.trans b1, fun b o e w => b2 b o (hK b o e w) w, b3, fun b o e => ?_, b5, nS3, nA3, hc2, (s1.2 a' hne.symm).trans oA3, ?_, ?_⟩
          · rcases b4 b o e with w | w
            · exact fr b o w
            · by_cases hw : Wr z b
              · refine absurd w ?_
                exact st'.has hw
              · refine .inr ?_
                cases q : H b with
                | none => rfl
                | some o2 => rw [hK b o2 q hw] at w; cases w
          · rw [Array.toList_push]
            exact rk.append (.cons ru .nil)
          · have ek : (ds.map key).take (j + 1) = (ds.map key).take j ++ [key d] := by
              rw [List.take_add_one, List.getElem?_map, hdj]
              simp
            rw [ek]
            exact (DtAll.mono b1 _ _ dk).app (.one b6)
    case done =>
      rintro s' ⟨H', F', kA, e, kvs, I', g', hK, fH, fr, st', nS, nA, oS, oA, rk, dk⟩
      have e3 : (ds.map key).take (0 + its.length) = ds.map key := List.take_of_length_le (by rw [List.length_map]; omega)
      rw [e3] at dk
      have hk' : EachIs (fun v k => ∃ as, Reads s'.heap v k as) kA.toList (ds.map key) := by
        refine (each_vals rk dk).mono fun u d ⟨v, ru, dv⟩ => Dp.reads I' d v u (dp_of fH dv) ru
      have hsz : kA.size = its.length := by
        have h1 := hk'.length
        rw [Array.length_toList, List.length_map] at h1
        omega
      try dsimp only
      refine wpAny_bind (listItems_at oS rfl ?_)
      obtain ⟨Gh, g1, g2⟩ := restrict s'.heap fun b => decide (b ≠ kS)
      have gk : ∀ b o, b ≠ kS → s'.heap.get? b = some o → Gh.get? b = some o := fun b o hb e => by
        rw [g1 b (decide_eq_true hb)]
        exact e
      have ga : Gh.get? kS = none := g2 kS (decide_eq_false fun z => z rfl)
      have gs : KeepsBut a' Gh s'.heap := fun b o _ e => by
        by_cases hb : b = kS
        · rw [hb, ga] at e
          cases e
        · rw [← g1 b (decide_eq_true hb)]
          exact e
      refine keyH_end (κ := dataKind s'.heap (ds.map key)) (h₁ := Gh) (vs := its) gs ga oS oA hne (SortsAt.data (s := s') hk' hal hsk (fun d hd => ?_)) hsz hZ fun h3 tk3 c k3 n3 => ?_
      · obtain ⟨d0, hd0, rfl⟩ := List.mem_map.mp hd
        have := hdp d0 hd0
        show X.A.units + 1 + 1 + _ < cLine
        omega
      · refine ⟨rfl, ?_⟩
        have ko : KeyedOut false (ds.map key) its (sortVals (dataKind s'.heap (ds.map key)) false kA.toList its) := ⟨s'.heap, kA.toList, hal, rfl, hk'⟩
        obtain ⟨us, ru, du⟩ := vals_each (keyedOut_each key ko (each_vals rv (DtAll.mono g' _ _ hs)))
        have kk : ∀ b o, b ≠ kS → b ≠ a' → s'.heap.get? b = some o → h3.get? b = some o := fun b o h1 h2 e => k3 b o h2 (gk b o h1 e)
        have I5 : Inv X pins σ H' { s' with heap := h3, toks := tk3 } := I'.turnedL (ch := [kS, a']) (t' := tk3) (fun b o hb e => kk b o (fun z => hb (by simp [z])) (fun z => hb (by simp [z])) e) fun b hb => by
          have e' : b = kS ∨ b = a' := by simpa using hb
          rcases e' with w | w
          · rw [w]; exact ⟨nS, fpS.2⟩
          · rw [w]; exact ⟨nA, fpA.2⟩
        have new : ObjOk X.prog X.w (upd H' a' (.lst us)) h3 a' (.lst us) := by
          refine ⟨?_, _, c, ru, n3⟩
          rw [ru.length]
          have : (sortVals (dataKind s'.heap (ds.map key)) false kA.toList its).length = its.length := sortVals_length false (by rw [Array.length_toList]; exact hsz)
          omega
        have un : Un (frs X.stack) [a'] H' (upd H' a' (.lst us)) h3 h3 := by
          refine ⟨fun b o e _ _ _ => e, fun b o e _ _ _ => ⟨o.slots, e⟩, fun b o e h1 h2 => ?_, fun b o e _ => ⟨o, e⟩, fun b xs e => ?_, fun b o u e => ?_, fun b ps e => ⟨#[], ?_⟩⟩
          · rw [upd_ne (by simpa using h2)]; exact h1
          · rw [upd_ne (ne_of_none e nA)]; exact e
          · rw [upd_ne (ne_of_none e nA)]; exact e
          · rw [upd_ne (ne_of_none e nA), e]; simp
        have hok : HOk X.prog X.w (upd H' a' (.lst us)) h3 := fun b u e => by
          by_cases hb : b = a'
          · subst hb; rw [upd_same] at e; cases e; exact new
          · rw [upd_ne hb] at e
            exact (I5.hok b u e).stay (fun _ _ _ q => q) (fun c q => by rw [upd_ne (ne_of_none q nA)]; exact q) fun c xs q => by rw [upd_ne (ne_of_none q nA)]; exact q
        have I6 : Inv X pins σ (upd H' a' (.lst us)) { s' with heap := h3, toks := tk3 } := Inv.call (s := { s' with heap := h3, toks := tk3 }) I5 (ch := [a']) (g' := s'.gens) (d' := s'.drawn) (t' := tk3) un hok I5.bare fun b hb => by
          have e' : b = a' := by simpa using hb
          rw [e']
          exact ⟨fpA.2.2.2.1, fpA.2.1, fpA.2.2.2.2.1, fpA.2.2.2.2.2⟩
        exact ⟨.ref a', _, I6, rfl, q F' H' a' us g' hK fH fr st' nA fpA.1 du⟩
end
end DL

set_option Elab.async false
set_option linter.all false
set_option maxRecDepth 100000
set_option maxHeartbeats 4000000
namespace DL
open PySem PySem.Spec PyProof.Rows L2
open PySem.W (AlikeAll AllAlike Sortable dataLe)
/-! ### sorted(e, key=f) -/
def dSortK (D : DX) (t : TDA) : TD := fun s Q => t s fun xs s1 => ∃ (ds : List PyData) (key : PyData → PyData), xs = [.list ds] ∧ (∀ d, d ∈ ds → D [d] s1.n fun y n' => y = key d ∧ n' = s1.n) ∧ PySem.W.AllAlike (ds.map key) ∧ PySem.W.Sortable (ds.map key) ∧ (∀ d, d ∈ ds → (key d).depth ≤ 50) ∧ ds.length ≤ sizeLine ∧
  Q (.list (ds.mergeSort (PySem.W.dataLe false key))) s1
section
variable {X : Cx} {a b e o : Expr} {es : List Expr} {ta tb te to : TE} {da db de : TD} {pos p p2 apos : Pos} {ts : TA} {ds : TDA}
theorem de_sortK {k : Nat} {x y : Str} {ps : List Str} {D : DX} {kp kpos : Pos} (O : Okd X.prog X.w X.K X.mg X.base k x ps false 1 D) (M : Pm 1 D) (hr : Room (k + 2) X.A) (hu : X.A.units + 64 < cLine) (hg : Gl X x) (hgy : Gl X y) (hmy : X.mg y = none) (hvy : bootBuiltins y = some (.builtin "sorted")) (ha : DA X [e] ts ds)
    (hdb : (x == ("__debug__" : Str)) = false := by decide) (hny : y ≠ "__name__" := by decide) (hdby : (y == ("__debug__" : Str)) = false := by decide)
    (he : backTo pos (starEach [e] X.env) = (false, eval e X.env) :: backTo pos (starEach [] X.env) := by rfl) (hpl : (backTo pos (starEach [e] X.env)).any (·.1) = false := by rfl) :
    DE X (.Call (.Name y p) [e] [⟨some "key", .Name x kp, kpos⟩] pos) (tCKw (rSortK X.K (He.ga X.K x) D) ts (tCons (tC (.ref (He.ga X.K x))) tNil)) (dSortK D ds) := by
  obtain ⟨fd, h1, h2, h3, h4⟩ := O.ex
  refine ⟨pe_callBK (call_sortK h4 M hr hu h3) hgy hmy hvy ha.pa (pk_cons (pe_glob (v := .ref (He.ga X.K x)) hg h1 rfl hdb) pk_nil) hny hdby he hpl rfl rfl rfl, fun Y F H σ s Qd Q E q k => ?_⟩
  refine ha.sn Y F H σ s _ _ E q fun vs d F1 H1 s1 g1 E1 v1 q1 => ?_
  obtain ⟨xs, key, rfl, h5, h6, h7, h8, h9, q1⟩ := q1
  cases v1 with
  | cons w1 w2 =>
    cases w2
    cases w1 with
    | @lst l us _ hl hs =>
      refine ⟨Y.z, F1, s1.n, l, xs, key, rfl, rfl, E1.fh, E1.st, .lst hl hs, h5, h6, h7, h8, h9, fun F2 H2 q us g2 hK fH fr st hp _ hd => ?_⟩
      have E2 := E1.grow (n := s1.n) g2 hK fH fr st
      exact k _ _ _ _ s1 ((g1.trans g2).trans (same_upd (same_none E2.fh hp))) (E2.alloc _ hp) (dl_at hd (same_none E2.fh hp)) q1
end
/-! ### the pool's end -/
section
variable {K : PySem.W.Frag} {Y : Fx} {F H : Hp} {σ : L2.St} {s : DS}
theorem EnvOk.over (E : EnvOk K Y F H σ s) {p : Addr} (o : HO) (fp : F p = none) (bp : Y.B p = none) (nw : ¬ Wr Y.z p) (no : ∀ (i : Nat) (xs : List PyData), s.r[i]? = some (.own xs) → σ[i]? ≠ some (some (.ref p))) : EnvOk K Y F (upd H p o) σ s := by
  refine ⟨fun a u z => ?_, E.f0, E.fr, fun a u z wz => ?_, fun a l z => ?_, E.ln, fun j z ez => ?_, E.nd⟩
  · rw [upd_ne (ne_of_none z fp)]; exact E.fh a u z
  · rw [upd_ne (ne_of_none z bp)]; exact E.bh a u z wz
  · obtain ⟨m1, m2, m3, pc, cs, ls, m4, m5, m6⟩ := E.st a l z
    have n1 : a ≠ p := fun w => nw ⟨a, l, z, .inl w.symm⟩
    have n2 : l ≠ p := fun w => nw ⟨a, l, z, .inr w.symm⟩
    exact ⟨m1, m2, m3, pc, cs, ls, by rw [upd_ne n1]; exact m4, by rw [upd_ne n2]; exact m5, m6⟩
  · have zz := E.sl j z ez
    cases z with
    | un => trivial
    | d x => exact zz
    | st => exact zz
    | own zs =>
      obtain ⟨c, z1, ⟨ws, z2, z3⟩, z4⟩ := zz
      have nc : c ≠ p := fun w => no j zs ez (by rw [← w]; exact z1)
      exact ⟨c, z1, ⟨ws, by rw [upd_ne nc]; exact z2, z3⟩, z4⟩
end
theorem putK_vals {kvs : List (Key × V)} {k : Key} {v : V} {q : Key × V} (h : q ∈ putK kvs k v) : q.2 = v ∨ ∃ q' ∈ kvs, q'.2 = q.2 := by
  unfold putK at h
  split at h
  · obtain ⟨q', h1, rfl⟩ := List.mem_map.mp h
    by_cases hk : q'.1 = k
    · rw [if_pos hk]; exact .inl rfl
    · rw [if_neg hk]; exact .inr ⟨q', h1, rfl⟩
  · rcases List.mem_append.mp h with h | h
    · exact .inr ⟨q, h, rfl⟩
    · rw [List.mem_singleton.mp h]; exact .inl rfl
theorem putK_ne {kvs : List (Key × V)} {k : Key} {v : V} : putK kvs k v ≠ [] := by
  unfold putK
  split
  · rename_i h
    intro z
    rw [List.map_eq_nil_iff] at z
    subst z
    simp at h
  · simp
theorem mergeK_vals : ∀ {more kvs : List (Key × V)} {q : Key × V}, q ∈ mergeK kvs more → (∃ q' ∈ more, q'.2 = q.2) ∨ ∃ q' ∈ kvs, q'.2 = q.2
  | [], _, q, h => .inr ⟨q, h, rfl⟩
  | p :: r, kvs, q, h => by
    have h' : q ∈ mergeK (putK kvs p.1 p.2) r := h
    rcases mergeK_vals h' with ⟨q', h1, h2⟩ | ⟨q', h1, h2⟩
    · exact .inl ⟨q', List.mem_cons_of_mem _ h1, h2⟩
    · rcases putK_vals h1 with e | ⟨q2, h3, h4⟩
      · exact .inl ⟨p, List.mem_cons_self, by rw [← h2]; exact e.symm⟩
      · exact .inr ⟨q2, h3, h4.trans h2⟩
theorem mergeK_ne : ∀ {more kvs : List (Key × V)}, kvs ≠ [] → mergeK kvs more ≠ []
  | [], _, h => h
  | p :: r, kvs, _ => mergeK_ne (more := r) (kvs := putK kvs p.1 p.2) putK_ne
/-- rows = dict(e); return sorted([rows[word] for word in rows], key=f) -/
def dPoolEnd (i j : Nat) (D : DX) (t : TDA) : TDS := fun Dd s => t s fun xs s1 => (i < s1.r.length ∧ j < s1.r.length) ∧ ∃ (ps : List (Str × PyData)) (key : PyData → PyData), xs = [.list (ps.map fun p => .tuple [.str p.1, p.2])] ∧ ps ≠ [] ∧ ps.length ≤ 1000 ∧ (∀ p, p ∈ ps → D [p.2] s1.n fun y n' => y = key p.2 ∧ n' = s1.n) ∧
  (∀ p, p ∈ ps → (key p.2).depth ≤ 50) ∧ (∀ ds : List PyData, (∀ d, d ∈ ds → ∃ p, p ∈ ps ∧ p.2 = d) → PySem.W.AllAlike (ds.map key) ∧ PySem.W.Sortable (ds.map key)) ∧
  ∀ (ds : List PyData) (r : List Sl), ds ≠ [] → ds.length ≤ ps.length → (∀ d, d ∈ ds → ∃ p, p ∈ ps ∧ p.2 = d) → Dd.rt (.list ds) ⟨r, s1.n⟩
theorem pool_pairs {K : PySem.W.Frag} {F : Hp} : ∀ {ps : List (Str × PyData)} {vs : List V}, DtAll K F vs (ps.map fun p => .tuple [.str p.1, p.2]) → ∃ (as : List Addr) (kvs : List (Key × V)), vs = as.map V.ref ∧ Paired (fun p kv => SqT K F p [kV kv.1, kv.2]) as kvs ∧ kvs.length = ps.length ∧ ∀ q, q ∈ kvs → ∃ p, p ∈ ps ∧ Dt K F q.2 p.2
  | [], _, h => by cases h; exact ⟨[], [], rfl, .nil, rfl, fun q hq => nomatch hq⟩
  | p :: ps, _, h => by
    cases h with
    | cons h1 h2 =>
      obtain ⟨as, kvs, rfl, hp, hl, hm⟩ := pool_pairs h2
      cases h1 with
      | @tup a us _ ha hs =>
        cases hs with
        | cons w1 w2 =>
          cases w2 with
          | cons w2 w3 =>
            cases w3
            cases w1
            refine ⟨a :: as, ((Sum.inr p.1 : Key), _) :: kvs, rfl, .cons ha hp, by rw [List.length_cons, List.length_cons, hl], fun q hq => ?_⟩
            rcases List.mem_cons.mp hq with rfl | hq
            · exact ⟨p, List.mem_cons_self, w2⟩
            · obtain ⟨p', h1, h2⟩ := hm q hq
              exact ⟨p', List.mem_cons_of_mem _ h1, h2⟩
end DL

set_option Elab.async false
set_option linter.all false
set_option maxRecDepth 100000
set_option maxHeartbeats 4000000
namespace DL
open PySem PySem.Spec PyProof.Rows L2
theorem valV_mem : ∀ {kvs : List (Key × V)} {k : Key} {v : V}, (k, v) ∈ kvs → ∃ w, valV kvs k = some w ∧ ∃ q, q ∈ kvs ∧ q.2 = w
  | p :: kvs, k, v, h => by
    by_cases e : p.1 = k
    · exact ⟨p.2, valV_pos e, p, List.mem_cons_self, rfl⟩
    · rcases List.mem_cons.mp h with h | h
      · exact absurd (by rw [← h]) e
      · obtain ⟨w, h1, q, h2, h3⟩ := valV_mem h
        exact ⟨w, by rw [valV_neg e]; exact h1, q, List.mem_cons_of_mem _ h2, h3⟩
abbrev rDictP (K : PySem.W.Frag) : List V → Hp → VK → Prop := fun xs H Q => ∃ (a : Addr) (ps : List Addr) (kvs : List (Key × V)), xs = [.ref a] ∧ SqL K H a (ps.map V.ref) ∧ Paired (fun p kv => SqT K H p [kV kv.1, kv.2]) ps kvs ∧
    ∀ p, H p = none → Q (.ref p) (upd H p (.dK (mergeK [] kvs)))
/-- the walk over the locked dict -/
theorem pool_walk {K : PySem.W.Frag} {F H : Hp} {σ : L2.St} {i j : Nat} {p : Addr} {kvs : List (Key × V)} {vals : List PyData} {Q : VK} (hp : H p = some (.dK kvs)) (hi : σ[i]? = some (some (.ref p))) (hij : i ≠ j) (hj : j < σ.length)
    (hk : ∀ q, q ∈ kvs → ∃ d, d ∈ vals ∧ Dt K F q.2 d) (hz : kvs.length ≤ sizeLine)
    (q : ∀ D us ds, H D = none → DtAll K F us ds → ds.length = kvs.length → (∀ d, d ∈ ds → d ∈ vals) → Q (.ref D) (upd H D (.lst us))) :
    tLockE (tLc (iKeys (tVar i)) (gName j) tYes (tDGet (tVar i) (tVar j)) [j]) σ H Q := by
  refine ⟨p, .dK kvs, hp, trivial, fun od => ?_⟩
  refine ⟨.ref p, hi, p, od, rfl, .inl ⟨kvs, upd_same, ?_⟩⟩
  intro D hD
  have hDp : D ≠ p := fun e => by rw [e, upd_same] at hD; cases hD
  rw [upd_ne hDp] at hD
  refine lc_it walk_keys (fun m H' => ∃ us ds, H' = upd (upd H p (.frz od (.dK kvs))) D (.lst us) ∧ DtAll K F us ds ∧ ds.length = m ∧ ∀ d, d ∈ ds → d ∈ vals) ⟨[], [], rfl, .nil, rfl, fun d hd => nomatch hd⟩ (fun m H' _ ⟨us, ds, e, _⟩ => by rw [e, upd_ne hDp.symm]; exact upd_same) ?_ ?_
  · rintro m x H2 H3 hm ⟨us, ds, rfl, hd, hl, hv⟩ ⟨rfl, k, v, hkv, rfl⟩
    have hw : (wipe σ [j])[i]? = some (some (.ref p)) := by
      rw [wipe_at (by simp [hij])]
      exact hi
    refine ⟨by simp [wipe], ?_⟩
    unfold tYes
    dsimp only
    rw [if_pos rfl]
    obtain ⟨w, h1, q2, h2, h3⟩ := valV_mem (List.mem_of_getElem? hkv)
    obtain ⟨d, hd2, hdt⟩ := hk q2 h2
    refine ⟨.ref p, by rw [List.getElem?_set_ne (Ne.symm hij)]; exact hw, kV k, by rw [List.getElem?_set_self (by rw [wipe_length]; exact hj)], p, w, rfl, .inl ⟨kvs, k, .inr ⟨od, by rw [upd_ne hDp.symm]; exact upd_same⟩, rfl, h1.symm⟩, ?_⟩
    refine ⟨us, upd_same, by rw [hd.len, hl]; exact Nat.lt_of_lt_of_le hm hz, us ++ [w], ds ++ [d], ?_, hd.app (.one (by rw [← h3]; exact hdt)), by rw [List.length_append, hl]; rfl, fun e he => ?_⟩
    · refine funext fun b => ?_
      by_cases hb : b = D
      · rw [hb, upd_same, upd_same]
      · rw [upd_ne hb, upd_ne hb, upd_ne hb]
    · rcases List.mem_append.mp he with he | he
      · exact hv e he
      · rw [List.mem_singleton.mp he]; exact hd2
  · rintro H' ⟨us, ds, rfl, hd, hl, hv⟩
    refine ⟨by rw [upd_ne hDp.symm]; exact upd_same, ?_⟩
    have e : upd (upd (upd H p (.frz od (.dK kvs))) D (.lst us)) p (.dK kvs) = upd H D (.lst us) := funext fun b => by
      by_cases hb : b = p
      · rw [hb, upd_same, upd_ne hDp.symm]
        exact hp.symm
      · by_cases hb2 : b = D
        · rw [upd_ne hb, hb2, upd_same, upd_same]
        · rw [upd_ne hb, upd_ne hb2, upd_ne hb, upd_ne hb2]
    rw [e]
    exact q D us ds hD hd hl hv
section
variable {X : Cx} {e : Expr} {te : TE} {ts : TA} {ds : TDA} {rows word fname : Str} {i j k : Nat} {D : DX} {ps : List Str} {scope : Scope}
theorem dss_pool {p1 p2 p3 p4 p5 p6 p7 p8 p9 p10 p11 p12 p13 : Pos} (O : Okd X.prog X.w X.K X.mg X.base k fname ps false 1 D) (M : Pm 1 D) (hr : Room (k + 2) X.A) (hu : X.A.units + 64 < cLine) (hg : Gl X fname) (hgs : Gl X "sorted") (hms : X.mg "sorted" = none) (hvs : bootBuiltins "sorted" = some (.builtin "sorted"))
    (hgd : Gl X "dict") (hmd : X.mg "dict" = none) (hvd : bootBuiltins "dict" = some (.type "dict")) (hc : X.calm = true) (ha : DA X [e] ts ds)
    (hN : X.N.Nodup) (hi : X.N[i]? = some rows) (hj : X.N[j]? = some word) (hij : i ≠ j) (hx : Loc X.env.scope rows) (hf : X.fn rows = true ∨ X.env.scope.names.lookup rows = some .local) (hrows : PE X (.Name rows p5) (tVar i))
    (ok : BlkOk X.N X.env.scope scope [(word, j)])
    (hgb : ∀ (s : Shared) (H : Hp) (C : Addr) (cl : List (Str × Addr)) (fp : List Addr), PG (X.blk s H scope (compEnvC scope cl C X.env) fp) (.Name word p6) (gName j))
    (hb1 : ∀ (s : Shared) (H : Hp) (C : Addr) (cl : List (Str × Addr)) (fp : List Addr), PE (X.blk s H scope (compEnvC scope cl C X.env) fp) (.Name rows p7) (tVar i))
    (hb2 : ∀ (s : Shared) (H : Hp) (C : Addr) (cl : List (Str × Addr)) (fp : List Addr), PE (X.blk s H scope (compEnvC scope cl C X.env) fp) (.Name word p8) (tVar j))
    (hns : NoSl (.Name word p8)) (hub : ∀ (s : Shared) (H : Hp) (C : Addr) (cl : List (Str × Addr)) (fp : List Addr), (X.blk s H scope (compEnvC scope cl C X.env) fp).A.units + 1 < cLine)
    (hdb : (fname == ("__debug__" : Str)) = false)
    (hse : starEach [e] X.env = (false, eval e X.env) :: starEach [] X.env) (hpl : (backTo p2 (starEach [] X.env)).any (·.1) = false)
    (hsw : swapsWith (.Call (.Name "dict" p1) [e] [] p2) (some (.Name rows p3)) p4.line X.env = pure false)
    (hfo : ∀ x, foldedSetIterable (.Name rows p5) X.env x = pure x)
    (he2 : backTo p12 (starEach [.ListComp (.Subscript (.Name rows p7) (.Name word p8) p9) [⟨.Name word p6, .Name rows p5, [], 0⟩] scope p10] X.env) = (false, eval (.ListComp (.Subscript (.Name rows p7) (.Name word p8) p9) [⟨.Name word p6, .Name rows p5, [], 0⟩] scope p10) X.env) :: backTo p12 (starEach [] X.env))
    (hse2 : starEach [.ListComp (.Subscript (.Name rows p7) (.Name word p8) p9) [⟨.Name word p6, .Name rows p5, [], 0⟩] scope p10] X.env = (false, eval (.ListComp (.Subscript (.Name rows p7) (.Name word p8) p9) [⟨.Name word p6, .Name rows p5, [], 0⟩] scope p10) X.env) :: starEach [] X.env)
    (hpl2 : (backTo p12 (starEach [.ListComp (.Subscript (.Name rows p7) (.Name word p8) p9) [⟨.Name word p6, .Name rows p5, [], 0⟩] scope p10] X.env)).any (·.1) = false) {kp kpos : Pos} :
    DSs X [.Assign [.Name rows p3] (.Call (.Name "dict" p1) [e] [] p2) p4, .Return (some (.Call (.Name "sorted" p11) [.ListComp (.Subscript (.Name rows p7) (.Name word p8) p9) [⟨.Name word p6, .Name rows p5, [], 0⟩] scope p10] [⟨some "key", .Name fname kp, kpos⟩] p12)) p13]
      (tSeq (tAsg (tCB (rDictP X.K) ts) (gName i)) (tRet (tCKw (rSortK X.K (He.ga X.K fname) D) (tCons (tLockE (tLc (iKeys (tVar i)) (gName j) tYes (tDGet (tVar i) (tVar j)) [j])) tNil) (tCons (tC (.ref (He.ga X.K fname))) tNil))))
      (dPoolEnd i j D ds) := by
  obtain ⟨fd, h1, h2, h3, h4⟩ := O.ex
  refine ⟨pss_cons (ps_set hN hi hx (pe_callTy (call_dictP hc) hgd hmd hvd ha.pa (by decide) (by decide) hse hpl) hsw hf) (pss_one (ps_ret (pe_callBK (call_sortK h4 M hr hu h3) hgs hms hvs
    (pa_cons (pe_lock (pe_lc (own := [(word, j)]) hc hN (pi_keys hrows) ok hgb (fun _ _ _ _ _ => pts_nil) (fun s H C cl fp => pe_dget (hub s H C cl fp) (hb1 s H C cl fp) (hb2 s H C cl fp) hns) hfo)) pa_nil hse2)
    (pk_cons (pe_glob (v := .ref (He.ga X.K fname)) hg h1 rfl hdb) pk_nil) (by decide) (by decide) he2 hpl2 rfl rfl rfl))), fun Y F H σ s Dd Dn E q L => ?_⟩
  refine ha.sn Y F H σ s _ _ E q fun vs d F1 H1 s1 g1 E1 v1 q1 => ?_
  obtain ⟨hsl, pl, key, rfl, hne, hlen, hD, hdp, hal, q1⟩ := q1
  cases v1 with
  | cons w1 w2 =>
    cases w2
    cases w1 with
    | @lst l us _ hl hs =>
      obtain ⟨as, kvs, rfl, hpd, hkl, hkm⟩ := pool_pairs hs
      have mono : Paired (fun p kv => SqT X.K H1 p [kV kv.1, kv.2]) as kvs := Paired.mapP hpd fun p kv hh => sqT_mono E1.fh hh
      refine ⟨l, as, kvs, rfl, SqL.of (E1.fh _ _ hl), mono, fun p hp => ?_⟩
      have hil : i < σ.length := by rw [E1.ln]; exact hsl.1
      have hjl : j < σ.length := by rw [E1.ln]; exact hsl.2
      refine pool_walk (K := X.K) (F := F1) (vals := pl.map (·.2)) upd_same (by rw [List.getElem?_set_self hil]) hij (by rw [List.length_set]; exact hjl) (fun q hq => ?_) ?_ fun Da us2 ds2 hDa hd2 hl2 hm2 => ?_
      · rcases mergeK_vals hq with ⟨q', m1, m2⟩ | ⟨q', m1, _⟩
        · obtain ⟨p', m3, m4⟩ := hkm q' m1
          exact ⟨p'.2, List.mem_map_of_mem m3, by rw [← m2]; exact m4⟩
        · cases m1
      · have := length_mergeK kvs []
        rw [sizeLine_eq]
        simp at this
        omega
      · have E2 := E1.alloc2 (.dK (mergeK [] kvs)) hp
        have E3 := E2.alloc (.lst us2) hDa
        have mem : ∀ d, d ∈ ds2 → ∃ p, p ∈ pl ∧ p.2 = d := fun d hd => by
          obtain ⟨p', m1, m2⟩ := List.mem_map.mp (hm2 d hd)
          exact ⟨p', m1, m2⟩
        have len2 : ds2.length ≤ pl.length := by
          have := length_mergeK kvs []
          simp at this
          omega
        have ne2 : ds2 ≠ [] := by
          intro z
          rw [z] at hl2
          have h0 : mergeK [] kvs = [] := List.eq_nil_of_length_eq_zero hl2.symm
          cases kvs with
          | nil =>
            rw [List.length_nil] at hkl
            exact hne (List.eq_nil_of_length_eq_zero hkl.symm)
          | cons k0 ks =>
            have e0 : mergeK [] (k0 :: ks) = mergeK (putK [] k0.1 k0.2) ks := rfl
            rw [e0] at h0
            exact mergeK_ne putK_ne h0
        obtain ⟨al, so⟩ := hal ds2 mem
        refine ⟨Y.z, upd F1 Da (.lst us2), s1.n, Da, ds2, key, rfl, rfl, E3.fh, E3.st, dl_at hd2 (same_none E2.fh hDa), fun d hd => ?_, al, so, fun d hd => ?_, by rw [sizeLine_eq]; omega, fun F4 H4 pr us4 g4 hK fH fr st hpr _ hd4 => ?_⟩
        · obtain ⟨p', m1, rfl⟩ := mem d hd
          exact hD p' m1
        · obtain ⟨p', m1, rfl⟩ := mem d hd
          exact hdp p' m1
        · have E4 := E3.grow (n := s1.n) g4 hK fH fr st
          refine L.rt _ (.list (ds2.mergeSort (PySem.W.dataLe false key))) _ _ σ _ ?_ (E4.alloc _ hpr) (dl_at hd4 (same_none E4.fh hpr)) ?_
          · exact ((g1.trans (same_upd (same_none E2.fh hDa))).trans g4).trans (same_upd (same_none E4.fh hpr))
          · exact q1 _ _ (fun z => ne2 (by have := congrArg List.length z; rw [List.length_mergeSort] at this; exact List.eq_nil_of_length_eq_zero this)) (by rw [List.length_mergeSort]; exact len2) fun d hd => mem d ((List.mergeSort_perm _ _).mem_iff.mp hd)
end
end DL

set_option Elab.async false
set_option linter.all false
set_option maxRecDepth 100000
set_option maxHeartbeats 4000000
namespace DL
open PySem PySem.Spec PyProof.Rows L2
/-! ### the law's draws -/
def D_mixed : DX := anyD (fun a : Int × Int => [.int a.1, .int a.2]) (fun a n => 0 ≤ a.2 ∧ a.2 < 2 ^ 62) (fun a n d n' => n' = n ∧ ∃ i : Int, d = .int i ∧ 0 ≤ i ∧ i < 2147483647)
theorem pm_mixed : Pm 2 D_mixed := pm_any fun _ => rfl
abbrev rModP : R2 := rI (fun _ j => 0 < j) fun i j => .int (i % j)
abbrev rLenA (K : PySem.W.Frag) : List V → Hp → VK → Prop := fun xs H Q => ∃ x n, xs = [x] ∧ LenV K x H n ∧ Q (.int n) H
abbrev rFd : R2 := rI CDivN fun i j => .int (i.fdiv j)
abbrev tGetS (k : Str) : TE := tDGet (tVar 0) (tC (.str k))
abbrev tMix (K : PySem.W.Frag) (a b : TE) : TE := tCall (spD K false 2 D_mixed) [] E0 (tCons a (tCons b tNil))
def tDraw (K : PySem.W.Frag) : TS :=
  tSeq (tAsg (tGetS "at") (gName 2))
  (tSeq (sDPut (tVar 0) (tC (.str "at")) (tOp rAddI (tVar 2) (tC (.int 1))))
  (tSeq (tAsg (tOp rModP (tCB rInt1 (tCons (tVar 2) tNil)) (tCB (rLenA K) (tCons (tGetS "cells") tNil))) (gName 3))
  (tSeq (tAsg (tOp (rIxL K) (tGetS "lefts") (tVar 3)) (gName 4))
  (tSeq (tIfS (tTest (tOp (rI0 fun i j => .bl (decide (j < i))) (tVar 4) (tC (.int 0))))
      (tSeq (tAsg (tOp rFd (tVar 4) (tVar 1)) (gSub (tGetS "lefts") (tVar 3) rSetL)) (tRet (tOp rModP (tCB rInt1 (tCons (tVar 4) tNil)) (tVar 1))))
      tNext)
  (tSeq (tAsg (tMix K (tMix K (tOp (rIxL K) (tGetS "cells") (tVar 3)) (tVar 2)) (tOp rAddI (tC (.int 40)) (tVar 2))) (gName 5))
  (tRet (tOp rModP (tOp rFd (tCB rInt1 (tCons (tOp rAddI (tOp rMulI (tVar 5) (tC (.int 2147483647))) (tMix K (tVar 5) (tOp rAddI (tC (.int 7)) (tVar 2)))) tNil)) (tC (.int 64))) (tVar 1))))))))
def dDraw : TDS := fun D s => ∃ many : Int, s.r[0]? = some .st ∧ s.r[1]? = some (.d (.int many)) ∧ s.r.length = 6 ∧ 0 < many ∧ many < 2 ^ 30 ∧ s.n < 2 ^ 60 ∧ ∀ (m : Int) (r : List Sl), 0 ≤ m → m < many → D.rt (.int m) ⟨r, s.n + 1⟩
theorem mod_in {i : Int} {n : Nat} (h : 0 < n) : ∃ j : Nat, j < n ∧ i % (n : Int) = (j : Int) := by
  have h1 : 0 ≤ i % (n : Int) := Int.emod_nonneg i (by omega)
  have h2 : i % (n : Int) < (n : Int) := Int.emod_lt_of_pos i (by omega)
  exact ⟨(i % (n : Int)).toNat, by omega, by omega⟩
theorem atI_nat {α : Type} {xs : List α} {j : Nat} (h : j < xs.length) : atI xs (j : Int) = some (xs[j]'h) := by
  have h1 : ixN xs.length (j : Int) = some j := by
    unfold ixN
    rw [if_pos (by omega), if_pos (by omega)]
    all_goals rfl
  unfold atI
  rw [h1]
  exact List.getElem?_eq_getElem h
theorem sp_mix {K : PySem.W.Frag} {z : Option (Addr × Addr)} {F H : Hp} {n : Nat} {i k : Int} {Q : VK} (fH : Same F H) (st : StAt z F H n) (h0 : 0 ≤ k) (h1 : k < 2 ^ 62)
    (q : ∀ F' H' j, Same F F' → (∀ a o, H a = some o → ¬ Wr z a → H' a = some o) → Same F' H' → (∀ a o, F' a = some o → F a = some o ∨ H a = none) → StAt z F' H' n → 0 ≤ j → j < 2147483647 → Q (.int j) H') : spD K false 2 D_mixed [.int i, .int k] H Q E0 :=
  ⟨z, F, n, [.int i, .int k], [.int i, .int k], fH, st, by unfold stArg; rw [if_neg Bool.false_ne_true], rfl, .cons (.int _) (.cons (.int _) .nil), (i, k), rfl, ⟨h0, h1⟩, fun d n' ⟨en, j, ed, h2, h3⟩ F' H' v g a1 a2 a3 a4 a5 => by
    subst ed
    cases a5
    rw [en] at a4
    exact q F' H' j g a1 a2 a3 a4 h2 h3⟩
theorem sn_draw (K : PySem.W.Frag) : SnS K (tDraw K) dDraw := fun Y F H σ s Dd D E q L => by
  obtain ⟨many, e0, e1, hl, hm0, hm1, hn, q⟩ := q
  obtain ⟨p, l, ez, es0⟩ := E.sl 0 _ e0
  obtain ⟨v1, es1, d1⟩ := E.sl 1 _ e1
  cases d1
  have hlen : σ.length = 6 := E.ln.trans hl
  obtain ⟨w0, w1, w2, w3, w4, w5, rfl⟩ : ∃ w0 w1 w2 w3 w4 w5, σ = [w0, w1, w2, w3, w4, w5] := by
    match σ, hlen with
    | [w0, w1, w2, w3, w4, w5], _ => exact ⟨_, _, _, _, _, _, rfl⟩
  have z0 : w0 = some (.ref p) := Option.some.inj es0
  have z1 : w1 = some (.int many) := Option.some.inj es1
  subst z0 z1
  obtain ⟨hpl, fp, fl, pc, cs, ls, hp, hlf, hpc, hcl, hc0⟩ := E.st p l ez
  have npc : pc ≠ p := fun z => by rw [z, fp] at hpc; cases hpc
  have npl : pc ≠ l := fun z => by rw [z, fl] at hpc; cases hpc
  -- the heap behind the count
  obtain ⟨H1, eH1⟩ : ∃ H1, H1 = upd H p (.dK [(kCells, .ref pc), (kLefts, .ref l), (kAt, .int ((s.n + 1 : Nat) : Int)), (kRoom, .int 0)]) := ⟨_, rfl⟩
  have hput : upd H p (.dK (putK [(kCells, V.ref pc), (kLefts, .ref l), (kAt, .int (s.n : Nat)), (kRoom, .int 0)] kAt (.int ((s.n : Int) + 1)))) = H1 := by
    rw [eH1]
    have e : putK [(kCells, V.ref pc), (kLefts, .ref l), (kAt, .int (s.n : Nat)), (kRoom, .int 0)] kAt (.int ((s.n : Int) + 1)) = [(kCells, .ref pc), (kLefts, .ref l), (kAt, .int ((s.n + 1 : Nat) : Int)), (kRoom, .int 0)] := by
      have n1 : Str.ofString "cells" ≠ Str.ofString "at" := by decide +kernel
      have n2 : Str.ofString "lefts" ≠ Str.ofString "at" := by decide +kernel
      have n3 : Str.ofString "room" ≠ Str.ofString "at" := by decide +kernel
      simp [putK, n1, n2, n3]
    rw [e]
  have hp1 : H1 p = some (.dK [(kCells, .ref pc), (kLefts, .ref l), (kAt, .int ((s.n + 1 : Nat) : Int)), (kRoom, .int 0)]) := by rw [eH1]; exact upd_same
  have hl1 : H1 l = some (.lst (ls.map V.int)) := by rw [eH1, upd_ne hpl.symm]; exact hlf
  have fH1 : Same F H1 := fun a o e => by rw [eH1, upd_ne (ne_of_none e fp)]; exact E.fh a o e
  have keep1 : ∀ a u, H a = some u → ¬ Wr Y.z a → H1 a = some u := fun a u e w => by
    have : a ≠ p := fun z => w ⟨p, l, ez, .inl z⟩
    rw [eH1, upd_ne this]; exact e
  have st1 : StAt Y.z F H1 (s.n + 1) := fun p' l' e => by
    rw [ez] at e
    cases e
    exact ⟨hpl, fp, fl, pc, cs, ls, hp1, hl1, hpc, hcl, hc0⟩
  have E1 : EnvOk K Y F H1 [some (.ref p), some (.int many), w2, w3, w4, w5] ⟨s.r, s.n + 1⟩ := E.grow (n := s.n + 1) (Same.refl F) keep1 fH1 (fun a u e => .inl e) st1
  obtain ⟨j, hj, ej⟩ := mod_in (i := (s.n : Int)) hc0
  have hjl : j < ls.length := by omega
  refine ⟨.ref p, rfl, p, .int (s.n : Nat), rfl, .inl ⟨_, kAt, .inl hp, rfl, rfl⟩, ?_⟩
  refine ⟨.int (s.n : Nat), rfl, s.n, 1, rfl, rfl, .ref p, rfl, p, H1, rfl, .inl ⟨_, kAt, hp, rfl, by show 4 < sizeLine; rw [sizeLine_eq]; decide, hput.symm⟩, ?_⟩
  refine ⟨.int (s.n : Nat), rfl, .inl ⟨s.n, rfl, .ref p, rfl, p, .ref pc, rfl, .inl ⟨_, kCells, .inl hp1, rfl, rfl⟩, .ref pc, cs.length, rfl, .inl ⟨cs.map V.int, SqL.of (fH1 _ _ hpc), by rw [List.length_map]⟩, s.n, cs.length, rfl, rfl, by omega, ?_⟩⟩
  have hat : ∀ {xs : List Int} (h : j < xs.length), atI (xs.map V.int) ((s.n : Int) % (cs.length : Int)) = some (.int (xs[j]'h)) := fun {xs} h => by
    rw [ej, atI_nat (by rw [List.length_map]; exact h), List.getElem_map]
  have hix : ixN (ls.map V.int).length ((s.n : Int) % (cs.length : Int)) = some j := by
    rw [ej]
    unfold ixN
    rw [List.length_map, if_pos (by omega), if_pos (by omega)]
    all_goals rfl
  refine ⟨.ref p, rfl, p, .ref l, rfl, .inl ⟨_, kLefts, .inl hp1, rfl, rfl⟩, .int ((s.n : Int) % (cs.length : Int)), rfl, l, ls.map V.int, (s.n : Int) % (cs.length : Int), .int (ls[j]'hjl), rfl, rfl, SqL.of hl1, hat hjl, ?_⟩
  refine ⟨.int (ls[j]'hjl), rfl, ls[j]'hjl, 0, rfl, rfl, _, rfl, ?_⟩
  have mod_many : ∀ i : Int, 0 ≤ i % many ∧ i % many < many := fun i => ⟨Int.emod_nonneg i (by omega), Int.emod_lt_of_pos i hm0⟩
  show if decide (0 < ls[j]'hjl) = true then _ else _
  by_cases hpos : 0 < ls[j]'hjl
  · rw [if_pos (decide_eq_true hpos)]
    refine ⟨.int (ls[j]'hjl), rfl, .int many, rfl, ls[j]'hjl, many, rfl, rfl, ⟨by omega, by omega⟩, ?_⟩
    refine ⟨.ref p, rfl, p, .ref l, rfl, .inl ⟨_, kLefts, .inl hp1, rfl, rfl⟩, .int ((s.n : Int) % (cs.length : Int)), rfl, l, ls.map V.int, (s.n : Int) % (cs.length : Int), j, rfl, rfl, hl1, hix, ?_⟩
    refine ⟨.int (ls[j]'hjl), rfl, .inl ⟨ls[j]'hjl, rfl, .int many, rfl, ls[j]'hjl, many, rfl, rfl, hm0, ?_⟩⟩
    have eset : (ls.map V.int).set j (.int ((ls[j]'hjl).fdiv many)) = (ls.set j ((ls[j]'hjl).fdiv many)).map V.int := by rw [List.map_set]
    refine L.rt _ (.int ((ls[j]'hjl) % many)) F _ [some (.ref p), some (.int many), w2, w3, w4, w5] ⟨s.r, s.n + 1⟩ (Same.refl F) ?_ (.int _) (q _ _ (mod_many _).1 (mod_many _).2)
    show EnvOk K Y F (upd H1 l (.lst ((ls.map V.int).set j (.int ((ls[j]'hjl).fdiv many))))) _ _
    rw [eset]
    refine E1.grow (n := s.n + 1) (Same.refl F) (fun a u e w => ?_) (fun a u e => ?_) (fun a u e => .inl e) (fun p' l' e => ?_)
    · have : a ≠ l := fun z => w ⟨p, l, ez, .inr z⟩
      rw [upd_ne this]; exact e
    · rw [upd_ne (ne_of_none e fl)]; exact fH1 a u e
    · rw [ez] at e
      cases e
      exact ⟨hpl, fp, fl, pc, cs, _, by rw [upd_ne hpl]; exact hp1, upd_same, hpc, by rw [List.length_set]; exact hcl, hc0⟩
  · rw [if_neg (fun z => hpos (of_decide_eq_true z))]
    refine ⟨.ref p, rfl, p, .ref pc, rfl, .inl ⟨_, kCells, .inl hp1, rfl, rfl⟩, .int ((s.n : Int) % (cs.length : Int)), rfl, pc, cs.map V.int, (s.n : Int) % (cs.length : Int), .int (cs[j]'hj), rfl, rfl, SqL.of (fH1 _ _ hpc), hat hj, .int (s.n : Nat), rfl, ?_⟩
    refine sp_mix fH1 st1 (by omega) (by omega) fun F2 H2 i2 g2 k2 s2 f2 t2 r2 r3 => ?_
    have E2 := E1.grow (n := s.n + 1) g2 k2 s2 f2 t2
    refine ⟨.int (s.n : Nat), rfl, 40, s.n, rfl, rfl, ?_⟩
    refine sp_mix E2.fh E2.st (by omega) (by omega) fun F3 H3 i3 g3 k3 s3 f3 t3 r4 r5 => ?_
    have E3 := E2.grow (n := s.n + 1) g3 k3 s3 f3 t3
    refine ⟨.int i3, rfl, i3, 2147483647, rfl, rfl, .inl (by constructor <;> omega), .int i3, rfl, .int (s.n : Nat), rfl, 7, s.n, rfl, rfl, ?_⟩
    refine sp_mix E3.fh E3.st (by omega) (by omega) fun F4 H4 i4 g4 k4 s4 f4 t4 r6 r7 => ?_
    have E4 := E3.grow (n := s.n + 1) g4 k4 s4 f4 t4
    refine ⟨i3 * 2147483647, i4, rfl, rfl, .inl ⟨i3 * 2147483647 + i4, rfl, ?_⟩⟩
    refine ⟨i3 * 2147483647 + i4, 64, rfl, rfl, ⟨by decide, by decide⟩, .int many, rfl, (i3 * 2147483647 + i4).fdiv 64, many, rfl, rfl, hm0, ?_⟩
    exact L.rt _ (.int (((i3 * 2147483647 + i4).fdiv 64) % many)) F4 H4 [some (.ref p), some (.int many), w2, w3, w4, w5] ⟨s.r, s.n + 1⟩ ((g2.trans g3).trans g4) E4 (.int _) (q _ _ (mod_many _).1 (mod_many _).2)
end DL

set_option Elab.async false
set_option linter.all false
set_option maxRecDepth 100000
set_option maxHeartbeats 4000000
namespace DL
open PySem PySem.Spec PyProof.Rows L2
/-! ### the law's beginning -/
abbrev stK (pc l : Addr) (n : Int) : HO := .dK [(kCells, .ref pc), (kLefts, .ref l), (kAt, .int n), (kRoom, .int 0)]
def spBegin (K : PySem.W.Frag) : Sp := fun vs H Q _ => ∃ (a : Addr) (ns : List Int), vs = [.ref a] ∧ SqL K H a (ns.map V.int) ∧ ns.length ≤ 1000 ∧
  ∀ H' p l pc (cs ls : List Int), H' p = some (stK pc l 0) → H' l = some (.lst (ls.map V.int)) → H' pc = some (.lst (cs.map V.int)) → p ≠ l → pc ≠ p → pc ≠ l → cs.length = ls.length → 0 < cs.length → Q (.ref p) H'
abbrev rListA (K : PySem.W.Frag) : List V → Hp → VK → Prop := fun xs H Q => ∃ p ys, xs = [.ref p] ∧ (SqL K H p ys ∨ SqT K H p ys) ∧ ∀ l, H l = none → Q (.ref l) (upd H l (.lst ys))
def tBegin (K : PySem.W.Frag) : TS :=
  tSeq (tAsg (tIf (tTest (tOp (rNeD K) (tVar 0) (tLst tNil))) (tCB (rListA K) (tCons (tVar 0) tNil)) (tLst (tCons (tC (.int 0)) tNil))) (gName 1))
    (tRet (tDisp [(tC (.str "cells"), tVar 1), (tC (.str "lefts"), tLc (iList K (tVar 1)) (gName 2) tYes (tIf (tTest (tOp (rI0 fun i j => .bl (decide (j ≤ i))) (tVar 2) (tOp (rI CPow fun i j => .int (i ^ j.toNat)) (tC (.int 10)) (tC (.int 18))))) (tVar 2) (tC (.int 0))) [2]), (tC (.str "at"), tC (.int 0)), (tC (.str "room"), tC (.int 0))]))
theorem dp_ints {K : PySem.W.Frag} {H : Hp} : ∀ (ns : List Int), DpAll K H (ns.map V.int) (ns.map PyData.int)
  | [] => .nil
  | n :: ns => .cons (.int n) (dp_ints ns)
theorem depth_ints : ∀ ns : List Int, PyData.depthAll (ns.map PyData.int) = 0
  | [] => by simp only [List.map_nil, PyData.depthAll]
  | n :: ns => by simp only [List.map_cons, PyData.depthAll, PyData.depth, depth_ints ns, Nat.max_self]
theorem lay_ints : ∀ ns : List Int, PyData.canLayAll0 (ns.map PyData.int) = true
  | [] => by simp only [List.map_nil, PyData.canLayAll0]
  | n :: ns => by simp only [List.map_cons, PyData.canLayAll0, PyData.canLay0, lay_ints ns, Bool.and_self]
theorem shaped_ints (ns : List Int) : SeqAt.shaped (.list (ns.map PyData.int)) = true := by
  unfold SeqAt.shaped
  simp only [PyData.canLay0, PyData.depth, lay_ints, depth_ints]
  decide
theorem eqv_nil (ns : List Int) : PyData.eqv (.list (ns.map PyData.int)) (.list []) = ns.isEmpty := by
  cases ns <;> simp [PyData.eqv, PyData.eqvAll]
/-- what stands behind the cells -/
theorem begin_rest {K : PySem.W.Frag} {D : Ends} {H1 : Hp} {v0 : Option V} {pc : Addr} {cs : List Int} (hpc : H1 pc = some (.lst (cs.map V.int))) (hc : 0 < cs.length) (hz : cs.length ≤ 1000)
    (q : ∀ H' p l pc (cs ls : List Int), H' p = some (stK pc l 0) → H' l = some (.lst (ls.map V.int)) → H' pc = some (.lst (cs.map V.int)) → p ≠ l → pc ≠ p → pc ≠ l → cs.length = ls.length → 0 < cs.length → D.rt (.ref p) H') :
    tRet (tDisp [(tC (.str "cells"), tVar 1), (tC (.str "lefts"), tLc (iList K (tVar 1)) (gName 2) tYes (tIf (tTest (tOp (rI0 fun i j => .bl (decide (j ≤ i))) (tVar 2) (tOp (rI CPow fun i j => .int (i ^ j.toNat)) (tC (.int 10)) (tC (.int 18))))) (tVar 2) (tC (.int 0))) [2]), (tC (.str "at"), tC (.int 0)), (tC (.str "room"), tC (.int 0))]) D [v0, some (.ref pc), none] H1 := by
  intro p hp
  have npc : pc ≠ p := fun z => by rw [z, hp] at hpc; cases hpc
  refine ⟨.ref pc, rfl, .ref pc, rfl, pc, rfl, ⟨cs.map V.int, SqL.of (by rw [upd_ne npc]; exact hpc)⟩, fun l hl => ?_⟩
  have nlp : l ≠ p := fun z => by rw [z, upd_same] at hl; cases hl
  have npl : pc ≠ l := fun z => by rw [← z, upd_ne npc, hpc] at hl; cases hl
  have npq : pc ≠ p := npc
  refine lc_it walk_list (fun m H' => ∃ us : List Int, H' = upd (upd H1 p (.dK [])) l (.lst (us.map V.int)) ∧ us.length = m) ⟨[], rfl, rfl⟩ (fun m H' _ ⟨us, e, _⟩ => by rw [e]; exact SqL.of (by rw [upd_ne npl, upd_ne npc]; exact hpc)) ?_ ?_
  · rintro m x H2 H3 hm ⟨us, rfl, hl2⟩ ⟨rfl, hx⟩
    rw [List.getElem?_map] at hx
    obtain ⟨c, hc2, rfl⟩ := Option.map_eq_some_iff.mp hx
    refine ⟨by simp [wipe], ?_⟩
    unfold tYes
    dsimp only
    rw [if_pos rfl]
    refine ⟨.int c, rfl, 10, 18, rfl, rfl, ⟨by decide, by decide, by decide⟩, c, 10 ^ (18 : Int).toNat, rfl, rfl, _, rfl, ?_⟩
    rw [List.length_map] at hm
    have step : ∀ z : Int, ∃ acc, (upd (upd H1 p (HO.dK [])) l (HO.lst (us.map V.int))) l = some (.lst acc) ∧ acc.length < sizeLine ∧ ∃ us' : List Int, upd (upd (upd H1 p (HO.dK [])) l (HO.lst (us.map V.int))) l (.lst (acc ++ [V.int z])) = upd (upd H1 p (.dK [])) l (.lst (us'.map V.int)) ∧ us'.length = m + 1 := fun z => by
      refine ⟨us.map V.int, upd_same, by rw [List.length_map, sizeLine_eq]; omega, us ++ [z], ?_, by rw [List.length_append, hl2]; rfl⟩
      refine funext fun b => ?_
      by_cases hb : b = l
      · rw [hb, upd_same, upd_same, List.map_append]
        rfl
      · rw [upd_ne hb, upd_ne hb, upd_ne hb]
    show if decide (_ ≤ c) = true then _ else _
    by_cases hc3 : ((10 ^ (18 : Int).toNat : Int) ≤ c)
    · rw [if_pos (decide_eq_true hc3)]
      exact ⟨.int c, rfl, step c⟩
    · rw [if_neg (fun z => hc3 (of_decide_eq_true z))]
      exact step 0
  · rintro H' ⟨us, rfl, hl2⟩
    rw [List.length_map] at hl2
    refine ⟨by rw [upd_ne (Ne.symm nlp)]; exact upd_same, [(kCells, .ref pc), (kLefts, .ref l), (kAt, .int 0), (kRoom, .int 0)], rfl, by show 4 ≤ 15; decide, ?_⟩
    rw [merge4 (by decide +kernel) (by decide +kernel) (by decide +kernel) (by decide +kernel) (by decide +kernel) (by decide +kernel)]
    refine q _ p l pc cs us upd_same ?_ ?_ (Ne.symm nlp) npc npl hl2.symm hc
    · rw [upd_ne nlp]; exact upd_same
    · rw [upd_ne npc, upd_ne npl, upd_ne npc]; exact hpc
theorem begin_run {K : PySem.W.Frag} {vs : List V} {H : Hp} {Q : VK} {E : XK} (h : spBegin K vs H Q E) : tBegin K { nx := fun _ H' => Q .non H', rt := Q } (L2.start ["script", "cells", "cell"] vs) H := by
  obtain ⟨a, ns, rfl, hs, hz, q⟩ := h
  refine ⟨.ref a, rfl, ⟨Nat.zero_le _, fun e he => ?_⟩⟩
  have nae : SqL K (upd H e (.lst [])) a (ns.map V.int) := by
    rcases hs with (h | ⟨o, h⟩) | h
    · exact .inl (.inl (by rw [upd_ne (ne_of_none h he)]; exact h))
    · exact .inl (.inr ⟨o, by rw [upd_ne (ne_of_none h he)]; exact h⟩)
    · exact .inr h
  refine ⟨.list (ns.map .int), .list [], .lst nae (dp_ints ns), .lst (SqL.of upd_same) .nil, shaped_ints ns, rfl, _, rfl, ?_⟩
  rw [eqv_nil]
  cases ns with
  | nil =>
    rw [if_neg (by simp)]
    refine ⟨by show 1 ≤ sizeLine; decide, fun pc hpc => ?_⟩
    exact begin_rest (cs := [0]) upd_same (by simp) (by simp) q
  | cons n ns =>
    rw [if_pos (by simp)]
    refine ⟨.ref a, rfl, a, (n :: ns).map V.int, rfl, .inl nae, fun pc hpc => ?_⟩
    exact begin_rest (cs := n :: ns) upd_same (by simp) hz q
end DL

set_option Elab.async false
set_option linter.all false
set_option maxRecDepth 100000
set_option maxHeartbeats 4000000
namespace V
open PySem PySem.Spec PyProof.Rows L2 DL
def c_WORDS : PyData := .tuple [.str "a", .str "b", .str "rc"]
def c_SIGNS : PyData := .tuple [.str "==", .str "!=", .str "<=", .str ">=", .str "<", .str ">", .str "~="]
def c_FIRST : PyData := .tuple [.int 0, .int 0]
def c_AFTER_ALL_spans : PyData := .tuple [.int 4]
def c_LEAST : PyData := .tuple [.int 0, .tuple [], .tuple [.int 0, .int 0]]
def c_AFTER_ALL_alike : PyData := .tuple [.int 4]
def c_FINAL_TAIL : PyData := .tuple [.int 2]
def frs : List Str := ["isinstance", "len", "int", "str", "tuple", "list", "range", "enumerate", "any", "max", "min", "sorted", "bool", "repr", "dict"]
def cis : List (Str × Int) := [("MOST_FIGURES", 24), ("MOST_NUMBERS_versions", 60), ("MOST_CLAUSES", 12), ("MOST_NUMBERS_requirements", 8), ("MOST_NUMBER", 1000000000), ("MOST_RELEASES", 40), ("POST_alike", 3)]
def css : List (Str × Str) := [("FIGURES", "0123456789"), ("POST_versions", ".post"), ("DEV", ".dev"), ("STAR", ".*")]
def cts : List (Str × PyData) := [("WORDS", c_WORDS), ("SIGNS", c_SIGNS), ("FIRST", c_FIRST), ("AFTER_ALL_spans", c_AFTER_ALL_spans), ("LEAST", c_LEAST), ("AFTER_ALL_alike", c_AFTER_ALL_alike), ("FINAL_TAIL", c_FINAL_TAIL)]
structure Txt (K : PySem.W.Frag) (mg : Str → Option Value) : Prop where
  fr : ∀ x : Str, x ∈ frs → mg x = none
  ci : ∀ (x : Str) (i : Int), (x, i) ∈ cis → ∃ t, mg x = some (.int i t)
  cs : ∀ x z : Str, (x, z) ∈ css → ∃ t, mg x = some (.str z t)
  ct : ∀ (j : Nat) (x : Str) (d : PyData), cts[j]? = some (x, d) → mg x = some (.ref (He.ga K x)) ∧ ∀ F, Dt K F (.ref (He.ga K x)) d
  wd : (∀ H, SqT K H (He.ga K "WORDS") ((["a", "b", "rc"] : List Str).map V.str)) ∧ ∃ ob, K.lookup (He.ga K "WORDS") = some ob ∧ ob.cls = .type "tuple" ∧ ob.dict = none
  fn : ∀ (j : Nat) (x : Str) (st : Stmt), Hd.fn[j]? = some (Hd.dd x st) → mg x = some (.ref (He.ga K x)) ∧ ∃ fd, FnP K x st (He.ga K x) fd
theorem fa_eq : Hd.fa = (frs.map He.Fa.free ++ cis.map (fun p => He.Fa.int p.1 p.2) ++ css.map (fun p => He.Fa.str p.1 p.2)) ++ cts.map (fun p => He.Fa.glo p.1) ++ Hd.fn.map (fun d => He.Fa.glo d.name) := by rfl
section
variable {K : PySem.W.Frag} {h : Heap} {mg : Str → Option Value}
theorem tup_at {p : Addr} {vs : List V} {ds : List PyData} (q : ∀ H, SqT K H p vs) (d : ∀ F, DtAll K F vs ds) (F : Hp) : Dt K F (.ref p) (.tuple ds) := .tup (q F) (d F)
theorem tupAt_ok {a : Addr} {vs : List He.Dv} (h : Hd.tupAt K a vs = true) (H : Hp) : SqT K H a (vs.map (He.Dv.v K)) := by
  unfold Hd.tupAt at h
  cases q : K.lookup a with
  | none =>
    rw [q] at h
    cases h
  | some o =>
    obtain ⟨oc, od, dt, osl⟩ := o
    rw [q] at h
    cases oc with
    | type c =>
      cases dt with
      | seq its n =>
        obtain ⟨h1, h2⟩ := He.ba (show (decide (c = "tuple") && (decide (its.size ≤ sizeLine) && He.relAll (vs.map (He.Dv.v K)) its.toList)) = true from h)
        obtain ⟨h3, h4⟩ := He.ba h2
        exact .inr ⟨_, its, n, q, congrArg Value.type (of_decide_eq_true h1), rfl, of_decide_eq_true h3, He.relAll_ok h4⟩
      | _ => cases h
    | _ => cases dt <;> cases h
theorem txt_of (X : K.In h) (G : h.Ns mainGlobals mg) (c : He.SaysD Hd.fa Hd.fn K) (e : Hd.ex K = true) : Txt K mg := by
  have c1 := (He.ba (show ((Hd.fa.all fun f => f.ok K) && Hd.fn.all fun d => d.ok K) = true from congrArg (fun z : He.AlD => z.1) c)).1
  have c2 : ∀ f ∈ Hd.fa, f.ok K = true := List.all_eq_true.mp c1
  rw [fa_eq] at c2
  obtain ⟨e12, e3⟩ := He.ba e
  obtain ⟨e1, e2⟩ := He.ba e12
  have tb : ∀ x vs, (x, vs) ∈ Hd.tb → ∀ H, SqT K H (He.ga K x) (vs.map (He.Dv.v K)) := fun x vs hm H => He.tupB_ok (List.all_eq_true.mp e1 (x, vs) hm) H
  have tm : ∀ (j : Nat) (x : Str) (vs : List He.Dv), Hd.tb[j]? = some (x, vs) → ∀ H, SqT K H (He.ga K x) (vs.map (He.Dv.v K)) := fun j x vs hj => tb x vs (List.mem_of_getElem? hj)
  have glo : ∀ (j : Nat) (x : Str) (d : PyData), cts[j]? = some (x, d) → mg x = some (.ref (He.ga K x)) := fun j x d hj => He.glo_ok X G (c2 _ (List.mem_append_left _ (List.mem_append_right _ (List.mem_map_of_mem (f := fun p : Str × PyData => He.Fa.glo p.1) (List.mem_of_getElem? hj)))))
  have dw : ∀ F, Dt K F (.ref (He.ga K "WORDS")) c_WORDS := tup_at (tm 0 "WORDS" _ rfl) fun F => .cons (.str _) (.cons (.str _) (.cons (.str _) .nil))
  have dsg : ∀ F, Dt K F (.ref (He.ga K "SIGNS")) c_SIGNS := tup_at (tm 1 "SIGNS" _ rfl) fun F => .cons (.str _) (.cons (.str _) (.cons (.str _) (.cons (.str _) (.cons (.str _) (.cons (.str _) (.cons (.str _) .nil))))))
  have df : ∀ F, Dt K F (.ref (He.ga K "FIRST")) c_FIRST := tup_at (tm 2 "FIRST" _ rfl) fun F => .cons (.int _) (.cons (.int _) .nil)
  have da : ∀ F, Dt K F (.ref (He.ga K "AFTER_ALL_spans")) c_AFTER_ALL_spans := tup_at (tm 3 "AFTER_ALL_spans" _ rfl) fun F => .cons (.int _) .nil
  have de : ∀ F, Dt K F (.ref (Hd.pE K)) (.tuple []) := tup_at (tupAt_ok (vs := []) e2) fun F => .nil
  have dl : ∀ F, Dt K F (.ref (He.ga K "LEAST")) c_LEAST := tup_at (tm 4 "LEAST" _ rfl) fun F => .cons (.int _) (.cons (de F) (.cons (df F) .nil))
  have da2 : ∀ F, Dt K F (.ref (He.ga K "AFTER_ALL_alike")) c_AFTER_ALL_alike := tup_at (tm 5 "AFTER_ALL_alike" _ rfl) fun F => .cons (.int _) .nil
  have dft : ∀ F, Dt K F (.ref (He.ga K "FINAL_TAIL")) c_FINAL_TAIL := tup_at (tm 6 "FINAL_TAIL" _ rfl) fun F => .cons (.int _) .nil
  refine ⟨fun x hx => ?_, fun x i hx => ?_, fun x z hx => ?_, fun j x d hj => ⟨glo j x d hj, ?_⟩, ⟨tm 0 "WORDS" _ rfl, ?_⟩, fun j x st hj => ⟨?_, ?_⟩⟩
  · exact He.free_ok X G (c2 _ (List.mem_append_left _ (List.mem_append_left _ (List.mem_append_left _ (List.mem_append_left _ (List.mem_map_of_mem (f := He.Fa.free) hx))))))
  · exact He.int_ok X G (c2 _ (List.mem_append_left _ (List.mem_append_left _ (List.mem_append_left _ (List.mem_append_right _ (List.mem_map_of_mem (f := fun p : Str × Int => He.Fa.int p.1 p.2) hx))))))
  · exact He.str_ok X G (c2 _ (List.mem_append_left _ (List.mem_append_left _ (List.mem_append_right _ (List.mem_map_of_mem (f := fun p : Str × Str => He.Fa.str p.1 p.2) hx)))))
  · match j, hj with
    | 0, hj => cases hj; exact dw
    | 1, hj => cases hj; exact dsg
    | 2, hj => cases hj; exact df
    | 3, hj => cases hj; exact da
    | 4, hj => cases hj; exact dl
    | 5, hj => cases hj; exact da2
    | 6, hj => cases hj; exact dft
    | j + 7, hj => cases hj
  · rcases tm 0 "WORDS" _ rfl (fun _ => none) with (w | ⟨o, w⟩) | ⟨o, its, n, w, hc, hd, _⟩
    · cases w
    · cases w
    · refine ⟨o, w, hc, ?_⟩
      unfold Hd.noDict at e3
      rw [w] at e3
      obtain ⟨oc, od, dt, osl⟩ := o
      cases od with
      | none => rfl
      | some z => cases e3
  · exact He.glo_ok X G (c2 _ (List.mem_append_right _ (List.mem_map_of_mem (f := fun d : He.DefD => He.Fa.glo d.name) (List.mem_of_getElem? hj))))
  · exact He.SaysD.def_ c j (d := Hd.dd x st) hj
end
end V

set_option Elab.async false
set_option linter.all false
set_option maxRecDepth 100000
set_option maxHeartbeats 8000000
namespace V
open PySem PySem.Spec PyProof.Rows L2 DL
section
variable {P : Program} {w : World} {K : PySem.W.Frag} {mg : Str → Option Value} {base : Heap}
/-! number_at -/
def N_number_at : List Str := ["text", "at", "behind", "figures"]
theorem sc_number_at : FnScope N_number_at ["text", "at"] (defScope Hd.s_number_at) := ⟨rfl, rfl, rfl, by decide +kernel, rfl, by decide +kernel, by decide +kernel⟩
def td_number_at : TDS := (dSeq (dAsg (dVar 1) (gdName 2))
  (dSeq (dWhile (dAnd (dTest (dOp neR (dSl (dVar 0) (dPart (dVar 2)) (dPart (dOp addR (dVar 2) (dC (.int 1))))) (dC (.str "")))) (dTest (dOp inR (dOp ixR (dVar 0) (dVar 2)) (dC (.str "0123456789"))))) (dAug 2 (dC (.int 1)) addR2))
  (dSeq (dAsg (dSl (dVar 0) (dPart (dVar 1)) (dPart (dVar 2))) (gdName 3))
  (dSeq (dIfS (dOr (dTest (dOp eqR (dVar 3) (dC (.str "")))) (dOr (dTest (dOp gtR (dCB lenR (dCons (dVar 3) dNil)) (dC (.int 24)))) (dAnd (dTest (dOp eqR (dOp ixR (dVar 3) (dC (.int 0))) (dC (.str "0")))) (dTest (dOp neR (dVar 3) (dC (.str "0"))))))) (dRet (dC .none)) dNext)
  (dRet (dTup (dCons (dCB intR1 (dCons (dVar 3) dNil)) (dCons (dVar 2) dNil))))))))
theorem ok_number_at (T : Txt K mg)  {D : DX} (hw : ∀ ds n Q, D ds n Q → td_number_at  (ends Q) (entry false N_number_at ds n)) : Okd P w K mg base 1 "number_at" ["text", "at"] false 2 D := by
  obtain ⟨hm, fd, Fd⟩ := T.fn 0 "number_at" Hd.s_number_at rfl
  refine ⟨fd, hm, Fd.kp, Fd.bindsN (fun _ _ _ _ _ _ us hl => match us, hl with | [_, _], _ => rfl), ?_⟩
  refine fnD Fd sc_number_at rfl (fun cdv A outer s H E hr => ?_)
  have nd := sc_number_at.nd
  have hu : (A.deeper (envOfC "number_at" (defScope Hd.s_number_at) s.heap.objs.size (He.ga K "number_at") cdv)).units + 64 < cLine := hr.units
  have hu5 : (A.deeper (envOfC "number_at" (defScope Hd.s_number_at) s.heap.objs.size (He.ga K "number_at") cdv)).units + 65 < cLine := by have := hr.un; omega
  have hu1 : (A.deeper (envOfC "number_at" (defScope Hd.s_number_at) s.heap.objs.size (He.ga K "number_at") cdv)).units + 1 < cLine := by have := hr.un; omega
  exact ⟨_, td_number_at , (dss_cons (ds_set (i := 2) nd rfl (.inl rfl) (de_var (pv 1)))
      (dss_cons (ds_while PassesOwn.never (DW.dt (dw_and (dt_cmp (ob_ne hu) (de_sl (de_var (pv 0)) (do_some (de_var (pv 2))) (do_some (de_op ob_add (de_var (pv 2)) de_int))) de_str (nomark _)) (dw_and1 (dt_cmp (ob_in hu5) (de_ix (de_var (pv 0)) (de_var (pv 2)) (fun _ _ => rfl)) (de_gstr (by rfl) (T.cs "FIGURES" "0123456789" (by decide +kernel))) rfl)))) (dss_one (ds_aug (i := 2) nd rfl (.inl rfl) de_int ob_iadd)))
      (dss_cons (ds_set (i := 3) nd rfl (.inl rfl) (de_sl (de_var (pv 0)) (do_some (de_var (pv 1))) (do_some (de_var (pv 2)))))
      (dss_cons (ds_if (DW.dt (dw_or (dt_cmp (ob_eq hu) (de_var (pv 3)) de_str (nomark _)) (dw_or (dt_cmp (ob_gt hu) (de_callB db_len (by rfl) (T.fr "len" (by decide +kernel)) bb_len (da_cons (de_var (pv 3)) da_nil)) (de_gint (by rfl) (T.ci "MOST_FIGURES" 24 (by decide +kernel))) (nomark _)) (dw_or1 (DW.dt (dw_and (dt_cmp (ob_eq hu) (de_ix (de_var (pv 3)) de_int (fun _ _ => rfl)) de_str (nomark _)) (dw_and1 (dt_cmp (ob_ne hu) (de_var (pv 3)) de_str (nomark _))))))))) (dss_one (ds_ret de_non)) dss_nil)
      (dss_one (ds_ret (de_tup (da_cons (de_callTy db_int (by rfl) (T.fr "int" (by decide +kernel)) bb_int (da_cons (de_var (pv 3)) da_nil)) (da_cons (de_var (pv 2)) da_nil))))))))), hw⟩
/-! numbers_at -/
def N_numbers_at : List Str := ["text", "at", "found", "place", "told"]
theorem sc_numbers_at : FnScope N_numbers_at ["text", "at"] (defScope Hd.s_numbers_at) := ⟨rfl, rfl, rfl, by decide +kernel, rfl, by decide +kernel, by decide +kernel⟩
def td_numbers_at (D_number_at : DX) : TDS := (dSeq (dParOwn 2 3 (dVar 1))
  (dWhile (dTest (dC (.bool true))) (dSeq (dAsg (dCall D_number_at (dCons (dVar 0) (dCons (dVar 3) dNil))) (gdName 4))
  (dSeq (dIfS (dTest (dOp isR (dVar 4) (dC .none))) (dRet (dC .none)) dNext)
  (dSeq (dDrop (dApp 2 (dOp ixR (dVar 4) (dC (.int 0)))))
  (dSeq (dAsg (dOp ixR (dVar 4) (dC (.int 1))) (gdName 3))
  (dSeq (dIfS (dOr (dTest (dOp neR (dSl (dVar 0) (dPart (dVar 3)) (dPart (dOp addR (dVar 3) (dC (.int 1))))) (dC (.str ".")))) (dTest (dOp notinR (dSl (dVar 0) (dPart (dOp addR (dVar 3) (dC (.int 1)))) (dPart (dOp addR (dVar 3) (dC (.int 2))))) (dCB tupR1 (dCons (dC (.str "0123456789")) dNil))))) (dRet (dIf (dTest (dOp leR (dLenOwn 2) (dC (.int 60)))) (dTup (dCons (dCB tupR1 (dCons (dGive 2) dNil)) (dCons (dVar 3) dNil))) (dC .none))) dNext)
  (dAug 3 (dC (.int 1)) addR2))))))))
theorem ok_numbers_at (T : Txt K mg) {D_number_at : DX} (pm_number_at : Pm 2 D_number_at) (c_number_at : Okd P w K mg base 1 "number_at" ["text", "at"] false 2 D_number_at) {D : DX} (hw : ∀ ds n Q, D ds n Q → td_numbers_at D_number_at (ends Q) (entry false N_numbers_at ds n)) : Okd P w K mg base 2 "numbers_at" ["text", "at"] false 2 D := by
  obtain ⟨hm, fd, Fd⟩ := T.fn 1 "numbers_at" Hd.s_numbers_at rfl
  refine ⟨fd, hm, Fd.kp, Fd.bindsN (fun _ _ _ _ _ _ us hl => match us, hl with | [_, _], _ => rfl), ?_⟩
  refine fnD Fd sc_numbers_at rfl (fun cdv A outer s H E hr => ?_)
  have nd := sc_numbers_at.nd
  have hu : (A.deeper (envOfC "numbers_at" (defScope Hd.s_numbers_at) s.heap.objs.size (He.ga K "numbers_at") cdv)).units + 64 < cLine := hr.units
  have hu5 : (A.deeper (envOfC "numbers_at" (defScope Hd.s_numbers_at) s.heap.objs.size (He.ga K "numbers_at") cdv)).units + 65 < cLine := by have := hr.un; omega
  have hu1 : (A.deeper (envOfC "numbers_at" (defScope Hd.s_numbers_at) s.heap.objs.size (He.ga K "numbers_at") cdv)).units + 1 < cLine := by have := hr.un; omega
  exact ⟨_, td_numbers_at D_number_at, (dss_cons (ds_parOwn (i := 2) (j := 3) rfl nd rfl rfl (by decide) rfl rfl (de_var (pv 1)))
      (dss_one (ds_while PassesOwn.never (dt_val de_bl) (dss_cons (ds_set (i := 4) nd rfl (.inl rfl) (de_callO c_number_at pm_number_at (hr.mono (by decide)) (by rfl) (da_cons (de_var (pv 0)) (da_cons (de_var (pv 3)) da_nil))))
      (dss_cons (ds_if (dt_cmp ob_is (de_var (pv 4)) de_non (nomark _)) (dss_one (ds_ret de_non)) dss_nil)
      (dss_cons (ds_expr (de_app (pv 2) (de_ix (de_var (pv 4)) de_int (fun _ _ => rfl))))
      (dss_cons (ds_set (i := 3) nd rfl (.inl rfl) (de_ix (de_var (pv 4)) de_int (fun _ _ => rfl)))
      (dss_cons (ds_if (DW.dt (dw_or (dt_cmp (ob_ne hu) (de_sl (de_var (pv 0)) (do_some (de_var (pv 3))) (do_some (de_op ob_add (de_var (pv 3)) de_int))) de_str (nomark _)) (dw_or1 (dt_cmp (ob_notin hu5) (de_sl (de_var (pv 0)) (do_some (de_op ob_add (de_var (pv 3)) de_int)) (do_some (de_op ob_add (de_var (pv 3)) de_int))) (de_callTy (db_tuple rfl) (by rfl) (T.fr "tuple" (by decide +kernel)) bb_tuple (da_cons (de_gstr (by rfl) (T.cs "FIGURES" "0123456789" (by decide +kernel))) da_nil)) rfl)))) (dss_one (ds_ret (de_if (dt_cmp (ob_le hu) (de_lenOwn (pv 2) (by rfl) (T.fr "len" (by decide +kernel)) bb_len) (de_gint (by rfl) (T.ci "MOST_NUMBERS_versions" 60 (by decide +kernel))) (nomark _)) (de_tup (da_cons (de_callTy (db_tuple rfl) (by rfl) (T.fr "tuple" (by decide +kernel)) bb_tuple (da_cons (de_give (pv 2)) da_nil)) (da_cons (de_var (pv 3)) da_nil))) de_non))) dss_nil)
      (dss_one (ds_aug (i := 3) nd rfl (.inl rfl) de_int ob_iadd)))))))))), hw⟩
/-! word_at -/
def N_word_at : List Str := ["text", "at", "words", "word", "told"]
theorem sc_word_at : FnScope N_word_at ["text", "at", "words"] (defScope Hd.s_word_at) := ⟨rfl, rfl, rfl, by decide +kernel, rfl, by decide +kernel, by decide +kernel⟩
def td_word_at (D_number_at : DX) : TDS := (dSeq (dFor (diT (dVar 2)) (gdName 3) (dIfS (dTest (dBM swR (dVar 0) (dCons (dVar 3) (dCons (dVar 1) dNil)))) (dSeq (dAsg (dCall D_number_at (dCons (dVar 0) (dCons (dOp addR (dVar 1) (dCB lenR (dCons (dVar 3) dNil))) dNil))) (gdName 4))
  (dRet (dIf (dTest (dOp isR (dVar 4) (dC .none))) (dC .none) (dTup (dCons (dTup (dCons (dVar 3) (dCons (dOp ixR (dVar 4) (dC (.int 0))) dNil))) (dCons (dOp ixR (dVar 4) (dC (.int 1))) dNil)))))) dNext))
  (dRet (dTup (dCons (dC .none) (dCons (dVar 1) dNil)))))
theorem ok_word_at (T : Txt K mg) {D_number_at : DX} (pm_number_at : Pm 2 D_number_at) (c_number_at : Okd P w K mg base 1 "number_at" ["text", "at"] false 2 D_number_at) {D : DX} (hw : ∀ ds n Q, D ds n Q → td_word_at D_number_at (ends Q) (entry false N_word_at ds n)) : Okd P w K mg base 2 "word_at" ["text", "at", "words"] false 3 D := by
  obtain ⟨hm, fd, Fd⟩ := T.fn 2 "word_at" Hd.s_word_at rfl
  refine ⟨fd, hm, Fd.kp, Fd.bindsN (fun _ _ _ _ _ _ us hl => match us, hl with | [_, _, _], _ => rfl), ?_⟩
  refine fnD Fd sc_word_at rfl (fun cdv A outer s H E hr => ?_)
  have nd := sc_word_at.nd
  have hu : (A.deeper (envOfC "word_at" (defScope Hd.s_word_at) s.heap.objs.size (He.ga K "word_at") cdv)).units + 64 < cLine := hr.units
  have hu5 : (A.deeper (envOfC "word_at" (defScope Hd.s_word_at) s.heap.objs.size (He.ga K "word_at") cdv)).units + 65 < cLine := by have := hr.un; omega
  have hu1 : (A.deeper (envOfC "word_at" (defScope Hd.s_word_at) s.heap.objs.size (He.ga K "word_at") cdv)).units + 1 < cLine := by have := hr.un; omega
  exact ⟨_, td_word_at D_number_at, (dss_cons (ds_for PassesOwn.never rfl (di_tup (de_var (pv 2))) (dg_name (i := 3) nd rfl (.inl rfl)) (dss_one (ds_if (dt_val (de_bm dm_startswith F.slot_str_startswith F.type_str_startswith (de_var (pv 0)) (da_cons (de_var (pv 3)) (da_cons (de_var (pv 1)) da_nil)))) (dss_cons (ds_set (i := 4) nd rfl (.inl rfl) (de_callO c_number_at pm_number_at (hr.mono (by decide)) (by rfl) (da_cons (de_var (pv 0)) (da_cons (de_op ob_add (de_var (pv 1)) (de_callB db_len (by rfl) (T.fr "len" (by decide +kernel)) bb_len (da_cons (de_var (pv 3)) da_nil))) da_nil))))
      (dss_one (ds_ret (de_if (dt_cmp ob_is (de_var (pv 4)) de_non (nomark _)) de_non (de_tup (da_cons (de_tup (da_cons (de_var (pv 3)) (da_cons (de_ix (de_var (pv 4)) de_int (fun _ _ => rfl)) da_nil))) (da_cons (de_ix (de_var (pv 4)) de_int (fun _ _ => rfl)) da_nil))))))) dss_nil)))
      (dss_one (ds_ret (de_tup (da_cons de_non (da_cons (de_var (pv 1)) da_nil)))))), hw⟩
/-! tail_at -/
def N_tail_at : List Str := ["text", "at", "found", "place", "words", "told", "ahead", "post", "dev"]
theorem sc_tail_at : FnScope N_tail_at ["text", "at"] (defScope Hd.s_tail_at) := ⟨rfl, rfl, rfl, by decide +kernel, rfl, by decide +kernel, by decide +kernel⟩
def td_tail_at (D_word_at : DX) : TDS := (dSeq (dParOwn 2 3 (dVar 1))
  (dSeq (dFor (diT (dTup (dCons (dC c_WORDS) (dCons (dTup (dCons (dC (.str ".post")) dNil)) (dCons (dTup (dCons (dC (.str ".dev")) dNil)) dNil))))) (gdName 4) (dSeq (dAsg (dCall D_word_at (dCons (dVar 0) (dCons (dVar 3) (dCons (dVar 4) dNil)))) (gdName 5))
  (dSeq (dIfS (dTest (dOp isR (dVar 5) (dC .none))) (dRet (dC .none)) dNext)
  (dSeq (dDrop (dApp 2 (dOp ixR (dVar 5) (dC (.int 0)))))
  (dAsg (dOp ixR (dVar 5) (dC (.int 1))) (gdName 3))))))
  (dSeq (dIfS (dTest (dOp neR (dVar 3) (dCB lenR (dCons (dVar 0) dNil)))) (dRet (dC .none)) dNext)
  (dSeq (dAsg (dGive 2) (gdUnl (gdCons (gdName 6) (gdCons (gdName 7) (gdCons (gdName 8) gdNil)))))
  (dRet (dTup (dCons (dVar 6) (dCons (dIf (dTest (dOp isR (dVar 7) (dC .none))) (dC .none) (dOp ixR (dVar 7) (dC (.int 1)))) (dCons (dIf (dTest (dOp isR (dVar 8) (dC .none))) (dC .none) (dOp ixR (dVar 8) (dC (.int 1)))) dNil)))))))))
theorem ok_tail_at (T : Txt K mg) {D_word_at : DX} (pm_word_at : Pm 3 D_word_at) (c_word_at : Okd P w K mg base 2 "word_at" ["text", "at", "words"] false 3 D_word_at) {D : DX} (hw : ∀ ds n Q, D ds n Q → td_tail_at D_word_at (ends Q) (entry false N_tail_at ds n)) : Okd P w K mg base 3 "tail_at" ["text", "at"] false 2 D := by
  obtain ⟨hm, fd, Fd⟩ := T.fn 3 "tail_at" Hd.s_tail_at rfl
  refine ⟨fd, hm, Fd.kp, Fd.bindsN (fun _ _ _ _ _ _ us hl => match us, hl with | [_, _], _ => rfl), ?_⟩
  refine fnD Fd sc_tail_at rfl (fun cdv A outer s H E hr => ?_)
  have nd := sc_tail_at.nd
  have hu : (A.deeper (envOfC "tail_at" (defScope Hd.s_tail_at) s.heap.objs.size (He.ga K "tail_at") cdv)).units + 64 < cLine := hr.units
  have hu5 : (A.deeper (envOfC "tail_at" (defScope Hd.s_tail_at) s.heap.objs.size (He.ga K "tail_at") cdv)).units + 65 < cLine := by have := hr.un; omega
  have hu1 : (A.deeper (envOfC "tail_at" (defScope Hd.s_tail_at) s.heap.objs.size (He.ga K "tail_at") cdv)).units + 1 < cLine := by have := hr.un; omega
  exact ⟨_, td_tail_at D_word_at, (dss_cons (ds_parOwn (i := 2) (j := 3) rfl nd rfl rfl (by decide) rfl rfl (de_var (pv 1)))
      (dss_cons (ds_for PassesOwn.never rfl (di_tup (de_tup (da_cons (de_gtup (by rfl) (T.ct 0 "WORDS" c_WORDS rfl)) (da_cons (de_tup (da_cons (de_gstr (by rfl) (T.cs "POST_versions" ".post" (by decide +kernel))) da_nil)) (da_cons (de_tup (da_cons (de_gstr (by rfl) (T.cs "DEV" ".dev" (by decide +kernel))) da_nil)) da_nil))))) (dg_name (i := 4) nd rfl (.inl rfl)) (dss_cons (ds_set (i := 5) nd rfl (.inl rfl) (de_callO c_word_at pm_word_at (hr.mono (by decide)) (by rfl) (da_cons (de_var (pv 0)) (da_cons (de_var (pv 3)) (da_cons (de_var (pv 4)) da_nil)))))
      (dss_cons (ds_if (dt_cmp ob_is (de_var (pv 5)) de_non (nomark _)) (dss_one (ds_ret de_non)) dss_nil)
      (dss_cons (ds_expr (de_app (pv 2) (de_ix (de_var (pv 5)) de_int (fun _ _ => rfl))))
      (dss_one (ds_set (i := 3) nd rfl (.inl rfl) (de_ix (de_var (pv 5)) de_int (fun _ _ => rfl))))))))
      (dss_cons (ds_if (dt_cmp (ob_ne hu) (de_var (pv 3)) (de_callB db_len (by rfl) (T.fr "len" (by decide +kernel)) bb_len (da_cons (de_var (pv 0)) da_nil)) (nomark _)) (dss_one (ds_ret de_non)) dss_nil)
      (dss_cons (ds_asg (de_give (pv 2)) (dg_unl (n := 3) rfl (dgs_cons (dg_name (i := 6) nd rfl (.inl rfl)) (dgs_cons (dg_name (i := 7) nd rfl (.inl rfl)) (dgs_cons (dg_name (i := 8) nd rfl (.inl rfl)) dgs_nil))) (gl_cons (gl_cons (gl_cons gl_nil)))))
      (dss_one (ds_ret (de_tup (da_cons (de_var (pv 6)) (da_cons (de_if (dt_cmp ob_is (de_var (pv 7)) de_non (nomark _)) de_non (de_ix (de_var (pv 7)) de_int (fun _ _ => rfl))) (da_cons (de_if (dt_cmp ob_is (de_var (pv 8)) de_non (nomark _)) de_non (de_ix (de_var (pv 8)) de_int (fun _ _ => rfl))) da_nil)))))))))), hw⟩
/-! parts_of -/
def N_parts_of : List Str := ["thing", "epoch", "at", "told", "found", "tail"]
theorem sc_parts_of : FnScope N_parts_of ["thing"] (defScope Hd.s_parts_of) := ⟨rfl, rfl, rfl, by decide +kernel, rfl, by decide +kernel, by decide +kernel⟩
def td_parts_of (D_number_at D_numbers_at D_tail_at : DX) : TDS := (dSeq (dIfS (dNot (dTest (dIsi (fun t => t == "str") (dVar 0)))) (dRet (dC .none)) dNext)
  (dSeq (dAsg (dTup (dCons (dC (.int 0)) (dCons (dC (.int 0)) dNil))) (gdTup (gdCons (gdName 1) (gdCons (gdName 2) gdNil))))
  (dSeq (dIfS (dTest (dOp inR (dC (.str "!")) (dVar 0))) (dSeq (dAsg (dCall D_number_at (dCons (dVar 0) (dCons (dC (.int 0)) dNil))) (gdName 3))
  (dSeq (dIfS (dOr (dTest (dOp isR (dVar 3) (dC .none))) (dTest (dOp neR (dOp ixR (dVar 0) (dOp ixR (dVar 3) (dC (.int 1)))) (dC (.str "!"))))) (dRet (dC .none)) dNext)
  (dPar 1 2 (dOp ixR (dVar 3) (dC (.int 0))) (dOp addR (dOp ixR (dVar 3) (dC (.int 1))) (dC (.int 1)))))) dNext)
  (dSeq (dAsg (dCall D_numbers_at (dCons (dVar 0) (dCons (dVar 2) dNil))) (gdName 4))
  (dSeq (dIfS (dTest (dOp isR (dVar 4) (dC .none))) (dRet (dC .none)) dNext)
  (dSeq (dAsg (dCall D_tail_at (dCons (dVar 0) (dCons (dOp ixR (dVar 4) (dC (.int 1))) dNil))) (gdName 5))
  (dRet (dIf (dTest (dOp isR (dVar 5) (dC .none))) (dC .none) (dTup (dCons (dVar 1) (dCons (dOp ixR (dVar 4) (dC (.int 0))) (dStar (dVar 5) dNil))))))))))))
theorem ok_parts_of (T : Txt K mg) {D_number_at D_numbers_at D_tail_at : DX} (pm_number_at : Pm 2 D_number_at) (c_number_at : Okd P w K mg base 1 "number_at" ["text", "at"] false 2 D_number_at) (pm_numbers_at : Pm 2 D_numbers_at) (c_numbers_at : Okd P w K mg base 2 "numbers_at" ["text", "at"] false 2 D_numbers_at) (pm_tail_at : Pm 2 D_tail_at) (c_tail_at : Okd P w K mg base 3 "tail_at" ["text", "at"] false 2 D_tail_at) {D : DX} (hw : ∀ ds n Q, D ds n Q → td_parts_of D_number_at D_numbers_at D_tail_at (ends Q) (entry false N_parts_of ds n)) : Okd P w K mg base 4 "parts_of" ["thing"] false 1 D := by
  obtain ⟨hm, fd, Fd⟩ := T.fn 4 "parts_of" Hd.s_parts_of rfl
  refine ⟨fd, hm, Fd.kp, Fd.bindsN (fun _ _ _ _ _ _ us hl => match us, hl with | [_], _ => rfl), ?_⟩
  refine fnD Fd sc_parts_of rfl (fun cdv A outer s H E hr => ?_)
  have nd := sc_parts_of.nd
  have hu : (A.deeper (envOfC "parts_of" (defScope Hd.s_parts_of) s.heap.objs.size (He.ga K "parts_of") cdv)).units + 64 < cLine := hr.units
  have hu5 : (A.deeper (envOfC "parts_of" (defScope Hd.s_parts_of) s.heap.objs.size (He.ga K "parts_of") cdv)).units + 65 < cLine := by have := hr.un; omega
  have hu1 : (A.deeper (envOfC "parts_of" (defScope Hd.s_parts_of) s.heap.objs.size (He.ga K "parts_of") cdv)).units + 1 < cLine := by have := hr.un; omega
  exact ⟨_, td_parts_of D_number_at D_numbers_at D_tail_at, (dss_cons (ds_if (dt_not (dt_val (de_isi isStr (de_var (pv 0)) (by rfl) (T.fr "isinstance" (by decide +kernel)) bb_isi (by rfl) (T.fr "str" (by decide +kernel)) bb_str))) (dss_one (ds_ret de_non)) dss_nil)
      (dss_cons (ds_asg (de_tup (da_cons de_int (da_cons de_int da_nil))) (dg_tup (n := 2) rfl (dgs_cons (dg_name (i := 1) nd rfl (.inl rfl)) (dgs_cons (dg_name (i := 2) nd rfl (.inl rfl)) dgs_nil)) (gl_cons (gl_cons gl_nil))))
      (dss_cons (ds_if (dt_cmp (ob_in hu5) de_str (de_var (pv 0)) rfl) (dss_cons (ds_set (i := 3) nd rfl (.inl rfl) (de_callO c_number_at pm_number_at (hr.mono (by decide)) (by rfl) (da_cons (de_var (pv 0)) (da_cons de_int da_nil))))
      (dss_cons (ds_if (DW.dt (dw_or (dt_cmp ob_is (de_var (pv 3)) de_non (nomark _)) (dw_or1 (dt_cmp (ob_ne hu) (de_ix (de_var (pv 0)) (de_ix (de_var (pv 3)) de_int (fun _ _ => rfl)) (fun _ _ => rfl)) de_str (nomark _))))) (dss_one (ds_ret de_non)) dss_nil)
      (dss_one (ds_par (i := 1) (j := 2) rfl nd rfl rfl (by decide) rfl rfl (de_ix (de_var (pv 3)) de_int (fun _ _ => rfl)) (de_op ob_add (de_ix (de_var (pv 3)) de_int (fun _ _ => rfl)) de_int))))) dss_nil)
      (dss_cons (ds_set (i := 4) nd rfl (.inl rfl) (de_callO c_numbers_at pm_numbers_at (hr.mono (by decide)) (by rfl) (da_cons (de_var (pv 0)) (da_cons (de_var (pv 2)) da_nil))))
      (dss_cons (ds_if (dt_cmp ob_is (de_var (pv 4)) de_non (nomark _)) (dss_one (ds_ret de_non)) dss_nil)
      (dss_cons (ds_set (i := 5) nd rfl (.inl rfl) (de_callO c_tail_at pm_tail_at (hr.mono (by decide)) (by rfl) (da_cons (de_var (pv 0)) (da_cons (de_ix (de_var (pv 4)) de_int (fun _ _ => rfl)) da_nil))))
      (dss_one (ds_ret (de_if (dt_cmp ob_is (de_var (pv 5)) de_non (nomark _)) de_non (de_tup (da_cons (de_var (pv 1)) (da_cons (de_ix (de_var (pv 4)) de_int (fun _ _ => rfl)) (da_star (de_var (pv 5)) da_nil))))))))))))), hw⟩
/-! based -/
def N_based : List Str := ["numbers", "many"]
theorem sc_based : FnScope N_based ["numbers"] (defScope Hd.s_based) := ⟨rfl, rfl, rfl, by decide +kernel, rfl, by decide +kernel, by decide +kernel⟩
def td_based : TDS := (dSeq (dAsg (dCB lenR (dCons (dVar 0) dNil)) (gdName 1))
  (dSeq (dWhile (dAnd (dTest (dOp gtR (dVar 1) (dC (.int 0)))) (dTest (dOp eqR (dOp ixR (dVar 0) (dOp subR (dVar 1) (dC (.int 1)))) (dC (.int 0))))) (dAug 1 (dC (.int 1)) subR))
  (dRet (dSl (dVar 0) dNoPart (dPart (dVar 1))))))
theorem ok_based (T : Txt K mg)  {D : DX} (hw : ∀ ds n Q, D ds n Q → td_based  (ends Q) (entry false N_based ds n)) : Okd P w K mg base 1 "based" ["numbers"] false 1 D := by
  obtain ⟨hm, fd, Fd⟩ := T.fn 5 "based" Hd.s_based rfl
  refine ⟨fd, hm, Fd.kp, Fd.bindsN (fun _ _ _ _ _ _ us hl => match us, hl with | [_], _ => rfl), ?_⟩
  refine fnD Fd sc_based rfl (fun cdv A outer s H E hr => ?_)
  have nd := sc_based.nd
  have hu : (A.deeper (envOfC "based" (defScope Hd.s_based) s.heap.objs.size (He.ga K "based") cdv)).units + 64 < cLine := hr.units
  have hu5 : (A.deeper (envOfC "based" (defScope Hd.s_based) s.heap.objs.size (He.ga K "based") cdv)).units + 65 < cLine := by have := hr.un; omega
  have hu1 : (A.deeper (envOfC "based" (defScope Hd.s_based) s.heap.objs.size (He.ga K "based") cdv)).units + 1 < cLine := by have := hr.un; omega
  exact ⟨_, td_based , (dss_cons (ds_set (i := 1) nd rfl (.inl rfl) (de_callB db_len (by rfl) (T.fr "len" (by decide +kernel)) bb_len (da_cons (de_var (pv 0)) da_nil)))
      (dss_cons (ds_while PassesOwn.never (DW.dt (dw_and (dt_cmp (ob_gt hu) (de_var (pv 1)) de_int (nomark _)) (dw_and1 (dt_cmp (ob_eq hu) (de_ix (de_var (pv 0)) (de_op ob_sub (de_var (pv 1)) de_int) (fun _ _ => rfl)) de_int (nomark _))))) (dss_one (ds_aug (i := 1) nd rfl (.inl rfl) de_int ob_isub)))
      (dss_one (ds_ret (de_sl (de_var (pv 0)) do_none (do_some (de_var (pv 1)))))))), hw⟩
/-! tail_of -/
def N_tail_of : List Str := ["ahead", "post", "dev", "own", "head"]
theorem sc_tail_of : FnScope N_tail_of ["ahead", "post", "dev"] (defScope Hd.s_tail_of) := ⟨rfl, rfl, rfl, by decide +kernel, rfl, by decide +kernel, by decide +kernel⟩
def td_tail_of : TDS := (dSeq (dAsg (dIf (dTest (dOp isR (dVar 2) (dC .none))) (dTup (dCons (dC (.int 1)) dNil)) (dTup (dCons (dC (.int 0)) (dCons (dVar 2) dNil)))) (gdName 3))
  (dSeq (dIfS (dTest (dOp isntR (dVar 0) (dC .none))) (dSeq (dAsg (dTup (dCons (dC (.int 1)) (dCons (dIxT ["a", "b", "rc"] (dOp ixR (dVar 0) (dC (.int 0)))) (dCons (dOp ixR (dVar 0) (dC (.int 1))) dNil)))) (gdName 4))
  (dRet (dIf (dTest (dOp isR (dVar 1) (dC .none))) (dOp addR (dVar 4) (dVar 3)) (dOp addR (dOp addR (dVar 4) (dTup (dCons (dC (.int 2)) (dCons (dVar 1) dNil)))) (dVar 3))))) dNext)
  (dSeq (dIfS (dTest (dOp isntR (dVar 1) (dC .none))) (dRet (dOp addR (dTup (dCons (dC (.int 3)) (dCons (dVar 1) dNil))) (dVar 3))) dNext)
  (dRet (dIf (dTest (dOp isR (dVar 2) (dC .none))) (dTup (dCons (dC (.int 2)) dNil)) (dVar 3))))))
theorem ok_tail_of (T : Txt K mg)  {D : DX} (hw : ∀ ds n Q, D ds n Q → td_tail_of  (ends Q) (entry false N_tail_of ds n)) : Okd P w K mg base 1 "tail_of" ["ahead", "post", "dev"] false 3 D := by
  obtain ⟨hm, fd, Fd⟩ := T.fn 6 "tail_of" Hd.s_tail_of rfl
  refine ⟨fd, hm, Fd.kp, Fd.bindsN (fun _ _ _ _ _ _ us hl => match us, hl with | [_, _, _], _ => rfl), ?_⟩
  refine fnD Fd sc_tail_of rfl (fun cdv A outer s H E hr => ?_)
  have nd := sc_tail_of.nd
  have hu : (A.deeper (envOfC "tail_of" (defScope Hd.s_tail_of) s.heap.objs.size (He.ga K "tail_of") cdv)).units + 64 < cLine := hr.units
  have hu5 : (A.deeper (envOfC "tail_of" (defScope Hd.s_tail_of) s.heap.objs.size (He.ga K "tail_of") cdv)).units + 65 < cLine := by have := hr.un; omega
  have hu1 : (A.deeper (envOfC "tail_of" (defScope Hd.s_tail_of) s.heap.objs.size (He.ga K "tail_of") cdv)).units + 1 < cLine := by have := hr.un; omega
  exact ⟨_, td_tail_of , (dss_cons (ds_set (i := 3) nd rfl (.inl rfl) (de_if (dt_cmp ob_is (de_var (pv 2)) de_non (nomark _)) (de_tup (da_cons de_int da_nil)) (de_tup (da_cons de_int (da_cons (de_var (pv 2)) da_nil)))))
      (dss_cons (ds_if (dt_cmp ob_isnt (de_var (pv 0)) de_non (nomark _)) (dss_cons (ds_set (i := 4) nd rfl (.inl rfl) (de_tup (da_cons de_int (da_cons (de_ixT (by rfl) (T.ct 0 "WORDS" c_WORDS rfl).1 T.wd.1 T.wd.2 (de_ix (de_var (pv 0)) de_int (fun _ _ => rfl))) (da_cons (de_ix (de_var (pv 0)) de_int (fun _ _ => rfl)) da_nil)))))
      (dss_one (ds_ret (de_if (dt_cmp ob_is (de_var (pv 1)) de_non (nomark _)) (de_op ob_add (de_var (pv 4)) (de_var (pv 3))) (de_op ob_add (de_op ob_add (de_var (pv 4)) (de_tup (da_cons de_int (da_cons (de_var (pv 1)) da_nil)))) (de_var (pv 3))))))) dss_nil)
      (dss_cons (ds_if (dt_cmp ob_isnt (de_var (pv 1)) de_non (nomark _)) (dss_one (ds_ret (de_op ob_add (de_tup (da_cons de_int (da_cons (de_var (pv 1)) da_nil))) (de_var (pv 3))))) dss_nil)
      (dss_one (ds_ret (de_if (dt_cmp ob_is (de_var (pv 2)) de_non (nomark _)) (de_tup (da_cons de_int da_nil)) (de_var (pv 3)))))))), hw⟩
end
end V

set_option Elab.async false
set_option linter.all false
set_option maxRecDepth 100000
set_option maxHeartbeats 8000000
namespace V
open PySem PySem.Spec PyProof.Rows L2 DL
section
variable {P : Program} {w : World} {K : PySem.W.Frag} {mg : Str → Option Value} {base : Heap}
/-! split_tail -/
def N_split_tail : List Str := ["tail", "ahead", "post", "rest"]
theorem sc_split_tail : FnScope N_split_tail ["tail"] (defScope Hd.s_split_tail) := ⟨rfl, rfl, rfl, by decide +kernel, rfl, by decide +kernel, by decide +kernel⟩
def td_split_tail : TDS := (dSeq (dPar3 1 2 3 (dC .none) (dC .none) (dVar 0))
  (dSeq (dIfS (dTest (dOp eqR (dVar 0) (dTup (dCons (dC (.int 2)) dNil)))) (dRet (dTup (dCons (dC .none) (dCons (dC .none) (dCons (dC .none) dNil))))) dNext)
  (dSeq (dIfS (dTest (dOp eqR (dOp ixR (dVar 0) (dC (.int 0))) (dC (.int 1)))) (dPar 1 3 (dTup (dCons (dOp ixR (dC c_WORDS) (dOp ixR (dVar 0) (dC (.int 1)))) (dCons (dOp ixR (dVar 0) (dC (.int 2))) dNil))) (dSl (dVar 0) (dPart (dC (.int 3))) dNoPart)) dNext)
  (dSeq (dIfS (dTest (dOp inR (dOp ixR (dVar 3) (dC (.int 0))) (dTup (dCons (dC (.int 2)) (dCons (dC (.int 3)) dNil))))) (dPar 2 3 (dOp ixR (dVar 3) (dC (.int 1))) (dSl (dVar 3) (dPart (dC (.int 2))) dNoPart)) dNext)
  (dRet (dTup (dCons (dVar 1) (dCons (dVar 2) (dCons (dIf (dTest (dOp eqR (dOp ixR (dVar 3) (dC (.int 0))) (dC (.int 1)))) (dC .none) (dOp ixR (dVar 3) (dC (.int 1)))) dNil)))))))))
theorem ok_split_tail (T : Txt K mg)  {D : DX} (hw : ∀ ds n Q, D ds n Q → td_split_tail  (ends Q) (entry false N_split_tail ds n)) : Okd P w K mg base 1 "split_tail" ["tail"] false 1 D := by
  obtain ⟨hm, fd, Fd⟩ := T.fn 7 "split_tail" Hd.s_split_tail rfl
  refine ⟨fd, hm, Fd.kp, Fd.bindsN (fun _ _ _ _ _ _ us hl => match us, hl with | [_], _ => rfl), ?_⟩
  refine fnD Fd sc_split_tail rfl (fun cdv A outer s H E hr => ?_)
  have nd := sc_split_tail.nd
  have hu : (A.deeper (envOfC "split_tail" (defScope Hd.s_split_tail) s.heap.objs.size (He.ga K "split_tail") cdv)).units + 64 < cLine := hr.units
  have hu5 : (A.deeper (envOfC "split_tail" (defScope Hd.s_split_tail) s.heap.objs.size (He.ga K "split_tail") cdv)).units + 65 < cLine := by have := hr.un; omega
  have hu1 : (A.deeper (envOfC "split_tail" (defScope Hd.s_split_tail) s.heap.objs.size (He.ga K "split_tail") cdv)).units + 1 < cLine := by have := hr.un; omega
  exact ⟨_, td_split_tail , (dss_cons (ds_par3 (i := 1) (j := 2) (l := 3) rfl nd rfl rfl rfl (by decide) (by decide) (by decide) rfl rfl rfl de_non de_non (de_var (pv 0)))
      (dss_cons (ds_if (dt_cmp (ob_eq hu) (de_var (pv 0)) (de_tup (da_cons de_int da_nil)) (nomark _)) (dss_one (ds_ret (de_tup (da_cons de_non (da_cons de_non (da_cons de_non da_nil)))))) dss_nil)
      (dss_cons (ds_if (dt_cmp (ob_eq hu) (de_ix (de_var (pv 0)) de_int (fun _ _ => rfl)) de_int (nomark _)) (dss_one (ds_par (i := 1) (j := 3) rfl nd rfl rfl (by decide) rfl rfl (de_tup (da_cons (de_ix (de_gtup (by rfl) (T.ct 0 "WORDS" c_WORDS rfl)) (de_ix (de_var (pv 0)) de_int (fun _ _ => rfl)) (fun _ _ => rfl)) (da_cons (de_ix (de_var (pv 0)) de_int (fun _ _ => rfl)) da_nil))) (de_sl (de_var (pv 0)) (do_some de_int) do_none))) dss_nil)
      (dss_cons (ds_if (dt_cmp (ob_in hu5) (de_ix (de_var (pv 3)) de_int (fun _ _ => rfl)) (de_tup (da_cons de_int (da_cons de_int da_nil))) rfl) (dss_one (ds_par (i := 2) (j := 3) rfl nd rfl rfl (by decide) rfl rfl (de_ix (de_var (pv 3)) de_int (fun _ _ => rfl)) (de_sl (de_var (pv 3)) (do_some de_int) do_none))) dss_nil)
      (dss_one (ds_ret (de_tup (da_cons (de_var (pv 1)) (da_cons (de_var (pv 2)) (da_cons (de_if (dt_cmp (ob_eq hu) (de_ix (de_var (pv 3)) de_int (fun _ _ => rfl)) de_int (nomark _)) de_non (de_ix (de_var (pv 3)) de_int (fun _ _ => rfl))) da_nil)))))))))), hw⟩
/-! key_from -/
def N_key_from : List Str := ["parts", "epoch", "numbers", "ahead", "post", "dev"]
theorem sc_key_from : FnScope N_key_from ["parts"] (defScope Hd.s_key_from) := ⟨rfl, rfl, rfl, by decide +kernel, rfl, by decide +kernel, by decide +kernel⟩
def td_key_from (D_tail_of D_based : DX) : TDS := (dSeq (dAsg (dVar 0) (gdTup (gdCons (gdName 1) (gdCons (gdName 2) (gdCons (gdName 3) (gdCons (gdName 4) (gdCons (gdName 5) gdNil)))))))
  (dRet (dTup (dCons (dVar 1) (dCons (dCall D_based (dCons (dVar 2) dNil)) (dCons (dCall D_tail_of (dCons (dVar 3) (dCons (dVar 4) (dCons (dVar 5) dNil)))) dNil))))))
theorem ok_key_from (T : Txt K mg) {D_tail_of D_based : DX} (pm_tail_of : Pm 3 D_tail_of) (c_tail_of : Okd P w K mg base 1 "tail_of" ["ahead", "post", "dev"] false 3 D_tail_of) (pm_based : Pm 1 D_based) (c_based : Okd P w K mg base 1 "based" ["numbers"] false 1 D_based) {D : DX} (hw : ∀ ds n Q, D ds n Q → td_key_from D_tail_of D_based (ends Q) (entry false N_key_from ds n)) : Okd P w K mg base 2 "key_from" ["parts"] false 1 D := by
  obtain ⟨hm, fd, Fd⟩ := T.fn 8 "key_from" Hd.s_key_from rfl
  refine ⟨fd, hm, Fd.kp, Fd.bindsN (fun _ _ _ _ _ _ us hl => match us, hl with | [_], _ => rfl), ?_⟩
  refine fnD Fd sc_key_from rfl (fun cdv A outer s H E hr => ?_)
  have nd := sc_key_from.nd
  have hu : (A.deeper (envOfC "key_from" (defScope Hd.s_key_from) s.heap.objs.size (He.ga K "key_from") cdv)).units + 64 < cLine := hr.units
  have hu5 : (A.deeper (envOfC "key_from" (defScope Hd.s_key_from) s.heap.objs.size (He.ga K "key_from") cdv)).units + 65 < cLine := by have := hr.un; omega
  have hu1 : (A.deeper (envOfC "key_from" (defScope Hd.s_key_from) s.heap.objs.size (He.ga K "key_from") cdv)).units + 1 < cLine := by have := hr.un; omega
  exact ⟨_, td_key_from D_tail_of D_based, (dss_cons (ds_asg (de_var (pv 0)) (dg_tup (n := 5) rfl (dgs_cons (dg_name (i := 1) nd rfl (.inl rfl)) (dgs_cons (dg_name (i := 2) nd rfl (.inl rfl)) (dgs_cons (dg_name (i := 3) nd rfl (.inl rfl)) (dgs_cons (dg_name (i := 4) nd rfl (.inl rfl)) (dgs_cons (dg_name (i := 5) nd rfl (.inl rfl)) dgs_nil))))) (gl_cons (gl_cons (gl_cons (gl_cons (gl_cons gl_nil)))))))
      (dss_one (ds_ret (de_tup (da_cons (de_var (pv 1)) (da_cons (de_callO c_based pm_based (hr.mono (by decide)) (by rfl) (da_cons (de_var (pv 2)) da_nil)) (da_cons (de_callO c_tail_of pm_tail_of (hr.mono (by decide)) (by rfl) (da_cons (de_var (pv 3)) (da_cons (de_var (pv 4)) (da_cons (de_var (pv 5)) da_nil)))) da_nil))))))), hw⟩
/-! key_of -/
def N_key_of : List Str := ["version"]
theorem sc_key_of : FnScope N_key_of ["version"] (defScope Hd.s_key_of) := ⟨rfl, rfl, rfl, by decide +kernel, rfl, by decide +kernel, by decide +kernel⟩
def td_key_of (D_key_from D_parts_of : DX) : TDS := (dRet (dCall D_key_from (dCons (dCall D_parts_of (dCons (dVar 0) dNil)) dNil)))
theorem ok_key_of (T : Txt K mg) {D_key_from D_parts_of : DX} (pm_key_from : Pm 1 D_key_from) (c_key_from : Okd P w K mg base 2 "key_from" ["parts"] false 1 D_key_from) (pm_parts_of : Pm 1 D_parts_of) (c_parts_of : Okd P w K mg base 4 "parts_of" ["thing"] false 1 D_parts_of) {D : DX} (hw : ∀ ds n Q, D ds n Q → td_key_of D_key_from D_parts_of (ends Q) (entry false N_key_of ds n)) : Okd P w K mg base 5 "key_of" ["version"] false 1 D := by
  obtain ⟨hm, fd, Fd⟩ := T.fn 9 "key_of" Hd.s_key_of rfl
  refine ⟨fd, hm, Fd.kp, Fd.bindsN (fun _ _ _ _ _ _ us hl => match us, hl with | [_], _ => rfl), ?_⟩
  refine fnD Fd sc_key_of rfl (fun cdv A outer s H E hr => ?_)
  have nd := sc_key_of.nd
  have hu : (A.deeper (envOfC "key_of" (defScope Hd.s_key_of) s.heap.objs.size (He.ga K "key_of") cdv)).units + 64 < cLine := hr.units
  have hu5 : (A.deeper (envOfC "key_of" (defScope Hd.s_key_of) s.heap.objs.size (He.ga K "key_of") cdv)).units + 65 < cLine := by have := hr.un; omega
  have hu1 : (A.deeper (envOfC "key_of" (defScope Hd.s_key_of) s.heap.objs.size (He.ga K "key_of") cdv)).units + 1 < cLine := by have := hr.un; omega
  exact ⟨_, td_key_of D_key_from D_parts_of, (dss_one (ds_ret (de_callO c_key_from pm_key_from (hr.mono (by decide)) (by rfl) (da_cons (de_callO c_parts_of pm_parts_of (hr.mono (by decide)) (by rfl) (da_cons (de_var (pv 0)) da_nil)) da_nil)))), hw⟩
/-! numbers_of -/
def N_numbers_of : List Str := ["version", "parts"]
theorem sc_numbers_of : FnScope N_numbers_of ["version"] (defScope Hd.s_numbers_of) := ⟨rfl, rfl, rfl, by decide +kernel, rfl, by decide +kernel, by decide +kernel⟩
def td_numbers_of (D_parts_of : DX) : TDS := (dSeq (dAsg (dCall D_parts_of (dCons (dVar 0) dNil)) (gdName 1))
  (dRet (dTup (dCons (dOp ixR (dVar 1) (dC (.int 0))) (dCons (dOp ixR (dVar 1) (dC (.int 1))) dNil)))))
theorem ok_numbers_of (T : Txt K mg) {D_parts_of : DX} (pm_parts_of : Pm 1 D_parts_of) (c_parts_of : Okd P w K mg base 4 "parts_of" ["thing"] false 1 D_parts_of) {D : DX} (hw : ∀ ds n Q, D ds n Q → td_numbers_of D_parts_of (ends Q) (entry false N_numbers_of ds n)) : Okd P w K mg base 5 "numbers_of" ["version"] false 1 D := by
  obtain ⟨hm, fd, Fd⟩ := T.fn 10 "numbers_of" Hd.s_numbers_of rfl
  refine ⟨fd, hm, Fd.kp, Fd.bindsN (fun _ _ _ _ _ _ us hl => match us, hl with | [_], _ => rfl), ?_⟩
  refine fnD Fd sc_numbers_of rfl (fun cdv A outer s H E hr => ?_)
  have nd := sc_numbers_of.nd
  have hu : (A.deeper (envOfC "numbers_of" (defScope Hd.s_numbers_of) s.heap.objs.size (He.ga K "numbers_of") cdv)).units + 64 < cLine := hr.units
  have hu5 : (A.deeper (envOfC "numbers_of" (defScope Hd.s_numbers_of) s.heap.objs.size (He.ga K "numbers_of") cdv)).units + 65 < cLine := by have := hr.un; omega
  have hu1 : (A.deeper (envOfC "numbers_of" (defScope Hd.s_numbers_of) s.heap.objs.size (He.ga K "numbers_of") cdv)).units + 1 < cLine := by have := hr.un; omega
  exact ⟨_, td_numbers_of D_parts_of, (dss_cons (ds_set (i := 1) nd rfl (.inl rfl) (de_callO c_parts_of pm_parts_of (hr.mono (by decide)) (by rfl) (da_cons (de_var (pv 0)) da_nil)))
      (dss_one (ds_ret (de_tup (da_cons (de_ix (de_var (pv 1)) de_int (fun _ _ => rfl)) (da_cons (de_ix (de_var (pv 1)) de_int (fun _ _ => rfl)) da_nil)))))), hw⟩
/-! text_of -/
def N_text_of : List Str := ["key", "epoch", "base", "tail", "ahead", "post", "dev", "found", "number"]
theorem sc_text_of : FnScope N_text_of ["key"] (defScope Hd.s_text_of) := ⟨rfl, rfl, rfl, by decide +kernel, rfl, by decide +kernel, by decide +kernel⟩
def td_text_of (D_split_tail : DX) : TDS := (dSeq (dAsg (dVar 0) (gdTup (gdCons (gdName 1) (gdCons (gdName 2) (gdCons (gdName 3) gdNil)))))
  (dSeq (dAsg (dCall D_split_tail (dCons (dVar 3) dNil)) (gdTup (gdCons (gdName 4) (gdCons (gdName 5) (gdCons (gdName 6) gdNil)))))
  (dSeq (dAsg (dIf (dTest (dOp eqR (dVar 1) (dC (.int 0)))) (dC (.str "")) (dJs [(dFmt (dVar 1)), (dC (.str "!"))] Str.empty)) (gdName 7))
  (dSeq (dAug 7 (dIf (dTest (dOp neR (dVar 2) (dTup dNil))) (dBM joinR (dC (.str ".")) (dCons (dFrz (dLc (diT (dVar 2)) (gdName 8) dYes (dCB strR1 (dCons (dVar 8) dNil)) [8])) dNil)) (dC (.str "0"))) addR2)
  (dSeq (dIfS (dTest (dOp isntR (dVar 4) (dC .none))) (dAug 7 (dJs [(dFmt (dOp ixR (dVar 4) (dC (.int 0)))), (dFmt (dOp ixR (dVar 4) (dC (.int 1))))] Str.empty) addR2) dNext)
  (dSeq (dIfS (dTest (dOp isntR (dVar 5) (dC .none))) (dAug 7 (dJs [(dFmt (dC (.str ".post"))), (dFmt (dVar 5))] Str.empty) addR2) dNext)
  (dRet (dIf (dTest (dOp isR (dVar 6) (dC .none))) (dVar 7) (dJs [(dFmt (dVar 7)), (dFmt (dC (.str ".dev"))), (dFmt (dVar 6))] Str.empty)))))))))
theorem ok_text_of (T : Txt K mg) {D_split_tail : DX} (pm_split_tail : Pm 1 D_split_tail) (c_split_tail : Okd P w K mg base 1 "split_tail" ["tail"] false 1 D_split_tail) {D : DX} (hw : ∀ ds n Q, D ds n Q → td_text_of D_split_tail (ends Q) (entry false N_text_of ds n)) : Okd P w K mg base 2 "text_of" ["key"] false 1 D := by
  obtain ⟨hm, fd, Fd⟩ := T.fn 11 "text_of" Hd.s_text_of rfl
  refine ⟨fd, hm, Fd.kp, Fd.bindsN (fun _ _ _ _ _ _ us hl => match us, hl with | [_], _ => rfl), ?_⟩
  refine fnD Fd sc_text_of rfl (fun cdv A outer s H E hr => ?_)
  have nd := sc_text_of.nd
  have hu : (A.deeper (envOfC "text_of" (defScope Hd.s_text_of) s.heap.objs.size (He.ga K "text_of") cdv)).units + 64 < cLine := hr.units
  have hu5 : (A.deeper (envOfC "text_of" (defScope Hd.s_text_of) s.heap.objs.size (He.ga K "text_of") cdv)).units + 65 < cLine := by have := hr.un; omega
  have hu1 : (A.deeper (envOfC "text_of" (defScope Hd.s_text_of) s.heap.objs.size (He.ga K "text_of") cdv)).units + 1 < cLine := by have := hr.un; omega
  exact ⟨_, td_text_of D_split_tail, (dss_cons (ds_asg (de_var (pv 0)) (dg_tup (n := 3) rfl (dgs_cons (dg_name (i := 1) nd rfl (.inl rfl)) (dgs_cons (dg_name (i := 2) nd rfl (.inl rfl)) (dgs_cons (dg_name (i := 3) nd rfl (.inl rfl)) dgs_nil))) (gl_cons (gl_cons (gl_cons gl_nil)))))
      (dss_cons (ds_asg (de_callO c_split_tail pm_split_tail (hr.mono (by decide)) (by rfl) (da_cons (de_var (pv 3)) da_nil)) (dg_tup (n := 3) rfl (dgs_cons (dg_name (i := 4) nd rfl (.inl rfl)) (dgs_cons (dg_name (i := 5) nd rfl (.inl rfl)) (dgs_cons (dg_name (i := 6) nd rfl (.inl rfl)) dgs_nil))) (gl_cons (gl_cons (gl_cons gl_nil)))))
      (dss_cons (ds_set (i := 7) nd rfl (.inl rfl) (de_if (dt_cmp (ob_eq hu) (de_var (pv 1)) de_int (nomark _)) de_str (de_joined (.cons (de_fmt (de_var (pv 1))) (.cons de_str .nil)))))
      (dss_cons (ds_aug (i := 7) nd rfl (.inl rfl) (de_if (dt_cmp (ob_ne hu) (de_var (pv 2)) (de_tup da_nil) (nomark _)) (de_bm dm_join F.slot_str_join F.type_str_join de_str (da_cons (DF.frz (df_lc (own := [("number", 8)]) (te := (tCB _ (tCons (tVar 8) tNil))) (tt := tYes) (g := (gName 8)) rfl nd (di_tup (de_var (pv 2))) (blkOk_by (own := [("number", 8)]) (by kernel_rfl)) (fun _ _ _ _ _ => (dg_name (i := 8) nd rfl (.inl rfl))) (fun _ _ _ _ _ => dts_nil) (fun _ _ _ _ _ => (de_callTy db_str (by rfl) (T.fr "str" (by decide +kernel)) bb_str (da_cons (de_var (pv 8)) da_nil))) (by decide))) da_nil)) de_str) ob_iadd)
      (dss_cons (ds_if (dt_cmp ob_isnt (de_var (pv 4)) de_non (nomark _)) (dss_one (ds_aug (i := 7) nd rfl (.inl rfl) (de_joined (.cons (de_fmt (de_ix (de_var (pv 4)) de_int (fun _ _ => rfl))) (.cons (de_fmt (de_ix (de_var (pv 4)) de_int (fun _ _ => rfl))) .nil))) ob_iadd)) dss_nil)
      (dss_cons (ds_if (dt_cmp ob_isnt (de_var (pv 5)) de_non (nomark _)) (dss_one (ds_aug (i := 7) nd rfl (.inl rfl) (de_joined (.cons (de_fmt (de_gstr (by rfl) (T.cs "POST_versions" ".post" (by decide +kernel)))) (.cons (de_fmt (de_var (pv 5))) .nil))) ob_iadd)) dss_nil)
      (dss_one (ds_ret (de_if (dt_cmp ob_is (de_var (pv 6)) de_non (nomark _)) (de_var (pv 7)) (de_joined (.cons (de_fmt (de_var (pv 7))) (.cons (de_fmt (de_gstr (by rfl) (T.cs "DEV" ".dev" (by decide +kernel)))) (.cons (de_fmt (de_var (pv 6))) .nil))))))))))))), hw⟩
/-! following_key -/
def N_following_key : List Str := ["key", "epoch", "base", "tail", "ahead", "post", "dev"]
theorem sc_following_key : FnScope N_following_key ["key"] (defScope Hd.s_following_key) := ⟨rfl, rfl, rfl, by decide +kernel, rfl, by decide +kernel, by decide +kernel⟩
def td_following_key (D_split_tail D_tail_of : DX) : TDS := (dSeq (dAsg (dVar 0) (gdTup (gdCons (gdName 1) (gdCons (gdName 2) (gdCons (gdName 3) gdNil)))))
  (dSeq (dAsg (dCall D_split_tail (dCons (dVar 3) dNil)) (gdTup (gdCons (gdName 4) (gdCons (gdName 5) (gdCons (gdName 6) gdNil)))))
  (dSeq (dIfS (dTest (dOp isntR (dVar 6) (dC .none))) (dRet (dTup (dCons (dVar 1) (dCons (dVar 2) (dCons (dCall D_tail_of (dCons (dVar 4) (dCons (dVar 5) (dCons (dOp addR (dVar 6) (dC (.int 1))) dNil)))) dNil))))) dNext)
  (dRet (dTup (dCons (dVar 1) (dCons (dVar 2) (dCons (dCall D_tail_of (dCons (dVar 4) (dCons (dIf (dTest (dOp isR (dVar 5) (dC .none))) (dC (.int 0)) (dOp addR (dVar 5) (dC (.int 1)))) (dCons (dC (.int 0)) dNil)))) dNil))))))))
theorem ok_following_key (T : Txt K mg) {D_split_tail D_tail_of : DX} (pm_split_tail : Pm 1 D_split_tail) (c_split_tail : Okd P w K mg base 1 "split_tail" ["tail"] false 1 D_split_tail) (pm_tail_of : Pm 3 D_tail_of) (c_tail_of : Okd P w K mg base 1 "tail_of" ["ahead", "post", "dev"] false 3 D_tail_of) {D : DX} (hw : ∀ ds n Q, D ds n Q → td_following_key D_split_tail D_tail_of (ends Q) (entry false N_following_key ds n)) : Okd P w K mg base 2 "following_key" ["key"] false 1 D := by
  obtain ⟨hm, fd, Fd⟩ := T.fn 12 "following_key" Hd.s_following_key rfl
  refine ⟨fd, hm, Fd.kp, Fd.bindsN (fun _ _ _ _ _ _ us hl => match us, hl with | [_], _ => rfl), ?_⟩
  refine fnD Fd sc_following_key rfl (fun cdv A outer s H E hr => ?_)
  have nd := sc_following_key.nd
  have hu : (A.deeper (envOfC "following_key" (defScope Hd.s_following_key) s.heap.objs.size (He.ga K "following_key") cdv)).units + 64 < cLine := hr.units
  have hu5 : (A.deeper (envOfC "following_key" (defScope Hd.s_following_key) s.heap.objs.size (He.ga K "following_key") cdv)).units + 65 < cLine := by have := hr.un; omega
  have hu1 : (A.deeper (envOfC "following_key" (defScope Hd.s_following_key) s.heap.objs.size (He.ga K "following_key") cdv)).units + 1 < cLine := by have := hr.un; omega
  exact ⟨_, td_following_key D_split_tail D_tail_of, (dss_cons (ds_asg (de_var (pv 0)) (dg_tup (n := 3) rfl (dgs_cons (dg_name (i := 1) nd rfl (.inl rfl)) (dgs_cons (dg_name (i := 2) nd rfl (.inl rfl)) (dgs_cons (dg_name (i := 3) nd rfl (.inl rfl)) dgs_nil))) (gl_cons (gl_cons (gl_cons gl_nil)))))
      (dss_cons (ds_asg (de_callO c_split_tail pm_split_tail (hr.mono (by decide)) (by rfl) (da_cons (de_var (pv 3)) da_nil)) (dg_tup (n := 3) rfl (dgs_cons (dg_name (i := 4) nd rfl (.inl rfl)) (dgs_cons (dg_name (i := 5) nd rfl (.inl rfl)) (dgs_cons (dg_name (i := 6) nd rfl (.inl rfl)) dgs_nil))) (gl_cons (gl_cons (gl_cons gl_nil)))))
      (dss_cons (ds_if (dt_cmp ob_isnt (de_var (pv 6)) de_non (nomark _)) (dss_one (ds_ret (de_tup (da_cons (de_var (pv 1)) (da_cons (de_var (pv 2)) (da_cons (de_callO c_tail_of pm_tail_of (hr.mono (by decide)) (by rfl) (da_cons (de_var (pv 4)) (da_cons (de_var (pv 5)) (da_cons (de_op ob_add (de_var (pv 6)) de_int) da_nil)))) da_nil)))))) dss_nil)
      (dss_one (ds_ret (de_tup (da_cons (de_var (pv 1)) (da_cons (de_var (pv 2)) (da_cons (de_callO c_tail_of pm_tail_of (hr.mono (by decide)) (by rfl) (da_cons (de_var (pv 4)) (da_cons (de_if (dt_cmp ob_is (de_var (pv 5)) de_non (nomark _)) de_int (de_op ob_add (de_var (pv 5)) de_int)) (da_cons de_int da_nil)))) da_nil))))))))), hw⟩
/-! is_final_key -/
def N_is_final_key : List Str := ["key", "ahead", "post", "dev"]
theorem sc_is_final_key : FnScope N_is_final_key ["key"] (defScope Hd.s_is_final_key) := ⟨rfl, rfl, rfl, by decide +kernel, rfl, by decide +kernel, by decide +kernel⟩
def td_is_final_key (D_split_tail : DX) : TDS := (dSeq (dAsg (dCall D_split_tail (dCons (dOp ixR (dVar 0) (dC (.int 2))) dNil)) (gdTup (gdCons (gdName 1) (gdCons (gdName 2) (gdCons (gdName 3) gdNil)))))
  (dRet (dAndV (dOp isR (dVar 1) (dC .none)) (dOp isR (dVar 3) (dC .none)))))
theorem ok_is_final_key (T : Txt K mg) {D_split_tail : DX} (pm_split_tail : Pm 1 D_split_tail) (c_split_tail : Okd P w K mg base 1 "split_tail" ["tail"] false 1 D_split_tail) {D : DX} (hw : ∀ ds n Q, D ds n Q → td_is_final_key D_split_tail (ends Q) (entry false N_is_final_key ds n)) : Okd P w K mg base 2 "is_final_key" ["key"] false 1 D := by
  obtain ⟨hm, fd, Fd⟩ := T.fn 13 "is_final_key" Hd.s_is_final_key rfl
  refine ⟨fd, hm, Fd.kp, Fd.bindsN (fun _ _ _ _ _ _ us hl => match us, hl with | [_], _ => rfl), ?_⟩
  refine fnD Fd sc_is_final_key rfl (fun cdv A outer s H E hr => ?_)
  have nd := sc_is_final_key.nd
  have hu : (A.deeper (envOfC "is_final_key" (defScope Hd.s_is_final_key) s.heap.objs.size (He.ga K "is_final_key") cdv)).units + 64 < cLine := hr.units
  have hu5 : (A.deeper (envOfC "is_final_key" (defScope Hd.s_is_final_key) s.heap.objs.size (He.ga K "is_final_key") cdv)).units + 65 < cLine := by have := hr.un; omega
  have hu1 : (A.deeper (envOfC "is_final_key" (defScope Hd.s_is_final_key) s.heap.objs.size (He.ga K "is_final_key") cdv)).units + 1 < cLine := by have := hr.un; omega
  exact ⟨_, td_is_final_key D_split_tail, (dss_cons (ds_asg (de_callO c_split_tail pm_split_tail (hr.mono (by decide)) (by rfl) (da_cons (de_ix (de_var (pv 0)) de_int (fun _ _ => rfl)) da_nil)) (dg_tup (n := 3) rfl (dgs_cons (dg_name (i := 1) nd rfl (.inl rfl)) (dgs_cons (dg_name (i := 2) nd rfl (.inl rfl)) (dgs_cons (dg_name (i := 3) nd rfl (.inl rfl)) dgs_nil))) (gl_cons (gl_cons (gl_cons gl_nil)))))
      (dss_one (ds_ret (de_and (de_cmp ob_is (de_var (pv 1)) de_non (nomark _)) (de_one (de_cmp ob_is (de_var (pv 3)) de_non (nomark _))))))), hw⟩
end
end V

set_option Elab.async false
set_option linter.all false
set_option maxRecDepth 100000
set_option maxHeartbeats 8000000
namespace V
open PySem PySem.Spec PyProof.Rows L2 DL
section
variable {P : Program} {w : World} {K : PySem.W.Frag} {mg : Str → Option Value} {base : Heap}
/-! is_plain -/
def N_is_plain : List Str := ["parts"]
theorem sc_is_plain : FnScope N_is_plain ["parts"] (defScope Hd.s_is_plain) := ⟨rfl, rfl, rfl, by decide +kernel, rfl, by decide +kernel, by decide +kernel⟩
def td_is_plain : TDS := (dRet (dOp eqR (dSl (dVar 0) (dPart (dC (.int 2))) dNoPart) (dTup (dCons (dC .none) (dCons (dC .none) (dCons (dC .none) dNil))))))
theorem ok_is_plain (T : Txt K mg)  {D : DX} (hw : ∀ ds n Q, D ds n Q → td_is_plain  (ends Q) (entry false N_is_plain ds n)) : Okd P w K mg base 1 "is_plain" ["parts"] false 1 D := by
  obtain ⟨hm, fd, Fd⟩ := T.fn 14 "is_plain" Hd.s_is_plain rfl
  refine ⟨fd, hm, Fd.kp, Fd.bindsN (fun _ _ _ _ _ _ us hl => match us, hl with | [_], _ => rfl), ?_⟩
  refine fnD Fd sc_is_plain rfl (fun cdv A outer s H E hr => ?_)
  have nd := sc_is_plain.nd
  have hu : (A.deeper (envOfC "is_plain" (defScope Hd.s_is_plain) s.heap.objs.size (He.ga K "is_plain") cdv)).units + 64 < cLine := hr.units
  have hu5 : (A.deeper (envOfC "is_plain" (defScope Hd.s_is_plain) s.heap.objs.size (He.ga K "is_plain") cdv)).units + 65 < cLine := by have := hr.un; omega
  have hu1 : (A.deeper (envOfC "is_plain" (defScope Hd.s_is_plain) s.heap.objs.size (He.ga K "is_plain") cdv)).units + 1 < cLine := by have := hr.un; omega
  exact ⟨_, td_is_plain , (dss_one (ds_ret (de_cmp (ob_eq hu) (de_sl (de_var (pv 0)) (do_some de_int) do_none) (de_tup (da_cons de_non (da_cons de_non (da_cons de_non da_nil)))) (nomark _)))), hw⟩
/-! is_version -/
def N_is_version : List Str := ["thing"]
theorem sc_is_version : FnScope N_is_version ["thing"] (defScope Hd.s_is_version) := ⟨rfl, rfl, rfl, by decide +kernel, rfl, by decide +kernel, by decide +kernel⟩
def td_is_version (D_parts_of : DX) : TDS := (dRet (dOp isntR (dCall D_parts_of (dCons (dVar 0) dNil)) (dC .none)))
theorem ok_is_version (T : Txt K mg) {D_parts_of : DX} (pm_parts_of : Pm 1 D_parts_of) (c_parts_of : Okd P w K mg base 4 "parts_of" ["thing"] false 1 D_parts_of) {D : DX} (hw : ∀ ds n Q, D ds n Q → td_is_version D_parts_of (ends Q) (entry false N_is_version ds n)) : Okd P w K mg base 5 "is_version" ["thing"] false 1 D := by
  obtain ⟨hm, fd, Fd⟩ := T.fn 15 "is_version" Hd.s_is_version rfl
  refine ⟨fd, hm, Fd.kp, Fd.bindsN (fun _ _ _ _ _ _ us hl => match us, hl with | [_], _ => rfl), ?_⟩
  refine fnD Fd sc_is_version rfl (fun cdv A outer s H E hr => ?_)
  have nd := sc_is_version.nd
  have hu : (A.deeper (envOfC "is_version" (defScope Hd.s_is_version) s.heap.objs.size (He.ga K "is_version") cdv)).units + 64 < cLine := hr.units
  have hu5 : (A.deeper (envOfC "is_version" (defScope Hd.s_is_version) s.heap.objs.size (He.ga K "is_version") cdv)).units + 65 < cLine := by have := hr.un; omega
  have hu1 : (A.deeper (envOfC "is_version" (defScope Hd.s_is_version) s.heap.objs.size (He.ga K "is_version") cdv)).units + 1 < cLine := by have := hr.un; omega
  exact ⟨_, td_is_version D_parts_of, (dss_one (ds_ret (de_cmp ob_isnt (de_callO c_parts_of pm_parts_of (hr.mono (by decide)) (by rfl) (da_cons (de_var (pv 0)) da_nil)) de_non (nomark _)))), hw⟩
/-! is_small -/
def N_is_small : List Str := ["parts", "epoch", "numbers", "ahead", "post", "dev", "some"]
theorem sc_is_small : FnScope N_is_small ["parts"] (defScope Hd.s_is_small) := ⟨rfl, rfl, rfl, by decide +kernel, rfl, by decide +kernel, by decide +kernel⟩
def td_is_small : TDS := (dSeq (dAsg (dVar 0) (gdTup (gdCons (gdName 1) (gdCons (gdName 2) (gdCons (gdName 3) (gdCons (gdName 4) (gdCons (gdName 5) gdNil)))))))
  (dSeq (dAsg (dLst (dCons (dVar 1) (dStar (dVar 2) (dCons (dIf (dTest (dOp isR (dVar 3) (dC .none))) (dC (.int 0)) (dOp ixR (dVar 3) (dC (.int 1)))) (dCons (dIf (dTest (dOp isR (dVar 4) (dC .none))) (dC (.int 0)) (dVar 4)) (dCons (dIf (dTest (dOp isR (dVar 5) (dC .none))) (dC (.int 0)) (dVar 5)) dNil)))))) (gdName 6))
  (dRet (dAndV (dOp leR (dCB lenR (dCons (dVar 2) dNil)) (dC (.int 8))) (dOp leR (dCB maxR (dCons (dVar 6) dNil)) (dC (.int 1000000000)))))))
theorem ok_is_small (T : Txt K mg)  {D : DX} (hw : ∀ ds n Q, D ds n Q → td_is_small  (ends Q) (entry false N_is_small ds n)) : Okd P w K mg base 1 "is_small" ["parts"] false 1 D := by
  obtain ⟨hm, fd, Fd⟩ := T.fn 16 "is_small" Hd.s_is_small rfl
  refine ⟨fd, hm, Fd.kp, Fd.bindsN (fun _ _ _ _ _ _ us hl => match us, hl with | [_], _ => rfl), ?_⟩
  refine fnD Fd sc_is_small rfl (fun cdv A outer s H E hr => ?_)
  have nd := sc_is_small.nd
  have hu : (A.deeper (envOfC "is_small" (defScope Hd.s_is_small) s.heap.objs.size (He.ga K "is_small") cdv)).units + 64 < cLine := hr.units
  have hu5 : (A.deeper (envOfC "is_small" (defScope Hd.s_is_small) s.heap.objs.size (He.ga K "is_small") cdv)).units + 65 < cLine := by have := hr.un; omega
  have hu1 : (A.deeper (envOfC "is_small" (defScope Hd.s_is_small) s.heap.objs.size (He.ga K "is_small") cdv)).units + 1 < cLine := by have := hr.un; omega
  exact ⟨_, td_is_small , (dss_cons (ds_asg (de_var (pv 0)) (dg_tup (n := 5) rfl (dgs_cons (dg_name (i := 1) nd rfl (.inl rfl)) (dgs_cons (dg_name (i := 2) nd rfl (.inl rfl)) (dgs_cons (dg_name (i := 3) nd rfl (.inl rfl)) (dgs_cons (dg_name (i := 4) nd rfl (.inl rfl)) (dgs_cons (dg_name (i := 5) nd rfl (.inl rfl)) dgs_nil))))) (gl_cons (gl_cons (gl_cons (gl_cons (gl_cons gl_nil)))))))
      (dss_cons (ds_set (i := 6) nd rfl (.inl rfl) (de_lst (da_cons (de_var (pv 1)) (da_star (de_var (pv 2)) (da_cons (de_if (dt_cmp ob_is (de_var (pv 3)) de_non (nomark _)) de_int (de_ix (de_var (pv 3)) de_int (fun _ _ => rfl))) (da_cons (de_if (dt_cmp ob_is (de_var (pv 4)) de_non (nomark _)) de_int (de_var (pv 4))) (da_cons (de_if (dt_cmp ob_is (de_var (pv 5)) de_non (nomark _)) de_int (de_var (pv 5))) da_nil)))))))
      (dss_one (ds_ret (de_and (de_cmp (ob_le hu) (de_callB db_len (by rfl) (T.fr "len" (by decide +kernel)) bb_len (da_cons (de_var (pv 2)) da_nil)) (de_gint (by rfl) (T.ci "MOST_NUMBERS_requirements" 8 (by decide +kernel))) (nomark _)) (de_one (de_cmp (ob_le hu) (de_callB (db_max rfl) (by rfl) (T.fr "max" (by decide +kernel)) bb_max (da_cons (de_var (pv 6)) da_nil)) (de_gint (by rfl) (T.ci "MOST_NUMBER" 1000000000 (by decide +kernel))) (nomark _)))))))), hw⟩
/-! is_clause -/
def N_is_clause : List Str := ["thing", "sign", "text", "is_block", "parts"]
theorem sc_is_clause : FnScope N_is_clause ["thing"] (defScope Hd.s_is_clause) := ⟨rfl, rfl, rfl, by decide +kernel, rfl, by decide +kernel, by decide +kernel⟩
def td_is_clause (D_parts_of D_is_small D_is_plain : DX) : TDS := (dSeq (dIfS (dOr (dNot (dTest (dIsi (fun t => t == "tuple") (dVar 0)))) (dTest (dOp neR (dCB lenR (dCons (dVar 0) dNil)) (dC (.int 2))))) (dRet (dC (.bool false))) dNext)
  (dSeq (dAsg (dVar 0) (gdTup (gdCons (gdName 1) (gdCons (gdName 2) gdNil))))
  (dSeq (dIfS (dOr (dNot (dTest (dIsi (fun t => t == "str") (dVar 1)))) (dOr (dTest (dOp notinR (dVar 1) (dC c_SIGNS))) (dNot (dTest (dIsi (fun t => t == "str") (dVar 2)))))) (dRet (dC (.bool false))) dNext)
  (dSeq (dAsg (dAndV (dOp inR (dVar 1) (dTup (dCons (dC (.str "==")) (dCons (dC (.str "!=")) dNil)))) (dBM ewR (dVar 2) (dCons (dC (.str ".*")) dNil))) (gdName 3))
  (dSeq (dAsg (dCall D_parts_of (dCons (dIf (dTest (dVar 3)) (dSl (dVar 2) dNoPart (dPart (dNeg (dCB lenR (dCons (dC (.str ".*")) dNil))))) (dVar 2)) dNil)) (gdName 4))
  (dSeq (dIfS (dOr (dTest (dOp isR (dVar 4) (dC .none))) (dNot (dTest (dCall D_is_small (dCons (dVar 4) dNil))))) (dRet (dC (.bool false))) dNext)
  (dSeq (dIfS (dOr (dTest (dVar 3)) (dTest (dOp inR (dVar 1) (dTup (dCons (dC (.str "<")) (dCons (dC (.str ">")) dNil)))))) (dRet (dCall D_is_plain (dCons (dVar 4) dNil))) dNext)
  (dRet (dOrV (dOp neR (dVar 1) (dC (.str "~="))) (dOp gtR (dCB lenR (dCons (dOp ixR (dVar 4) (dC (.int 1))) dNil)) (dC (.int 1))))))))))))
theorem ok_is_clause (T : Txt K mg) {D_parts_of D_is_small D_is_plain : DX} (pm_parts_of : Pm 1 D_parts_of) (c_parts_of : Okd P w K mg base 4 "parts_of" ["thing"] false 1 D_parts_of) (pm_is_small : Pm 1 D_is_small) (c_is_small : Okd P w K mg base 1 "is_small" ["parts"] false 1 D_is_small) (pm_is_plain : Pm 1 D_is_plain) (c_is_plain : Okd P w K mg base 1 "is_plain" ["parts"] false 1 D_is_plain) {D : DX} (hw : ∀ ds n Q, D ds n Q → td_is_clause D_parts_of D_is_small D_is_plain (ends Q) (entry false N_is_clause ds n)) : Okd P w K mg base 5 "is_clause" ["thing"] false 1 D := by
  obtain ⟨hm, fd, Fd⟩ := T.fn 17 "is_clause" Hd.s_is_clause rfl
  refine ⟨fd, hm, Fd.kp, Fd.bindsN (fun _ _ _ _ _ _ us hl => match us, hl with | [_], _ => rfl), ?_⟩
  refine fnD Fd sc_is_clause rfl (fun cdv A outer s H E hr => ?_)
  have nd := sc_is_clause.nd
  have hu : (A.deeper (envOfC "is_clause" (defScope Hd.s_is_clause) s.heap.objs.size (He.ga K "is_clause") cdv)).units + 64 < cLine := hr.units
  have hu5 : (A.deeper (envOfC "is_clause" (defScope Hd.s_is_clause) s.heap.objs.size (He.ga K "is_clause") cdv)).units + 65 < cLine := by have := hr.un; omega
  have hu1 : (A.deeper (envOfC "is_clause" (defScope Hd.s_is_clause) s.heap.objs.size (He.ga K "is_clause") cdv)).units + 1 < cLine := by have := hr.un; omega
  exact ⟨_, td_is_clause D_parts_of D_is_small D_is_plain, (dss_cons (ds_if (DW.dt (dw_or (dt_not (dt_val (de_isi isTuple (de_var (pv 0)) (by rfl) (T.fr "isinstance" (by decide +kernel)) bb_isi (by rfl) (T.fr "tuple" (by decide +kernel)) bb_tuple))) (dw_or1 (dt_cmp (ob_ne hu) (de_callB db_len (by rfl) (T.fr "len" (by decide +kernel)) bb_len (da_cons (de_var (pv 0)) da_nil)) de_int (nomark _))))) (dss_one (ds_ret de_bl)) dss_nil)
      (dss_cons (ds_asg (de_var (pv 0)) (dg_tup (n := 2) rfl (dgs_cons (dg_name (i := 1) nd rfl (.inl rfl)) (dgs_cons (dg_name (i := 2) nd rfl (.inl rfl)) dgs_nil)) (gl_cons (gl_cons gl_nil))))
      (dss_cons (ds_if (DW.dt (dw_or (dt_not (dt_val (de_isi isStr (de_var (pv 1)) (by rfl) (T.fr "isinstance" (by decide +kernel)) bb_isi (by rfl) (T.fr "str" (by decide +kernel)) bb_str))) (dw_or (dt_cmp (ob_notin hu5) (de_var (pv 1)) (de_gtup (by rfl) (T.ct 1 "SIGNS" c_SIGNS rfl)) rfl) (dw_or1 (dt_not (dt_val (de_isi isStr (de_var (pv 2)) (by rfl) (T.fr "isinstance" (by decide +kernel)) bb_isi (by rfl) (T.fr "str" (by decide +kernel)) bb_str))))))) (dss_one (ds_ret de_bl)) dss_nil)
      (dss_cons (ds_set (i := 3) nd rfl (.inl rfl) (de_and (de_cmp (ob_in hu5) (de_var (pv 1)) (de_tup (da_cons de_str (da_cons de_str da_nil))) rfl) (de_one (de_bm dm_endswith F.slot_str_endswith F.type_str_endswith (de_var (pv 2)) (da_cons (de_gstr (by rfl) (T.cs "STAR" ".*" (by decide +kernel))) da_nil)))))
      (dss_cons (ds_set (i := 4) nd rfl (.inl rfl) (de_callO c_parts_of pm_parts_of (hr.mono (by decide)) (by rfl) (da_cons (de_if (dt_val (de_var (pv 3))) (de_sl (de_var (pv 2)) do_none (do_some (de_neg (de_callB db_len (by rfl) (T.fr "len" (by decide +kernel)) bb_len (da_cons (de_gstr (by rfl) (T.cs "STAR" ".*" (by decide +kernel))) da_nil))))) (de_var (pv 2))) da_nil)))
      (dss_cons (ds_if (DW.dt (dw_or (dt_cmp ob_is (de_var (pv 4)) de_non (nomark _)) (dw_or1 (dt_not (dt_val (de_callO c_is_small pm_is_small (hr.mono (by decide)) (by rfl) (da_cons (de_var (pv 4)) da_nil))))))) (dss_one (ds_ret de_bl)) dss_nil)
      (dss_cons (ds_if (DW.dt (dw_or (dt_val (de_var (pv 3))) (dw_or1 (dt_cmp (ob_in hu5) (de_var (pv 1)) (de_tup (da_cons de_str (da_cons de_str da_nil))) rfl)))) (dss_one (ds_ret (de_callO c_is_plain pm_is_plain (hr.mono (by decide)) (by rfl) (da_cons (de_var (pv 4)) da_nil)))) dss_nil)
      (dss_one (ds_ret (de_or (de_cmp (ob_ne hu) (de_var (pv 1)) de_str (nomark _)) (de_one (de_cmp (ob_gt hu) (de_callB db_len (by rfl) (T.fr "len" (by decide +kernel)) bb_len (da_cons (de_ix (de_var (pv 4)) de_int (fun _ _ => rfl)) da_nil)) de_int (nomark _))))))))))))), hw⟩
/-! need_requirement -/
def N_need_requirement : List Str := ["thing", "number", "clause"]
theorem sc_need_requirement : FnScope N_need_requirement ["thing"] (defScope Hd.s_need_requirement) := ⟨rfl, rfl, rfl, by decide +kernel, rfl, by decide +kernel, by decide +kernel⟩
def td_need_requirement (D_is_clause : DX) : TDS := (dSeq (dIfS (dOr (dNot (dTest (dIsi (fun t => t == "tuple") (dVar 0)))) (dTest (dOp gtR (dCB lenR (dCons (dVar 0) dNil)) (dC (.int 12))))) dNever dNext)
  (dSeq (dFor (diEnumT (dCons (dVar 0) dNil)) (gdTup (gdCons (gdName 1) (gdCons (gdName 2) gdNil))) (dIfS (dNot (dTest (dCall D_is_clause (dCons (dVar 2) dNil)))) dNever dNext))
  (dRet (dVar 0))))
theorem ok_need_requirement (T : Txt K mg) {D_is_clause : DX} (pm_is_clause : Pm 1 D_is_clause) (c_is_clause : Okd P w K mg base 5 "is_clause" ["thing"] false 1 D_is_clause) {D : DX} (hw : ∀ ds n Q, D ds n Q → td_need_requirement D_is_clause (ends Q) (entry false N_need_requirement ds n)) : Okd P w K mg base 6 "need_requirement" ["thing"] false 1 D := by
  obtain ⟨hm, fd, Fd⟩ := T.fn 18 "need_requirement" Hd.s_need_requirement rfl
  refine ⟨fd, hm, Fd.kp, Fd.bindsN (fun _ _ _ _ _ _ us hl => match us, hl with | [_], _ => rfl), ?_⟩
  refine fnD Fd sc_need_requirement rfl (fun cdv A outer s H E hr => ?_)
  have nd := sc_need_requirement.nd
  have hu : (A.deeper (envOfC "need_requirement" (defScope Hd.s_need_requirement) s.heap.objs.size (He.ga K "need_requirement") cdv)).units + 64 < cLine := hr.units
  have hu5 : (A.deeper (envOfC "need_requirement" (defScope Hd.s_need_requirement) s.heap.objs.size (He.ga K "need_requirement") cdv)).units + 65 < cLine := by have := hr.un; omega
  have hu1 : (A.deeper (envOfC "need_requirement" (defScope Hd.s_need_requirement) s.heap.objs.size (He.ga K "need_requirement") cdv)).units + 1 < cLine := by have := hr.un; omega
  exact ⟨_, td_need_requirement D_is_clause, (dss_cons (ds_if (DW.dt (dw_or (dt_not (dt_val (de_isi isTuple (de_var (pv 0)) (by rfl) (T.fr "isinstance" (by decide +kernel)) bb_isi (by rfl) (T.fr "tuple" (by decide +kernel)) bb_tuple))) (dw_or1 (dt_cmp (ob_gt hu) (de_callB db_len (by rfl) (T.fr "len" (by decide +kernel)) bb_len (da_cons (de_var (pv 0)) da_nil)) (de_gint (by rfl) (T.ci "MOST_CLAUSES" 12 (by decide +kernel))) (nomark _))))) (dss_one ds_never) dss_nil)
      (dss_cons (ds_for PassesOwn.never rfl (di_enumT (by rfl) (T.fr "enumerate" (by decide +kernel)) (da_cons (de_var (pv 0)) da_nil)) (dg_tup (n := 2) rfl (dgs_cons (dg_name (i := 1) nd rfl (.inl rfl)) (dgs_cons (dg_name (i := 2) nd rfl (.inl rfl)) dgs_nil)) (gl_cons (gl_cons gl_nil))) (dss_one (ds_if (dt_not (dt_val (de_callO c_is_clause pm_is_clause (hr.mono (by decide)) (by rfl) (da_cons (de_var (pv 2)) da_nil)))) (dss_one ds_never) dss_nil)))
      (dss_one (ds_ret (de_var (pv 0)))))), hw⟩
/-! names_of -/
def N_names_of : List Str := ["requirement", "some", "sign", "text"]
theorem sc_names_of : FnScope N_names_of ["requirement"] (defScope Hd.s_names_of) := ⟨rfl, rfl, rfl, by decide +kernel, rfl, by decide +kernel, by decide +kernel⟩
def td_names_of (D_is_final_key D_key_of : DX) : TDS := (dSeq (dAsg (dFrz (dLc (diT (dVar 0)) (gdTup (gdCons (gdName 2) (gdCons (gdName 3) gdNil))) (dAnd (dTest (dOp neR (dVar 2) (dC (.str "!=")))) (dNot (dTest (dBM ewR (dVar 3) (dCons (dC (.str ".*")) dNil))))) (dVar 3) [2, 3])) (gdName 1))
  (dRet (dCB anyR (dCons (dFrz (dLc (diL (dVar 1)) (gdName 3) dYes (dNotV (dCall D_is_final_key (dCons (dCall D_key_of (dCons (dVar 3) dNil)) dNil))) [3])) dNil))))
theorem ok_names_of (T : Txt K mg) {D_is_final_key D_key_of : DX} (pm_is_final_key : Pm 1 D_is_final_key) (c_is_final_key : Okd P w K mg base 2 "is_final_key" ["key"] false 1 D_is_final_key) (pm_key_of : Pm 1 D_key_of) (c_key_of : Okd P w K mg base 5 "key_of" ["version"] false 1 D_key_of) {D : DX} (hw : ∀ ds n Q, D ds n Q → td_names_of D_is_final_key D_key_of (ends Q) (entry false N_names_of ds n)) : Okd P w K mg base 6 "names_of" ["requirement"] false 1 D := by
  obtain ⟨hm, fd, Fd⟩ := T.fn 19 "names_of" Hd.s_names_of rfl
  refine ⟨fd, hm, Fd.kp, Fd.bindsN (fun _ _ _ _ _ _ us hl => match us, hl with | [_], _ => rfl), ?_⟩
  refine fnD Fd sc_names_of rfl (fun cdv A outer s H E hr => ?_)
  have nd := sc_names_of.nd
  have hu : (A.deeper (envOfC "names_of" (defScope Hd.s_names_of) s.heap.objs.size (He.ga K "names_of") cdv)).units + 64 < cLine := hr.units
  have hu5 : (A.deeper (envOfC "names_of" (defScope Hd.s_names_of) s.heap.objs.size (He.ga K "names_of") cdv)).units + 65 < cLine := by have := hr.un; omega
  have hu1 : (A.deeper (envOfC "names_of" (defScope Hd.s_names_of) s.heap.objs.size (He.ga K "names_of") cdv)).units + 1 < cLine := by have := hr.un; omega
  exact ⟨_, td_names_of D_is_final_key D_key_of, (dss_cons (ds_setLc (i := 1) (own := [("sign", 2), ("text", 3)]) (te := (tVar 3)) (tt := (tAnd (tTest (tOp (rNeD K) (tVar 2) (tC (.str "!=")))) (tNot (tB (tBM K "str" _ (tVar 3) (tCons (tC (.str ".*")) tNil)))))) (g := (gTup K 2 (gCons (gName 2) (gCons (gName 3) gNil)))) rfl nd rfl rfl (sw_true rfl rfl rfl (by kernel_rfl)) (di_tup (de_var (pv 0))) (blkOk_by (own := [("sign", 2), ("text", 3)]) (by kernel_rfl)) (fun _ _ _ _ _ => (dg_tup (n := 2) rfl (dgs_cons (dg_name (i := 2) nd rfl (.inl rfl)) (dgs_cons (dg_name (i := 3) nd rfl (.inl rfl)) dgs_nil)) (gl_cons (gl_cons gl_nil)))) (fun _ _ _ _ _ => (dts_one (DW.dt (dw_and (dt_cmp (ob_ne hu) (de_var (pv 2)) de_str (nomark _)) (dw_and1 (dt_not (dt_val (de_bm dm_endswith F.slot_str_endswith F.type_str_endswith (de_var (pv 3)) (da_cons (de_gstr (by rfl) (T.cs "STAR" ".*" (by decide +kernel))) da_nil))))))))) (fun _ _ _ _ _ => (de_var (pv 3))) (by decide))
      (dss_one (ds_ret (de_callB (db_any rfl) (by rfl) (T.fr "any" (by decide +kernel)) bb_any (da_cons (DF.frz (df_lc (own := [("text", 3)]) (te := (tNotV (tCall (spD K false 1 D_is_final_key) [] E0 (tCons (tCall (spD K false 1 D_key_of) [] E0 (tCons (tVar 3) tNil)) tNil)))) (tt := tYes) (g := (gName 3)) rfl nd (di_list (de_var (pv 1))) (blkOk_by (own := [("text", 3)]) (by kernel_rfl)) (fun _ _ _ _ _ => (dg_name (i := 3) nd rfl (.inl rfl))) (fun _ _ _ _ _ => dts_nil) (fun _ _ _ _ _ => (de_not (de_callO c_is_final_key pm_is_final_key (hr.mono (by decide)) (by rfl) (da_cons (de_callO c_key_of pm_key_of (hr.mono (by decide)) (by rfl) (da_cons (de_var (pv 3)) da_nil)) da_nil)))) (by decide))) da_nil))))), hw⟩
/-! numbers_cuts -/
def N_numbers_cuts : List Str := ["epoch", "numbers", "more"]
theorem sc_numbers_cuts : FnScope N_numbers_cuts ["epoch", "numbers"] (defScope Hd.s_numbers_cuts) := ⟨rfl, rfl, rfl, by decide +kernel, rfl, by decide +kernel, by decide +kernel⟩
def td_numbers_cuts (D_based : DX) : TDS := (dSeq (dAsg (dOp addR (dSl (dVar 1) dNoPart (dPart (dNeg (dC (.int 1))))) (dTup (dCons (dOp addR (dOp ixR (dVar 1) (dNeg (dC (.int 1)))) (dC (.int 1))) dNil))) (gdName 2))
  (dRet (dTup (dCons (dTup (dCons (dVar 0) (dCons (dCall D_based (dCons (dVar 1) dNil)) (dCons (dC c_FIRST) dNil)))) (dCons (dTup (dCons (dVar 0) (dCons (dCall D_based (dCons (dVar 2) dNil)) (dCons (dC c_FIRST) dNil)))) dNil)))))
theorem ok_numbers_cuts (T : Txt K mg) {D_based : DX} (pm_based : Pm 1 D_based) (c_based : Okd P w K mg base 1 "based" ["numbers"] false 1 D_based) {D : DX} (hw : ∀ ds n Q, D ds n Q → td_numbers_cuts D_based (ends Q) (entry false N_numbers_cuts ds n)) : Okd P w K mg base 2 "numbers_cuts" ["epoch", "numbers"] false 2 D := by
  obtain ⟨hm, fd, Fd⟩ := T.fn 20 "numbers_cuts" Hd.s_numbers_cuts rfl
  refine ⟨fd, hm, Fd.kp, Fd.bindsN (fun _ _ _ _ _ _ us hl => match us, hl with | [_, _], _ => rfl), ?_⟩
  refine fnD Fd sc_numbers_cuts rfl (fun cdv A outer s H E hr => ?_)
  have nd := sc_numbers_cuts.nd
  have hu : (A.deeper (envOfC "numbers_cuts" (defScope Hd.s_numbers_cuts) s.heap.objs.size (He.ga K "numbers_cuts") cdv)).units + 64 < cLine := hr.units
  have hu5 : (A.deeper (envOfC "numbers_cuts" (defScope Hd.s_numbers_cuts) s.heap.objs.size (He.ga K "numbers_cuts") cdv)).units + 65 < cLine := by have := hr.un; omega
  have hu1 : (A.deeper (envOfC "numbers_cuts" (defScope Hd.s_numbers_cuts) s.heap.objs.size (He.ga K "numbers_cuts") cdv)).units + 1 < cLine := by have := hr.un; omega
  exact ⟨_, td_numbers_cuts D_based, (dss_cons (ds_set (i := 2) nd rfl (.inl rfl) (de_op ob_add (de_sl (de_var (pv 1)) do_none (do_some (de_neg de_int))) (de_tup (da_cons (de_op ob_add (de_ix (de_var (pv 1)) (de_neg de_int) (fun _ _ => rfl)) de_int) da_nil))))
      (dss_one (ds_ret (de_tup (da_cons (de_tup (da_cons (de_var (pv 0)) (da_cons (de_callO c_based pm_based (hr.mono (by decide)) (by rfl) (da_cons (de_var (pv 1)) da_nil)) (da_cons (de_gtup (by rfl) (T.ct 2 "FIRST" c_FIRST rfl)) da_nil)))) (da_cons (de_tup (da_cons (de_var (pv 0)) (da_cons (de_callO c_based pm_based (hr.mono (by decide)) (by rfl) (da_cons (de_var (pv 2)) da_nil)) (da_cons (de_gtup (by rfl) (T.ct 2 "FIRST" c_FIRST rfl)) da_nil)))) da_nil)))))), hw⟩
end
end V

set_option Elab.async false
set_option linter.all false
set_option maxRecDepth 100000
set_option maxHeartbeats 8000000
namespace V
open PySem PySem.Spec PyProof.Rows L2 DL
section
variable {P : Program} {w : World} {K : PySem.W.Frag} {mg : Str → Option Value} {base : Heap}
/-! block_cuts -/
def N_block_cuts : List Str := ["text", "epoch", "numbers"]
theorem sc_block_cuts : FnScope N_block_cuts ["text"] (defScope Hd.s_block_cuts) := ⟨rfl, rfl, rfl, by decide +kernel, rfl, by decide +kernel, by decide +kernel⟩
def td_block_cuts (D_numbers_of D_numbers_cuts : DX) : TDS := (dSeq (dAsg (dCall D_numbers_of (dCons (dSl (dVar 0) dNoPart (dPart (dNeg (dCB lenR (dCons (dC (.str ".*")) dNil))))) dNil)) (gdTup (gdCons (gdName 1) (gdCons (gdName 2) gdNil))))
  (dRet (dCall D_numbers_cuts (dCons (dVar 1) (dCons (dVar 2) dNil)))))
theorem ok_block_cuts (T : Txt K mg) {D_numbers_of D_numbers_cuts : DX} (pm_numbers_of : Pm 1 D_numbers_of) (c_numbers_of : Okd P w K mg base 5 "numbers_of" ["version"] false 1 D_numbers_of) (pm_numbers_cuts : Pm 2 D_numbers_cuts) (c_numbers_cuts : Okd P w K mg base 2 "numbers_cuts" ["epoch", "numbers"] false 2 D_numbers_cuts) {D : DX} (hw : ∀ ds n Q, D ds n Q → td_block_cuts D_numbers_of D_numbers_cuts (ends Q) (entry false N_block_cuts ds n)) : Okd P w K mg base 6 "block_cuts" ["text"] false 1 D := by
  obtain ⟨hm, fd, Fd⟩ := T.fn 21 "block_cuts" Hd.s_block_cuts rfl
  refine ⟨fd, hm, Fd.kp, Fd.bindsN (fun _ _ _ _ _ _ us hl => match us, hl with | [_], _ => rfl), ?_⟩
  refine fnD Fd sc_block_cuts rfl (fun cdv A outer s H E hr => ?_)
  have nd := sc_block_cuts.nd
  have hu : (A.deeper (envOfC "block_cuts" (defScope Hd.s_block_cuts) s.heap.objs.size (He.ga K "block_cuts") cdv)).units + 64 < cLine := hr.units
  have hu5 : (A.deeper (envOfC "block_cuts" (defScope Hd.s_block_cuts) s.heap.objs.size (He.ga K "block_cuts") cdv)).units + 65 < cLine := by have := hr.un; omega
  have hu1 : (A.deeper (envOfC "block_cuts" (defScope Hd.s_block_cuts) s.heap.objs.size (He.ga K "block_cuts") cdv)).units + 1 < cLine := by have := hr.un; omega
  exact ⟨_, td_block_cuts D_numbers_of D_numbers_cuts, (dss_cons (ds_asg (de_callO c_numbers_of pm_numbers_of (hr.mono (by decide)) (by rfl) (da_cons (de_sl (de_var (pv 0)) do_none (do_some (de_neg (de_callB db_len (by rfl) (T.fr "len" (by decide +kernel)) bb_len (da_cons (de_gstr (by rfl) (T.cs "STAR" ".*" (by decide +kernel))) da_nil))))) da_nil)) (dg_tup (n := 2) rfl (dgs_cons (dg_name (i := 1) nd rfl (.inl rfl)) (dgs_cons (dg_name (i := 2) nd rfl (.inl rfl)) dgs_nil)) (gl_cons (gl_cons gl_nil))))
      (dss_one (ds_ret (de_callO c_numbers_cuts pm_numbers_cuts (hr.mono (by decide)) (by rfl) (da_cons (de_var (pv 1)) (da_cons (de_var (pv 2)) da_nil)))))), hw⟩
/-! outside -/
def N_outside : List Str := ["low", "high", "ahead"]
theorem sc_outside : FnScope N_outside ["low", "high"] (defScope Hd.s_outside) := ⟨rfl, rfl, rfl, by decide +kernel, rfl, by decide +kernel, by decide +kernel⟩
def td_outside : TDS := (dSeq (dAsg (dIf (dTest (dOp ltR (dC c_LEAST) (dVar 0))) (dLst (dCons (dTup (dCons (dC c_LEAST) (dCons (dVar 0) dNil))) dNil)) (dLst dNil)) (gdName 2))
  (dRet (dOp addR (dVar 2) (dLst (dCons (dTup (dCons (dVar 1) (dCons (dC .none) dNil))) dNil)))))
theorem ok_outside (T : Txt K mg)  {D : DX} (hw : ∀ ds n Q, D ds n Q → td_outside  (ends Q) (entry false N_outside ds n)) : Okd P w K mg base 1 "outside" ["low", "high"] false 2 D := by
  obtain ⟨hm, fd, Fd⟩ := T.fn 22 "outside" Hd.s_outside rfl
  refine ⟨fd, hm, Fd.kp, Fd.bindsN (fun _ _ _ _ _ _ us hl => match us, hl with | [_, _], _ => rfl), ?_⟩
  refine fnD Fd sc_outside rfl (fun cdv A outer s H E hr => ?_)
  have nd := sc_outside.nd
  have hu : (A.deeper (envOfC "outside" (defScope Hd.s_outside) s.heap.objs.size (He.ga K "outside") cdv)).units + 64 < cLine := hr.units
  have hu5 : (A.deeper (envOfC "outside" (defScope Hd.s_outside) s.heap.objs.size (He.ga K "outside") cdv)).units + 65 < cLine := by have := hr.un; omega
  have hu1 : (A.deeper (envOfC "outside" (defScope Hd.s_outside) s.heap.objs.size (He.ga K "outside") cdv)).units + 1 < cLine := by have := hr.un; omega
  exact ⟨_, td_outside , (dss_cons (ds_set (i := 2) nd rfl (.inl rfl) (de_if (dt_cmp (ob_lt hu) (de_gtup (by rfl) (T.ct 4 "LEAST" c_LEAST rfl)) (de_var (pv 0)) (nomark _)) (de_lst (da_cons (de_tup (da_cons (de_gtup (by rfl) (T.ct 4 "LEAST" c_LEAST rfl)) (da_cons (de_var (pv 0)) da_nil))) da_nil)) (de_lst da_nil)))
      (dss_one (ds_ret (de_op ob_add (de_var (pv 2)) (de_lst (da_cons (de_tup (da_cons (de_var (pv 1)) (da_cons de_non da_nil))) da_nil)))))), hw⟩
/-! bounded_spans -/
def N_bounded_spans : List Str := ["sign", "key", "epoch", "base", "tail"]
theorem sc_bounded_spans : FnScope N_bounded_spans ["sign", "key"] (defScope Hd.s_bounded_spans) := ⟨rfl, rfl, rfl, by decide +kernel, rfl, by decide +kernel, by decide +kernel⟩
def td_bounded_spans : TDS := (dSeq (dAsg (dVar 1) (gdTup (gdCons (gdName 2) (gdCons (gdName 3) (gdCons (gdName 4) gdNil)))))
  (dSeq (dIfS (dTest (dOp eqR (dVar 0) (dC (.str ">")))) (dRet (dLst (dCons (dTup (dCons (dTup (dCons (dVar 2) (dCons (dVar 3) (dCons (dC c_AFTER_ALL_spans) dNil)))) (dCons (dC .none) dNil))) dNil))) dNext)
  (dRet (dIf (dTest (dOp ltR (dC c_LEAST) (dTup (dCons (dVar 2) (dCons (dVar 3) (dCons (dC c_FIRST) dNil)))))) (dLst (dCons (dTup (dCons (dC c_LEAST) (dCons (dTup (dCons (dVar 2) (dCons (dVar 3) (dCons (dC c_FIRST) dNil)))) dNil))) dNil)) (dLst dNil)))))
theorem ok_bounded_spans (T : Txt K mg)  {D : DX} (hw : ∀ ds n Q, D ds n Q → td_bounded_spans  (ends Q) (entry false N_bounded_spans ds n)) : Okd P w K mg base 1 "bounded_spans" ["sign", "key"] false 2 D := by
  obtain ⟨hm, fd, Fd⟩ := T.fn 23 "bounded_spans" Hd.s_bounded_spans rfl
  refine ⟨fd, hm, Fd.kp, Fd.bindsN (fun _ _ _ _ _ _ us hl => match us, hl with | [_, _], _ => rfl), ?_⟩
  refine fnD Fd sc_bounded_spans rfl (fun cdv A outer s H E hr => ?_)
  have nd := sc_bounded_spans.nd
  have hu : (A.deeper (envOfC "bounded_spans" (defScope Hd.s_bounded_spans) s.heap.objs.size (He.ga K "bounded_spans") cdv)).units + 64 < cLine := hr.units
  have hu5 : (A.deeper (envOfC "bounded_spans" (defScope Hd.s_bounded_spans) s.heap.objs.size (He.ga K "bounded_spans") cdv)).units + 65 < cLine := by have := hr.un; omega
  have hu1 : (A.deeper (envOfC "bounded_spans" (defScope Hd.s_bounded_spans) s.heap.objs.size (He.ga K "bounded_spans") cdv)).units + 1 < cLine := by have := hr.un; omega
  exact ⟨_, td_bounded_spans , (dss_cons (ds_asg (de_var (pv 1)) (dg_tup (n := 3) rfl (dgs_cons (dg_name (i := 2) nd rfl (.inl rfl)) (dgs_cons (dg_name (i := 3) nd rfl (.inl rfl)) (dgs_cons (dg_name (i := 4) nd rfl (.inl rfl)) dgs_nil))) (gl_cons (gl_cons (gl_cons gl_nil)))))
      (dss_cons (ds_if (dt_cmp (ob_eq hu) (de_var (pv 0)) de_str (nomark _)) (dss_one (ds_ret (de_lst (da_cons (de_tup (da_cons (de_tup (da_cons (de_var (pv 2)) (da_cons (de_var (pv 3)) (da_cons (de_gtup (by rfl) (T.ct 3 "AFTER_ALL_spans" c_AFTER_ALL_spans rfl)) da_nil)))) (da_cons de_non da_nil))) da_nil)))) dss_nil)
      (dss_one (ds_ret (de_if (dt_cmp (ob_lt hu) (de_gtup (by rfl) (T.ct 4 "LEAST" c_LEAST rfl)) (de_tup (da_cons (de_var (pv 2)) (da_cons (de_var (pv 3)) (da_cons (de_gtup (by rfl) (T.ct 2 "FIRST" c_FIRST rfl)) da_nil)))) (nomark _)) (de_lst (da_cons (de_tup (da_cons (de_gtup (by rfl) (T.ct 4 "LEAST" c_LEAST rfl)) (da_cons (de_tup (da_cons (de_var (pv 2)) (da_cons (de_var (pv 3)) (da_cons (de_gtup (by rfl) (T.ct 2 "FIRST" c_FIRST rfl)) da_nil)))) da_nil))) da_nil)) (de_lst da_nil)))))), hw⟩
/-! clause_spans -/
def N_clause_spans : List Str := ["clause", "sign", "text", "low", "high", "key", "epoch", "numbers", "behind"]
theorem sc_clause_spans : FnScope N_clause_spans ["clause"] (defScope Hd.s_clause_spans) := ⟨rfl, rfl, rfl, by decide +kernel, rfl, by decide +kernel, by decide +kernel⟩
def td_clause_spans (D_block_cuts D_outside D_key_of D_bounded_spans D_numbers_of D_numbers_cuts D_following_key : DX) : TDS := (dSeq (dAsg (dVar 0) (gdTup (gdCons (gdName 1) (gdCons (gdName 2) gdNil))))
  (dSeq (dIfS (dTest (dBM ewR (dVar 2) (dCons (dC (.str ".*")) dNil))) (dSeq (dAsg (dCall D_block_cuts (dCons (dVar 2) dNil)) (gdTup (gdCons (gdName 3) (gdCons (gdName 4) gdNil))))
  (dRet (dIf (dTest (dOp eqR (dVar 1) (dC (.str "==")))) (dLst (dCons (dTup (dCons (dVar 3) (dCons (dVar 4) dNil))) dNil)) (dCall D_outside (dCons (dVar 3) (dCons (dVar 4) dNil)))))) dNext)
  (dSeq (dAsg (dCall D_key_of (dCons (dVar 2) dNil)) (gdName 5))
  (dSeq (dIfS (dTest (dOp inR (dVar 1) (dTup (dCons (dC (.str "<")) (dCons (dC (.str ">")) dNil))))) (dRet (dCall D_bounded_spans (dCons (dVar 1) (dCons (dVar 5) dNil)))) dNext)
  (dSeq (dIfS (dTest (dOp eqR (dVar 1) (dC (.str ">=")))) (dRet (dLst (dCons (dTup (dCons (dVar 5) (dCons (dC .none) dNil))) dNil))) dNext)
  (dSeq (dIfS (dTest (dOp eqR (dVar 1) (dC (.str "~=")))) (dSeq (dAsg (dCall D_numbers_of (dCons (dVar 2) dNil)) (gdTup (gdCons (gdName 6) (gdCons (gdName 7) gdNil))))
  (dRet (dLst (dCons (dTup (dCons (dVar 5) (dCons (dOp ixR (dCall D_numbers_cuts (dCons (dVar 6) (dCons (dSl (dVar 7) dNoPart (dPart (dNeg (dC (.int 1))))) dNil))) (dC (.int 1))) dNil))) dNil)))) dNext)
  (dSeq (dAsg (dCall D_following_key (dCons (dVar 5) dNil)) (gdName 8))
  (dSeq (dIfS (dTest (dOp eqR (dVar 1) (dC (.str "!=")))) (dRet (dCall D_outside (dCons (dVar 5) (dCons (dVar 8) dNil)))) dNext)
  (dRet (dLst (dCons (dTup (dCons (dIf (dTest (dOp eqR (dVar 1) (dC (.str "==")))) (dVar 5) (dC c_LEAST)) (dCons (dVar 8) dNil))) dNil)))))))))))
theorem ok_clause_spans (T : Txt K mg) {D_block_cuts D_outside D_key_of D_bounded_spans D_numbers_of D_numbers_cuts D_following_key : DX} (pm_block_cuts : Pm 1 D_block_cuts) (c_block_cuts : Okd P w K mg base 6 "block_cuts" ["text"] false 1 D_block_cuts) (pm_outside : Pm 2 D_outside) (c_outside : Okd P w K mg base 1 "outside" ["low", "high"] false 2 D_outside) (pm_key_of : Pm 1 D_key_of) (c_key_of : Okd P w K mg base 5 "key_of" ["version"] false 1 D_key_of) (pm_bounded_spans : Pm 2 D_bounded_spans) (c_bounded_spans : Okd P w K mg base 1 "bounded_spans" ["sign", "key"] false 2 D_bounded_spans) (pm_numbers_of : Pm 1 D_numbers_of) (c_numbers_of : Okd P w K mg base 5 "numbers_of" ["version"] false 1 D_numbers_of) (pm_numbers_cuts : Pm 2 D_numbers_cuts) (c_numbers_cuts : Okd P w K mg base 2 "numbers_cuts" ["epoch", "numbers"] false 2 D_numbers_cuts) (pm_following_key : Pm 1 D_following_key) (c_following_key : Okd P w K mg base 2 "following_key" ["key"] false 1 D_following_key) {D : DX} (hw : ∀ ds n Q, D ds n Q → td_clause_spans D_block_cuts D_outside D_key_of D_bounded_spans D_numbers_of D_numbers_cuts D_following_key (ends Q) (entry false N_clause_spans ds n)) : Okd P w K mg base 7 "clause_spans" ["clause"] false 1 D := by
  obtain ⟨hm, fd, Fd⟩ := T.fn 24 "clause_spans" Hd.s_clause_spans rfl
  refine ⟨fd, hm, Fd.kp, Fd.bindsN (fun _ _ _ _ _ _ us hl => match us, hl with | [_], _ => rfl), ?_⟩
  refine fnD Fd sc_clause_spans rfl (fun cdv A outer s H E hr => ?_)
  have nd := sc_clause_spans.nd
  have hu : (A.deeper (envOfC "clause_spans" (defScope Hd.s_clause_spans) s.heap.objs.size (He.ga K "clause_spans") cdv)).units + 64 < cLine := hr.units
  have hu5 : (A.deeper (envOfC "clause_spans" (defScope Hd.s_clause_spans) s.heap.objs.size (He.ga K "clause_spans") cdv)).units + 65 < cLine := by have := hr.un; omega
  have hu1 : (A.deeper (envOfC "clause_spans" (defScope Hd.s_clause_spans) s.heap.objs.size (He.ga K "clause_spans") cdv)).units + 1 < cLine := by have := hr.un; omega
  exact ⟨_, td_clause_spans D_block_cuts D_outside D_key_of D_bounded_spans D_numbers_of D_numbers_cuts D_following_key, (dss_cons (ds_asg (de_var (pv 0)) (dg_tup (n := 2) rfl (dgs_cons (dg_name (i := 1) nd rfl (.inl rfl)) (dgs_cons (dg_name (i := 2) nd rfl (.inl rfl)) dgs_nil)) (gl_cons (gl_cons gl_nil))))
      (dss_cons (ds_if (dt_val (de_bm dm_endswith F.slot_str_endswith F.type_str_endswith (de_var (pv 2)) (da_cons (de_gstr (by rfl) (T.cs "STAR" ".*" (by decide +kernel))) da_nil))) (dss_cons (ds_asg (de_callO c_block_cuts pm_block_cuts (hr.mono (by decide)) (by rfl) (da_cons (de_var (pv 2)) da_nil)) (dg_tup (n := 2) rfl (dgs_cons (dg_name (i := 3) nd rfl (.inl rfl)) (dgs_cons (dg_name (i := 4) nd rfl (.inl rfl)) dgs_nil)) (gl_cons (gl_cons gl_nil))))
      (dss_one (ds_ret (de_if (dt_cmp (ob_eq hu) (de_var (pv 1)) de_str (nomark _)) (de_lst (da_cons (de_tup (da_cons (de_var (pv 3)) (da_cons (de_var (pv 4)) da_nil))) da_nil)) (de_callO c_outside pm_outside (hr.mono (by decide)) (by rfl) (da_cons (de_var (pv 3)) (da_cons (de_var (pv 4)) da_nil))))))) dss_nil)
      (dss_cons (ds_set (i := 5) nd rfl (.inl rfl) (de_callO c_key_of pm_key_of (hr.mono (by decide)) (by rfl) (da_cons (de_var (pv 2)) da_nil)))
      (dss_cons (ds_if (dt_cmp (ob_in hu5) (de_var (pv 1)) (de_tup (da_cons de_str (da_cons de_str da_nil))) rfl) (dss_one (ds_ret (de_callO c_bounded_spans pm_bounded_spans (hr.mono (by decide)) (by rfl) (da_cons (de_var (pv 1)) (da_cons (de_var (pv 5)) da_nil))))) dss_nil)
      (dss_cons (ds_if (dt_cmp (ob_eq hu) (de_var (pv 1)) de_str (nomark _)) (dss_one (ds_ret (de_lst (da_cons (de_tup (da_cons (de_var (pv 5)) (da_cons de_non da_nil))) da_nil)))) dss_nil)
      (dss_cons (ds_if (dt_cmp (ob_eq hu) (de_var (pv 1)) de_str (nomark _)) (dss_cons (ds_asg (de_callO c_numbers_of pm_numbers_of (hr.mono (by decide)) (by rfl) (da_cons (de_var (pv 2)) da_nil)) (dg_tup (n := 2) rfl (dgs_cons (dg_name (i := 6) nd rfl (.inl rfl)) (dgs_cons (dg_name (i := 7) nd rfl (.inl rfl)) dgs_nil)) (gl_cons (gl_cons gl_nil))))
      (dss_one (ds_ret (de_lst (da_cons (de_tup (da_cons (de_var (pv 5)) (da_cons (de_ix (de_callO c_numbers_cuts pm_numbers_cuts (hr.mono (by decide)) (by rfl) (da_cons (de_var (pv 6)) (da_cons (de_sl (de_var (pv 7)) do_none (do_some (de_neg de_int))) da_nil))) de_int (fun _ _ => rfl)) da_nil))) da_nil))))) dss_nil)
      (dss_cons (ds_set (i := 8) nd rfl (.inl rfl) (de_callO c_following_key pm_following_key (hr.mono (by decide)) (by rfl) (da_cons (de_var (pv 5)) da_nil)))
      (dss_cons (ds_if (dt_cmp (ob_eq hu) (de_var (pv 1)) de_str (nomark _)) (dss_one (ds_ret (de_callO c_outside pm_outside (hr.mono (by decide)) (by rfl) (da_cons (de_var (pv 5)) (da_cons (de_var (pv 8)) da_nil))))) dss_nil)
      (dss_one (ds_ret (de_lst (da_cons (de_tup (da_cons (de_if (dt_cmp (ob_eq hu) (de_var (pv 1)) de_str (nomark _)) (de_var (pv 5)) (de_gtup (by rfl) (T.ct 4 "LEAST" c_LEAST rfl))) (da_cons (de_var (pv 8)) da_nil))) da_nil)))))))))))), hw⟩
/-! lesser_end -/
def N_lesser_end : List Str := ["one", "other"]
theorem sc_lesser_end : FnScope N_lesser_end ["one", "other"] (defScope Hd.s_lesser_end) := ⟨rfl, rfl, rfl, by decide +kernel, rfl, by decide +kernel, by decide +kernel⟩
def td_lesser_end : TDS := (dSeq (dIfS (dOr (dTest (dOp isR (dVar 0) (dC .none))) (dTest (dOp isR (dVar 1) (dC .none)))) (dRet (dIf (dTest (dOp isR (dVar 0) (dC .none))) (dVar 1) (dVar 0))) dNext)
  (dRet (dCB min2R (dCons (dVar 0) (dCons (dVar 1) dNil)))))
theorem ok_lesser_end (T : Txt K mg)  {D : DX} (hw : ∀ ds n Q, D ds n Q → td_lesser_end  (ends Q) (entry false N_lesser_end ds n)) : Okd P w K mg base 1 "lesser_end" ["one", "other"] false 2 D := by
  obtain ⟨hm, fd, Fd⟩ := T.fn 25 "lesser_end" Hd.s_lesser_end rfl
  refine ⟨fd, hm, Fd.kp, Fd.bindsN (fun _ _ _ _ _ _ us hl => match us, hl with | [_, _], _ => rfl), ?_⟩
  refine fnD Fd sc_lesser_end rfl (fun cdv A outer s H E hr => ?_)
  have nd := sc_lesser_end.nd
  have hu : (A.deeper (envOfC "lesser_end" (defScope Hd.s_lesser_end) s.heap.objs.size (He.ga K "lesser_end") cdv)).units + 64 < cLine := hr.units
  have hu5 : (A.deeper (envOfC "lesser_end" (defScope Hd.s_lesser_end) s.heap.objs.size (He.ga K "lesser_end") cdv)).units + 65 < cLine := by have := hr.un; omega
  have hu1 : (A.deeper (envOfC "lesser_end" (defScope Hd.s_lesser_end) s.heap.objs.size (He.ga K "lesser_end") cdv)).units + 1 < cLine := by have := hr.un; omega
  exact ⟨_, td_lesser_end , (dss_cons (ds_if (DW.dt (dw_or (dt_cmp ob_is (de_var (pv 0)) de_non (nomark _)) (dw_or1 (dt_cmp ob_is (de_var (pv 1)) de_non (nomark _))))) (dss_one (ds_ret (de_if (dt_cmp ob_is (de_var (pv 0)) de_non (nomark _)) (de_var (pv 1)) (de_var (pv 0))))) dss_nil)
      (dss_one (ds_ret (de_callB (db_min2 rfl hu) (by rfl) (T.fr "min" (by decide +kernel)) bb_min (da_cons (de_var (pv 0)) (da_cons (de_var (pv 1)) da_nil)))))), hw⟩
/-! meet -/
def N_meet : List Str := ["one", "other", "found", "low", "high", "start", "end", "first", "last"]
theorem sc_meet : FnScope N_meet ["one", "other"] (defScope Hd.s_meet) := ⟨rfl, rfl, rfl, by decide +kernel, rfl, by decide +kernel, by decide +kernel⟩
def td_meet (D_lesser_end : DX) : TDS := (dSeq (dSetOwn 2 (dfLst dNil))
  (dSeq (dFor (diL (dVar 0)) (gdTup (gdCons (gdName 3) (gdCons (gdName 4) gdNil))) (dFor (diL (dVar 1)) (gdTup (gdCons (gdName 5) (gdCons (gdName 6) gdNil))) (dSeq (dPar 7 8 (dCB max2R (dCons (dVar 3) (dCons (dVar 5) dNil))) (dCall D_lesser_end (dCons (dVar 4) (dCons (dVar 6) dNil))))
  (dIfS (dOr (dTest (dOp isR (dVar 8) (dC .none))) (dTest (dOp ltR (dVar 7) (dVar 8)))) (dDrop (dApp 2 (dTup (dCons (dVar 7) (dCons (dVar 8) dNil))))) dNext))))
  (dRet (dGive 2))))
theorem ok_meet (T : Txt K mg) {D_lesser_end : DX} (pm_lesser_end : Pm 2 D_lesser_end) (c_lesser_end : Okd P w K mg base 1 "lesser_end" ["one", "other"] false 2 D_lesser_end) {D : DX} (hw : ∀ ds n Q, D ds n Q → td_meet D_lesser_end (ends Q) (entry false N_meet ds n)) : Okd P w K mg base 2 "meet" ["one", "other"] false 2 D := by
  obtain ⟨hm, fd, Fd⟩ := T.fn 26 "meet" Hd.s_meet rfl
  refine ⟨fd, hm, Fd.kp, Fd.bindsN (fun _ _ _ _ _ _ us hl => match us, hl with | [_, _], _ => rfl), ?_⟩
  refine fnD Fd sc_meet rfl (fun cdv A outer s H E hr => ?_)
  have nd := sc_meet.nd
  have hu : (A.deeper (envOfC "meet" (defScope Hd.s_meet) s.heap.objs.size (He.ga K "meet") cdv)).units + 64 < cLine := hr.units
  have hu5 : (A.deeper (envOfC "meet" (defScope Hd.s_meet) s.heap.objs.size (He.ga K "meet") cdv)).units + 65 < cLine := by have := hr.un; omega
  have hu1 : (A.deeper (envOfC "meet" (defScope Hd.s_meet) s.heap.objs.size (He.ga K "meet") cdv)).units + 1 < cLine := by have := hr.un; omega
  exact ⟨_, td_meet D_lesser_end, (dss_cons (ds_setOwn (i := 2) nd rfl (.inl rfl) (df_lst da_nil))
      (dss_cons (ds_for PassesOwn.never rfl (di_list (de_var (pv 0))) (dg_tup (n := 2) rfl (dgs_cons (dg_name (i := 3) nd rfl (.inl rfl)) (dgs_cons (dg_name (i := 4) nd rfl (.inl rfl)) dgs_nil)) (gl_cons (gl_cons gl_nil))) (dss_one (ds_for PassesOwn.never rfl (di_list (de_var (pv 1))) (dg_tup (n := 2) rfl (dgs_cons (dg_name (i := 5) nd rfl (.inl rfl)) (dgs_cons (dg_name (i := 6) nd rfl (.inl rfl)) dgs_nil)) (gl_cons (gl_cons gl_nil))) (dss_cons (ds_par (i := 7) (j := 8) rfl nd rfl rfl (by decide) rfl rfl (de_callB (db_max2 rfl hu) (by rfl) (T.fr "max" (by decide +kernel)) bb_max (da_cons (de_var (pv 3)) (da_cons (de_var (pv 5)) da_nil))) (de_callO c_lesser_end pm_lesser_end (hr.mono (by decide)) (by rfl) (da_cons (de_var (pv 4)) (da_cons (de_var (pv 6)) da_nil))))
      (dss_one (ds_if (DW.dt (dw_or (dt_cmp ob_is (de_var (pv 8)) de_non (nomark _)) (dw_or1 (dt_cmp (ob_lt hu) (de_var (pv 7)) (de_var (pv 8)) (nomark _))))) (dss_one (ds_expr (de_app (pv 2) (de_tup (da_cons (de_var (pv 7)) (da_cons (de_var (pv 8)) da_nil)))))) dss_nil))))))
      (dss_one (ds_ret (de_give (pv 2)))))), hw⟩
/-! spans_of -/
def N_spans_of : List Str := ["requirement", "found", "clause"]
theorem sc_spans_of : FnScope N_spans_of ["requirement"] (defScope Hd.s_spans_of) := ⟨rfl, rfl, rfl, by decide +kernel, rfl, by decide +kernel, by decide +kernel⟩
def td_spans_of (D_meet D_clause_spans : DX) : TDS := (dSeq (dAsg (dLst (dCons (dTup (dCons (dC c_LEAST) (dCons (dC .none) dNil))) dNil)) (gdName 1))
  (dSeq (dFor (diT (dVar 0)) (gdName 2) (dAsg (dCall D_meet (dCons (dVar 1) (dCons (dCall D_clause_spans (dCons (dVar 2) dNil)) dNil))) (gdName 1)))
  (dRet (dVar 1))))
theorem ok_spans_of (T : Txt K mg) {D_meet D_clause_spans : DX} (pm_meet : Pm 2 D_meet) (c_meet : Okd P w K mg base 2 "meet" ["one", "other"] false 2 D_meet) (pm_clause_spans : Pm 1 D_clause_spans) (c_clause_spans : Okd P w K mg base 7 "clause_spans" ["clause"] false 1 D_clause_spans) {D : DX} (hw : ∀ ds n Q, D ds n Q → td_spans_of D_meet D_clause_spans (ends Q) (entry false N_spans_of ds n)) : Okd P w K mg base 8 "spans_of" ["requirement"] false 1 D := by
  obtain ⟨hm, fd, Fd⟩ := T.fn 27 "spans_of" Hd.s_spans_of rfl
  refine ⟨fd, hm, Fd.kp, Fd.bindsN (fun _ _ _ _ _ _ us hl => match us, hl with | [_], _ => rfl), ?_⟩
  refine fnD Fd sc_spans_of rfl (fun cdv A outer s H E hr => ?_)
  have nd := sc_spans_of.nd
  have hu : (A.deeper (envOfC "spans_of" (defScope Hd.s_spans_of) s.heap.objs.size (He.ga K "spans_of") cdv)).units + 64 < cLine := hr.units
  have hu5 : (A.deeper (envOfC "spans_of" (defScope Hd.s_spans_of) s.heap.objs.size (He.ga K "spans_of") cdv)).units + 65 < cLine := by have := hr.un; omega
  have hu1 : (A.deeper (envOfC "spans_of" (defScope Hd.s_spans_of) s.heap.objs.size (He.ga K "spans_of") cdv)).units + 1 < cLine := by have := hr.un; omega
  exact ⟨_, td_spans_of D_meet D_clause_spans, (dss_cons (ds_set (i := 1) nd rfl (.inl rfl) (de_lst (da_cons (de_tup (da_cons (de_gtup (by rfl) (T.ct 4 "LEAST" c_LEAST rfl)) (da_cons de_non da_nil))) da_nil)))
      (dss_cons (ds_for PassesOwn.never rfl (di_tup (de_var (pv 0))) (dg_name (i := 2) nd rfl (.inl rfl)) (dss_one (ds_set (i := 1) nd rfl (.inl rfl) (de_callO c_meet pm_meet (hr.mono (by decide)) (by rfl) (da_cons (de_var (pv 1)) (da_cons (de_callO c_clause_spans pm_clause_spans (hr.mono (by decide)) (by rfl) (da_cons (de_var (pv 2)) da_nil)) da_nil))))))
      (dss_one (ds_ret (de_var (pv 1)))))), hw⟩
end
end V

set_option Elab.async false
set_option linter.all false
set_option maxRecDepth 100000
set_option maxHeartbeats 8000000
namespace V
open PySem PySem.Spec PyProof.Rows L2 DL
section
variable {P : Program} {w : World} {K : PySem.W.Frag} {mg : Str → Option Value} {base : Heap}
/-! is_release -/
def N_is_release : List Str := ["thing"]
theorem sc_is_release : FnScope N_is_release ["thing"] (defScope Hd.s_is_release) := ⟨rfl, rfl, rfl, by decide +kernel, rfl, by decide +kernel, by decide +kernel⟩
def td_is_release (D_is_version : DX) : TDS := (dSeq (dIfS (dOr (dNot (dTest (dIsi (fun t => t == "tuple") (dVar 0)))) (dTest (dOp neR (dCB lenR (dCons (dVar 0) dNil)) (dC (.int 2))))) (dRet (dC (.bool false))) dNext)
  (dRet (dAndV (dCall D_is_version (dCons (dOp ixR (dVar 0) (dC (.int 0))) dNil)) (dIsi (fun t => t == "bool") (dOp ixR (dVar 0) (dC (.int 1)))))))
theorem ok_is_release (T : Txt K mg) {D_is_version : DX} (pm_is_version : Pm 1 D_is_version) (c_is_version : Okd P w K mg base 5 "is_version" ["thing"] false 1 D_is_version) {D : DX} (hw : ∀ ds n Q, D ds n Q → td_is_release D_is_version (ends Q) (entry false N_is_release ds n)) : Okd P w K mg base 6 "is_release" ["thing"] false 1 D := by
  obtain ⟨hm, fd, Fd⟩ := T.fn 28 "is_release" Hd.s_is_release rfl
  refine ⟨fd, hm, Fd.kp, Fd.bindsN (fun _ _ _ _ _ _ us hl => match us, hl with | [_], _ => rfl), ?_⟩
  refine fnD Fd sc_is_release rfl (fun cdv A outer s H E hr => ?_)
  have nd := sc_is_release.nd
  have hu : (A.deeper (envOfC "is_release" (defScope Hd.s_is_release) s.heap.objs.size (He.ga K "is_release") cdv)).units + 64 < cLine := hr.units
  have hu5 : (A.deeper (envOfC "is_release" (defScope Hd.s_is_release) s.heap.objs.size (He.ga K "is_release") cdv)).units + 65 < cLine := by have := hr.un; omega
  have hu1 : (A.deeper (envOfC "is_release" (defScope Hd.s_is_release) s.heap.objs.size (He.ga K "is_release") cdv)).units + 1 < cLine := by have := hr.un; omega
  exact ⟨_, td_is_release D_is_version, (dss_cons (ds_if (DW.dt (dw_or (dt_not (dt_val (de_isi isTuple (de_var (pv 0)) (by rfl) (T.fr "isinstance" (by decide +kernel)) bb_isi (by rfl) (T.fr "tuple" (by decide +kernel)) bb_tuple))) (dw_or1 (dt_cmp (ob_ne hu) (de_callB db_len (by rfl) (T.fr "len" (by decide +kernel)) bb_len (da_cons (de_var (pv 0)) da_nil)) de_int (nomark _))))) (dss_one (ds_ret de_bl)) dss_nil)
      (dss_one (ds_ret (de_and (de_callO c_is_version pm_is_version (hr.mono (by decide)) (by rfl) (da_cons (de_ix (de_var (pv 0)) de_int (fun _ _ => rfl)) da_nil)) (de_one (de_isi isBool (de_ix (de_var (pv 0)) de_int (fun _ _ => rfl)) (by rfl) (T.fr "isinstance" (by decide +kernel)) bb_isi (by rfl) (T.fr "bool" (by decide +kernel)) bb_bool)))))), hw⟩
/-! need_releases -/
def N_need_releases : List Str := ["thing", "known", "number", "release"]
theorem sc_need_releases : FnScope N_need_releases ["thing"] (defScope Hd.s_need_releases) := ⟨rfl, rfl, rfl, by decide +kernel, rfl, by decide +kernel, by decide +kernel⟩
def td_need_releases (D_is_release D_key_of : DX) : TDS := (dSeq (dIfS (dOr (dNot (dTest (dIsi (fun t => t == "tuple") (dVar 0)))) (dTest (dOp gtR (dCB lenR (dCons (dVar 0) dNil)) (dC (.int 40))))) dNever dNext)
  (dSeq (dSetOwn 1 (dfLst dNil))
  (dSeq (dFor (diEnumT (dCons (dVar 0) dNil)) (gdTup (gdCons (gdName 2) (gdCons (gdName 3) gdNil))) (dSeq (dIfS (dOr (dNot (dTest (dCall D_is_release (dCons (dVar 3) dNil)))) (dTest (dInOwn false 1 (dCall D_key_of (dCons (dOp ixR (dVar 3) (dC (.int 0))) dNil))))) dNever dNext)
  (dDrop (dApp 1 (dCall D_key_of (dCons (dOp ixR (dVar 3) (dC (.int 0))) dNil))))))
  (dRet (dVar 0)))))
theorem ok_need_releases (T : Txt K mg) {D_is_release D_key_of : DX} (pm_is_release : Pm 1 D_is_release) (c_is_release : Okd P w K mg base 6 "is_release" ["thing"] false 1 D_is_release) (pm_key_of : Pm 1 D_key_of) (c_key_of : Okd P w K mg base 5 "key_of" ["version"] false 1 D_key_of) {D : DX} (hw : ∀ ds n Q, D ds n Q → td_need_releases D_is_release D_key_of (ends Q) (entry false N_need_releases ds n)) : Okd P w K mg base 7 "need_releases" ["thing"] false 1 D := by
  obtain ⟨hm, fd, Fd⟩ := T.fn 29 "need_releases" Hd.s_need_releases rfl
  refine ⟨fd, hm, Fd.kp, Fd.bindsN (fun _ _ _ _ _ _ us hl => match us, hl with | [_], _ => rfl), ?_⟩
  refine fnD Fd sc_need_releases rfl (fun cdv A outer s H E hr => ?_)
  have nd := sc_need_releases.nd
  have hu : (A.deeper (envOfC "need_releases" (defScope Hd.s_need_releases) s.heap.objs.size (He.ga K "need_releases") cdv)).units + 64 < cLine := hr.units
  have hu5 : (A.deeper (envOfC "need_releases" (defScope Hd.s_need_releases) s.heap.objs.size (He.ga K "need_releases") cdv)).units + 65 < cLine := by have := hr.un; omega
  have hu1 : (A.deeper (envOfC "need_releases" (defScope Hd.s_need_releases) s.heap.objs.size (He.ga K "need_releases") cdv)).units + 1 < cLine := by have := hr.un; omega
  exact ⟨_, td_need_releases D_is_release D_key_of, (dss_cons (ds_if (DW.dt (dw_or (dt_not (dt_val (de_isi isTuple (de_var (pv 0)) (by rfl) (T.fr "isinstance" (by decide +kernel)) bb_isi (by rfl) (T.fr "tuple" (by decide +kernel)) bb_tuple))) (dw_or1 (dt_cmp (ob_gt hu) (de_callB db_len (by rfl) (T.fr "len" (by decide +kernel)) bb_len (da_cons (de_var (pv 0)) da_nil)) (de_gint (by rfl) (T.ci "MOST_RELEASES" 40 (by decide +kernel))) (nomark _))))) (dss_one ds_never) dss_nil)
      (dss_cons (ds_setOwn (i := 1) nd rfl (.inl rfl) (df_lst da_nil))
      (dss_cons (ds_for PassesOwn.never rfl (di_enumT (by rfl) (T.fr "enumerate" (by decide +kernel)) (da_cons (de_var (pv 0)) da_nil)) (dg_tup (n := 2) rfl (dgs_cons (dg_name (i := 2) nd rfl (.inl rfl)) (dgs_cons (dg_name (i := 3) nd rfl (.inl rfl)) dgs_nil)) (gl_cons (gl_cons gl_nil))) (dss_cons (ds_if (DW.dt (dw_or (dt_not (dt_val (de_callO c_is_release pm_is_release (hr.mono (by decide)) (by rfl) (da_cons (de_var (pv 3)) da_nil)))) (dw_or1 (dt_inOwn hu5 (pv 1) (de_callO c_key_of pm_key_of (hr.mono (by decide)) (by rfl) (da_cons (de_ix (de_var (pv 3)) de_int (fun _ _ => rfl)) da_nil)))))) (dss_one ds_never) dss_nil)
      (dss_one (ds_expr (de_app (pv 1) (de_callO c_key_of pm_key_of (hr.mono (by decide)) (by rfl) (da_cons (de_ix (de_var (pv 3)) de_int (fun _ _ => rfl)) da_nil)))))))
      (dss_one (ds_ret (de_var (pv 0))))))), hw⟩
/-! is_after -/
def N_is_after : List Str := ["cut"]
theorem sc_is_after : FnScope N_is_after ["cut"] (defScope Hd.s_is_after) := ⟨rfl, rfl, rfl, by decide +kernel, rfl, by decide +kernel, by decide +kernel⟩
def td_is_after : TDS := (dRet (dOp eqR (dOp ixR (dVar 0) (dC (.int 2))) (dC c_AFTER_ALL_alike)))
theorem ok_is_after (T : Txt K mg)  {D : DX} (hw : ∀ ds n Q, D ds n Q → td_is_after  (ends Q) (entry false N_is_after ds n)) : Okd P w K mg base 1 "is_after" ["cut"] false 1 D := by
  obtain ⟨hm, fd, Fd⟩ := T.fn 30 "is_after" Hd.s_is_after rfl
  refine ⟨fd, hm, Fd.kp, Fd.bindsN (fun _ _ _ _ _ _ us hl => match us, hl with | [_], _ => rfl), ?_⟩
  refine fnD Fd sc_is_after rfl (fun cdv A outer s H E hr => ?_)
  have nd := sc_is_after.nd
  have hu : (A.deeper (envOfC "is_after" (defScope Hd.s_is_after) s.heap.objs.size (He.ga K "is_after") cdv)).units + 64 < cLine := hr.units
  have hu5 : (A.deeper (envOfC "is_after" (defScope Hd.s_is_after) s.heap.objs.size (He.ga K "is_after") cdv)).units + 65 < cLine := by have := hr.un; omega
  have hu1 : (A.deeper (envOfC "is_after" (defScope Hd.s_is_after) s.heap.objs.size (He.ga K "is_after") cdv)).units + 1 < cLine := by have := hr.un; omega
  exact ⟨_, td_is_after , (dss_one (ds_ret (de_cmp (ob_eq hu) (de_ix (de_var (pv 0)) de_int (fun _ _ => rfl)) (de_gtup (by rfl) (T.ct 5 "AFTER_ALL_alike" c_AFTER_ALL_alike rfl)) (nomark _)))), hw⟩
/-! next_final -/
def N_next_final : List Str := ["key", "epoch", "base", "tail"]
theorem sc_next_final : FnScope N_next_final ["key"] (defScope Hd.s_next_final) := ⟨rfl, rfl, rfl, by decide +kernel, rfl, by decide +kernel, by decide +kernel⟩
def td_next_final (D_is_final_key : DX) : TDS := (dSeq (dAsg (dVar 0) (gdTup (gdCons (gdName 1) (gdCons (gdName 2) (gdCons (gdName 3) gdNil)))))
  (dSeq (dIfS (dTest (dCall D_is_final_key (dCons (dVar 0) dNil))) (dRet (dVar 0)) dNext)
  (dSeq (dIfS (dTest (dOp eqR (dOp ixR (dVar 3) (dC (.int 0))) (dC (.int 3)))) (dRet (dTup (dCons (dVar 1) (dCons (dVar 2) (dCons (dTup (dCons (dC (.int 3)) (dCons (dOp ixR (dVar 3) (dC (.int 1))) (dCons (dC (.int 1)) dNil)))) dNil))))) dNext)
  (dRet (dTup (dCons (dVar 1) (dCons (dVar 2) (dCons (dC c_FINAL_TAIL) dNil))))))))
theorem ok_next_final (T : Txt K mg) {D_is_final_key : DX} (pm_is_final_key : Pm 1 D_is_final_key) (c_is_final_key : Okd P w K mg base 2 "is_final_key" ["key"] false 1 D_is_final_key) {D : DX} (hw : ∀ ds n Q, D ds n Q → td_next_final D_is_final_key (ends Q) (entry false N_next_final ds n)) : Okd P w K mg base 3 "next_final" ["key"] false 1 D := by
  obtain ⟨hm, fd, Fd⟩ := T.fn 31 "next_final" Hd.s_next_final rfl
  refine ⟨fd, hm, Fd.kp, Fd.bindsN (fun _ _ _ _ _ _ us hl => match us, hl with | [_], _ => rfl), ?_⟩
  refine fnD Fd sc_next_final rfl (fun cdv A outer s H E hr => ?_)
  have nd := sc_next_final.nd
  have hu : (A.deeper (envOfC "next_final" (defScope Hd.s_next_final) s.heap.objs.size (He.ga K "next_final") cdv)).units + 64 < cLine := hr.units
  have hu5 : (A.deeper (envOfC "next_final" (defScope Hd.s_next_final) s.heap.objs.size (He.ga K "next_final") cdv)).units + 65 < cLine := by have := hr.un; omega
  have hu1 : (A.deeper (envOfC "next_final" (defScope Hd.s_next_final) s.heap.objs.size (He.ga K "next_final") cdv)).units + 1 < cLine := by have := hr.un; omega
  exact ⟨_, td_next_final D_is_final_key, (dss_cons (ds_asg (de_var (pv 0)) (dg_tup (n := 3) rfl (dgs_cons (dg_name (i := 1) nd rfl (.inl rfl)) (dgs_cons (dg_name (i := 2) nd rfl (.inl rfl)) (dgs_cons (dg_name (i := 3) nd rfl (.inl rfl)) dgs_nil))) (gl_cons (gl_cons (gl_cons gl_nil)))))
      (dss_cons (ds_if (dt_val (de_callO c_is_final_key pm_is_final_key (hr.mono (by decide)) (by rfl) (da_cons (de_var (pv 0)) da_nil))) (dss_one (ds_ret (de_var (pv 0)))) dss_nil)
      (dss_cons (ds_if (dt_cmp (ob_eq hu) (de_ix (de_var (pv 3)) de_int (fun _ _ => rfl)) (de_gint (by rfl) (T.ci "POST_alike" 3 (by decide +kernel))) (nomark _)) (dss_one (ds_ret (de_tup (da_cons (de_var (pv 1)) (da_cons (de_var (pv 2)) (da_cons (de_tup (da_cons (de_gint (by rfl) (T.ci "POST_alike" 3 (by decide +kernel))) (da_cons (de_ix (de_var (pv 3)) de_int (fun _ _ => rfl)) (da_cons de_int da_nil)))) da_nil)))))) dss_nil)
      (dss_one (ds_ret (de_tup (da_cons (de_var (pv 1)) (da_cons (de_var (pv 2)) (da_cons (de_gtup (by rfl) (T.ct 6 "FINAL_TAIL" c_FINAL_TAIL rfl)) da_nil))))))))), hw⟩
/-! next_forerunner -/
def N_next_forerunner : List Str := ["key"]
theorem sc_next_forerunner : FnScope N_next_forerunner ["key"] (defScope Hd.s_next_forerunner) := ⟨rfl, rfl, rfl, by decide +kernel, rfl, by decide +kernel, by decide +kernel⟩
def td_next_forerunner (D_is_final_key D_following_key : DX) : TDS := (dRet (dIf (dTest (dCall D_is_final_key (dCons (dVar 0) dNil))) (dCall D_following_key (dCons (dVar 0) dNil)) (dVar 0)))
theorem ok_next_forerunner (T : Txt K mg) {D_is_final_key D_following_key : DX} (pm_is_final_key : Pm 1 D_is_final_key) (c_is_final_key : Okd P w K mg base 2 "is_final_key" ["key"] false 1 D_is_final_key) (pm_following_key : Pm 1 D_following_key) (c_following_key : Okd P w K mg base 2 "following_key" ["key"] false 1 D_following_key) {D : DX} (hw : ∀ ds n Q, D ds n Q → td_next_forerunner D_is_final_key D_following_key (ends Q) (entry false N_next_forerunner ds n)) : Okd P w K mg base 3 "next_forerunner" ["key"] false 1 D := by
  obtain ⟨hm, fd, Fd⟩ := T.fn 32 "next_forerunner" Hd.s_next_forerunner rfl
  refine ⟨fd, hm, Fd.kp, Fd.bindsN (fun _ _ _ _ _ _ us hl => match us, hl with | [_], _ => rfl), ?_⟩
  refine fnD Fd sc_next_forerunner rfl (fun cdv A outer s H E hr => ?_)
  have nd := sc_next_forerunner.nd
  have hu : (A.deeper (envOfC "next_forerunner" (defScope Hd.s_next_forerunner) s.heap.objs.size (He.ga K "next_forerunner") cdv)).units + 64 < cLine := hr.units
  have hu5 : (A.deeper (envOfC "next_forerunner" (defScope Hd.s_next_forerunner) s.heap.objs.size (He.ga K "next_forerunner") cdv)).units + 65 < cLine := by have := hr.un; omega
  have hu1 : (A.deeper (envOfC "next_forerunner" (defScope Hd.s_next_forerunner) s.heap.objs.size (He.ga K "next_forerunner") cdv)).units + 1 < cLine := by have := hr.un; omega
  exact ⟨_, td_next_forerunner D_is_final_key D_following_key, (dss_one (ds_ret (de_if (dt_val (de_callO c_is_final_key pm_is_final_key (hr.mono (by decide)) (by rfl) (da_cons (de_var (pv 0)) da_nil))) (de_callO c_following_key pm_following_key (hr.mono (by decide)) (by rfl) (da_cons (de_var (pv 0)) da_nil)) (de_var (pv 0))))), hw⟩
/-! within -/
def N_within : List Str := ["base", "number"]
theorem sc_within : FnScope N_within ["base", "number"] (defScope Hd.s_within) := ⟨rfl, rfl, rfl, by decide +kernel, rfl, by decide +kernel, by decide +kernel⟩
def td_within : TDS := (dRet (dOp addR (dOp addR (dVar 0) (dOp mulR (dTup (dCons (dC (.int 0)) dNil)) (dVar 1))) (dTup (dCons (dC (.int 1)) dNil))))
theorem ok_within (T : Txt K mg)  {D : DX} (hw : ∀ ds n Q, D ds n Q → td_within  (ends Q) (entry false N_within ds n)) : Okd P w K mg base 1 "within" ["base", "number"] false 2 D := by
  obtain ⟨hm, fd, Fd⟩ := T.fn 33 "within" Hd.s_within rfl
  refine ⟨fd, hm, Fd.kp, Fd.bindsN (fun _ _ _ _ _ _ us hl => match us, hl with | [_, _], _ => rfl), ?_⟩
  refine fnD Fd sc_within rfl (fun cdv A outer s H E hr => ?_)
  have nd := sc_within.nd
  have hu : (A.deeper (envOfC "within" (defScope Hd.s_within) s.heap.objs.size (He.ga K "within") cdv)).units + 64 < cLine := hr.units
  have hu5 : (A.deeper (envOfC "within" (defScope Hd.s_within) s.heap.objs.size (He.ga K "within") cdv)).units + 65 < cLine := by have := hr.un; omega
  have hu1 : (A.deeper (envOfC "within" (defScope Hd.s_within) s.heap.objs.size (He.ga K "within") cdv)).units + 1 < cLine := by have := hr.un; omega
  exact ⟨_, td_within , (dss_one (ds_ret (de_op ob_add (de_op ob_add (de_var (pv 0)) (de_op ob_mul (de_tup (da_cons de_int da_nil)) (de_var (pv 1)))) (de_tup (da_cons de_int da_nil))))), hw⟩
/-! nearer -/
def N_nearer : List Str := ["cut", "bound", "epoch", "base", "tail", "many"]
theorem sc_nearer : FnScope N_nearer ["cut", "bound"] (defScope Hd.s_nearer) := ⟨rfl, rfl, rfl, by decide +kernel, rfl, by decide +kernel, by decide +kernel⟩
def td_nearer (D_within : DX) : TDS := (dSeq (dAsg (dVar 0) (gdTup (gdCons (gdName 2) (gdCons (gdName 3) (gdCons (gdName 4) gdNil)))))
  (dSeq (dAsg (dIf (dTest (dOp isR (dVar 1) (dC .none))) (dC (.int 0)) (dCB max2R (dCons (dC (.int 0)) (dCons (dOp subR (dCB lenR (dCons (dOp ixR (dVar 1) (dC (.int 1))) dNil)) (dCB lenR (dCons (dVar 3) dNil))) dNil)))) (gdName 5))
  (dRet (dTup (dCons (dVar 2) (dCons (dCall D_within (dCons (dVar 3) (dCons (dVar 5) dNil))) (dCons (dC c_FINAL_TAIL) dNil)))))))
theorem ok_nearer (T : Txt K mg) {D_within : DX} (pm_within : Pm 2 D_within) (c_within : Okd P w K mg base 1 "within" ["base", "number"] false 2 D_within) {D : DX} (hw : ∀ ds n Q, D ds n Q → td_nearer D_within (ends Q) (entry false N_nearer ds n)) : Okd P w K mg base 2 "nearer" ["cut", "bound"] false 2 D := by
  obtain ⟨hm, fd, Fd⟩ := T.fn 34 "nearer" Hd.s_nearer rfl
  refine ⟨fd, hm, Fd.kp, Fd.bindsN (fun _ _ _ _ _ _ us hl => match us, hl with | [_, _], _ => rfl), ?_⟩
  refine fnD Fd sc_nearer rfl (fun cdv A outer s H E hr => ?_)
  have nd := sc_nearer.nd
  have hu : (A.deeper (envOfC "nearer" (defScope Hd.s_nearer) s.heap.objs.size (He.ga K "nearer") cdv)).units + 64 < cLine := hr.units
  have hu5 : (A.deeper (envOfC "nearer" (defScope Hd.s_nearer) s.heap.objs.size (He.ga K "nearer") cdv)).units + 65 < cLine := by have := hr.un; omega
  have hu1 : (A.deeper (envOfC "nearer" (defScope Hd.s_nearer) s.heap.objs.size (He.ga K "nearer") cdv)).units + 1 < cLine := by have := hr.un; omega
  exact ⟨_, td_nearer D_within, (dss_cons (ds_asg (de_var (pv 0)) (dg_tup (n := 3) rfl (dgs_cons (dg_name (i := 2) nd rfl (.inl rfl)) (dgs_cons (dg_name (i := 3) nd rfl (.inl rfl)) (dgs_cons (dg_name (i := 4) nd rfl (.inl rfl)) dgs_nil))) (gl_cons (gl_cons (gl_cons gl_nil)))))
      (dss_cons (ds_set (i := 5) nd rfl (.inl rfl) (de_if (dt_cmp ob_is (de_var (pv 1)) de_non (nomark _)) de_int (de_callB (db_max2 rfl hu) (by rfl) (T.fr "max" (by decide +kernel)) bb_max (da_cons de_int (da_cons (de_op ob_sub (de_callB db_len (by rfl) (T.fr "len" (by decide +kernel)) bb_len (da_cons (de_ix (de_var (pv 1)) de_int (fun _ _ => rfl)) da_nil)) (de_callB db_len (by rfl) (T.fr "len" (by decide +kernel)) bb_len (da_cons (de_var (pv 3)) da_nil))) da_nil)))))
      (dss_one (ds_ret (de_tup (da_cons (de_var (pv 2)) (da_cons (de_callO c_within pm_within (hr.mono (by decide)) (by rfl) (da_cons (de_var (pv 3)) (da_cons (de_var (pv 5)) da_nil))) (da_cons (de_gtup (by rfl) (T.ct 6 "FINAL_TAIL" c_FINAL_TAIL rfl)) da_nil)))))))), hw⟩
end
end V

set_option Elab.async false
set_option linter.all false
set_option maxRecDepth 100000
set_option maxHeartbeats 8000000
namespace V
open PySem PySem.Spec PyProof.Rows L2 DL
section
variable {P : Program} {w : World} {K : PySem.W.Frag} {mg : Str → Option Value} {base : Heap}
/-! first_in -/
def N_first_in : List Str := ["span", "is_final", "low", "high", "found"]
theorem sc_first_in : FnScope N_first_in ["span", "is_final"] (defScope Hd.s_first_in) := ⟨rfl, rfl, rfl, by decide +kernel, rfl, by decide +kernel, by decide +kernel⟩
def td_first_in (D_is_after D_nearer D_following_key D_next_final D_next_forerunner : DX) : TDS := (dSeq (dAsg (dVar 0) (gdTup (gdCons (gdName 2) (gdCons (gdName 3) gdNil))))
  (dSeq (dIfS (dTest (dCall D_is_after (dCons (dVar 2) dNil))) (dSeq (dAsg (dCall D_nearer (dCons (dVar 2) (dCons (dVar 3) dNil))) (gdName 4))
  (dRet (dIf (dTest (dVar 1)) (dVar 4) (dCall D_following_key (dCons (dVar 4) dNil))))) dNext)
  (dSeq (dAsg (dIf (dTest (dVar 1)) (dCall D_next_final (dCons (dVar 2) dNil)) (dCall D_next_forerunner (dCons (dVar 2) dNil))) (gdName 4))
  (dRet (dIf (dOr (dTest (dOp isR (dVar 3) (dC .none))) (dTest (dOp ltR (dVar 4) (dVar 3)))) (dVar 4) (dC .none))))))
theorem ok_first_in (T : Txt K mg) {D_is_after D_nearer D_following_key D_next_final D_next_forerunner : DX} (pm_is_after : Pm 1 D_is_after) (c_is_after : Okd P w K mg base 1 "is_after" ["cut"] false 1 D_is_after) (pm_nearer : Pm 2 D_nearer) (c_nearer : Okd P w K mg base 2 "nearer" ["cut", "bound"] false 2 D_nearer) (pm_following_key : Pm 1 D_following_key) (c_following_key : Okd P w K mg base 2 "following_key" ["key"] false 1 D_following_key) (pm_next_final : Pm 1 D_next_final) (c_next_final : Okd P w K mg base 3 "next_final" ["key"] false 1 D_next_final) (pm_next_forerunner : Pm 1 D_next_forerunner) (c_next_forerunner : Okd P w K mg base 3 "next_forerunner" ["key"] false 1 D_next_forerunner) {D : DX} (hw : ∀ ds n Q, D ds n Q → td_first_in D_is_after D_nearer D_following_key D_next_final D_next_forerunner (ends Q) (entry false N_first_in ds n)) : Okd P w K mg base 4 "first_in" ["span", "is_final"] false 2 D := by
  obtain ⟨hm, fd, Fd⟩ := T.fn 35 "first_in" Hd.s_first_in rfl
  refine ⟨fd, hm, Fd.kp, Fd.bindsN (fun _ _ _ _ _ _ us hl => match us, hl with | [_, _], _ => rfl), ?_⟩
  refine fnD Fd sc_first_in rfl (fun cdv A outer s H E hr => ?_)
  have nd := sc_first_in.nd
  have hu : (A.deeper (envOfC "first_in" (defScope Hd.s_first_in) s.heap.objs.size (He.ga K "first_in") cdv)).units + 64 < cLine := hr.units
  have hu5 : (A.deeper (envOfC "first_in" (defScope Hd.s_first_in) s.heap.objs.size (He.ga K "first_in") cdv)).units + 65 < cLine := by have := hr.un; omega
  have hu1 : (A.deeper (envOfC "first_in" (defScope Hd.s_first_in) s.heap.objs.size (He.ga K "first_in") cdv)).units + 1 < cLine := by have := hr.un; omega
  exact ⟨_, td_first_in D_is_after D_nearer D_following_key D_next_final D_next_forerunner, (dss_cons (ds_asg (de_var (pv 0)) (dg_tup (n := 2) rfl (dgs_cons (dg_name (i := 2) nd rfl (.inl rfl)) (dgs_cons (dg_name (i := 3) nd rfl (.inl rfl)) dgs_nil)) (gl_cons (gl_cons gl_nil))))
      (dss_cons (ds_if (dt_val (de_callO c_is_after pm_is_after (hr.mono (by decide)) (by rfl) (da_cons (de_var (pv 2)) da_nil))) (dss_cons (ds_set (i := 4) nd rfl (.inl rfl) (de_callO c_nearer pm_nearer (hr.mono (by decide)) (by rfl) (da_cons (de_var (pv 2)) (da_cons (de_var (pv 3)) da_nil))))
      (dss_one (ds_ret (de_if (dt_val (de_var (pv 1))) (de_var (pv 4)) (de_callO c_following_key pm_following_key (hr.mono (by decide)) (by rfl) (da_cons (de_var (pv 4)) da_nil)))))) dss_nil)
      (dss_cons (ds_set (i := 4) nd rfl (.inl rfl) (de_if (dt_val (de_var (pv 1))) (de_callO c_next_final pm_next_final (hr.mono (by decide)) (by rfl) (da_cons (de_var (pv 2)) da_nil)) (de_callO c_next_forerunner pm_next_forerunner (hr.mono (by decide)) (by rfl) (da_cons (de_var (pv 2)) da_nil))))
      (dss_one (ds_ret (de_if (DW.dt (dw_or (dt_cmp ob_is (de_var (pv 3)) de_non (nomark _)) (dw_or1 (dt_cmp (ob_lt hu) (de_var (pv 4)) (de_var (pv 3)) (nomark _))))) (de_var (pv 4)) de_non)))))), hw⟩
/-! above -/
def N_above : List Str := ["span", "bound", "is_final", "low", "high", "start"]
theorem sc_above : FnScope N_above ["span", "bound", "is_final"] (defScope Hd.s_above) := ⟨rfl, rfl, rfl, by decide +kernel, rfl, by decide +kernel, by decide +kernel⟩
def td_above (D_following_key D_first_in : DX) : TDS := (dSeq (dAsg (dVar 0) (gdTup (gdCons (gdName 3) (gdCons (gdName 4) gdNil))))
  (dSeq (dIfS (dAnd (dTest (dOp isntR (dVar 4) (dC .none))) (dTest (dOp leR (dVar 4) (dVar 1)))) (dRet (dC .none)) dNext)
  (dSeq (dAsg (dIf (dTest (dOp gtR (dVar 3) (dVar 1))) (dVar 3) (dCall D_following_key (dCons (dVar 1) dNil))) (gdName 5))
  (dSeq (dIfS (dAnd (dTest (dOp isntR (dVar 4) (dC .none))) (dTest (dOp leR (dVar 4) (dVar 5)))) (dRet (dC .none)) dNext)
  (dRet (dCall D_first_in (dCons (dTup (dCons (dVar 5) (dCons (dVar 4) dNil))) (dCons (dVar 2) dNil))))))))
theorem ok_above (T : Txt K mg) {D_following_key D_first_in : DX} (pm_following_key : Pm 1 D_following_key) (c_following_key : Okd P w K mg base 2 "following_key" ["key"] false 1 D_following_key) (pm_first_in : Pm 2 D_first_in) (c_first_in : Okd P w K mg base 4 "first_in" ["span", "is_final"] false 2 D_first_in) {D : DX} (hw : ∀ ds n Q, D ds n Q → td_above D_following_key D_first_in (ends Q) (entry false N_above ds n)) : Okd P w K mg base 5 "above" ["span", "bound", "is_final"] false 3 D := by
  obtain ⟨hm, fd, Fd⟩ := T.fn 36 "above" Hd.s_above rfl
  refine ⟨fd, hm, Fd.kp, Fd.bindsN (fun _ _ _ _ _ _ us hl => match us, hl with | [_, _, _], _ => rfl), ?_⟩
  refine fnD Fd sc_above rfl (fun cdv A outer s H E hr => ?_)
  have nd := sc_above.nd
  have hu : (A.deeper (envOfC "above" (defScope Hd.s_above) s.heap.objs.size (He.ga K "above") cdv)).units + 64 < cLine := hr.units
  have hu5 : (A.deeper (envOfC "above" (defScope Hd.s_above) s.heap.objs.size (He.ga K "above") cdv)).units + 65 < cLine := by have := hr.un; omega
  have hu1 : (A.deeper (envOfC "above" (defScope Hd.s_above) s.heap.objs.size (He.ga K "above") cdv)).units + 1 < cLine := by have := hr.un; omega
  exact ⟨_, td_above D_following_key D_first_in, (dss_cons (ds_asg (de_var (pv 0)) (dg_tup (n := 2) rfl (dgs_cons (dg_name (i := 3) nd rfl (.inl rfl)) (dgs_cons (dg_name (i := 4) nd rfl (.inl rfl)) dgs_nil)) (gl_cons (gl_cons gl_nil))))
      (dss_cons (ds_if (DW.dt (dw_and (dt_cmp ob_isnt (de_var (pv 4)) de_non (nomark _)) (dw_and1 (dt_cmp (ob_le hu) (de_var (pv 4)) (de_var (pv 1)) (nomark _))))) (dss_one (ds_ret de_non)) dss_nil)
      (dss_cons (ds_set (i := 5) nd rfl (.inl rfl) (de_if (dt_cmp (ob_gt hu) (de_var (pv 3)) (de_var (pv 1)) (nomark _)) (de_var (pv 3)) (de_callO c_following_key pm_following_key (hr.mono (by decide)) (by rfl) (da_cons (de_var (pv 1)) da_nil))))
      (dss_cons (ds_if (DW.dt (dw_and (dt_cmp ob_isnt (de_var (pv 4)) de_non (nomark _)) (dw_and1 (dt_cmp (ob_le hu) (de_var (pv 4)) (de_var (pv 5)) (nomark _))))) (dss_one (ds_ret de_non)) dss_nil)
      (dss_one (ds_ret (de_callO c_first_in pm_first_in (hr.mono (by decide)) (by rfl) (da_cons (de_tup (da_cons (de_var (pv 5)) (da_cons (de_var (pv 4)) da_nil))) (da_cons (de_var (pv 2)) da_nil))))))))), hw⟩
/-! pair_above -/
def N_pair_above : List Str := ["lower", "is_final", "upper", "is_upper_final", "span", "found", "first", "some", "other", "key"]
theorem sc_pair_above : FnScope N_pair_above ["lower", "is_final", "upper", "is_upper_final"] (defScope Hd.s_pair_above) := ⟨rfl, rfl, rfl, by decide +kernel, rfl, by decide +kernel, by decide +kernel⟩
def td_pair_above (D_is_after D_pair_behind D_first_in D_above : DX) : TDS := (dSeq (dFor (diL (dVar 0)) (gdName 4) (dSeq (dIfS (dTest (dCall D_is_after (dCons (dOp ixR (dVar 4) (dC (.int 0))) dNil))) (dAsg (dCall D_pair_behind (dCons (dVar 4) (dCons (dVar 1) (dCons (dVar 2) (dCons (dVar 3) dNil))))) (gdName 5)) (dSeq (dAsg (dCall D_first_in (dCons (dVar 4) (dCons (dVar 1) dNil))) (gdName 6))
  (dSeq (dAsg (dIf (dTest (dOp isR (dVar 6) (dC .none))) (dLst dNil) (dFrz (dLc (diL (dVar 2)) (gdName 8) dYes (dCall D_above (dCons (dVar 8) (dCons (dVar 6) (dCons (dVar 3) dNil)))) [8]))) (gdName 7))
  (dSeq (dAsg (dFrz (dLc (diL (dVar 7)) (gdName 9) (dTest (dOp isntR (dVar 9) (dC .none))) (dVar 9) [9])) (gdName 7))
  (dAsg (dIf (dTest (dOp neR (dVar 7) (dLst dNil))) (dTup (dCons (dVar 6) (dCons (dOp ixR (dVar 7) (dC (.int 0))) dNil))) (dC .none)) (gdName 5))))))
  (dIfS (dTest (dOp isntR (dVar 5) (dC .none))) (dRet (dVar 5)) dNext)))
  (dRet (dC .none)))
theorem ok_pair_above (T : Txt K mg) {D_is_after D_pair_behind D_first_in D_above : DX} (pm_is_after : Pm 1 D_is_after) (c_is_after : Okd P w K mg base 1 "is_after" ["cut"] false 1 D_is_after) (pm_pair_behind : Pm 4 D_pair_behind) (c_pair_behind : Okd P w K mg base 5 "pair_behind" ["span", "is_final", "upper", "is_upper_final"] false 4 D_pair_behind) (pm_first_in : Pm 2 D_first_in) (c_first_in : Okd P w K mg base 4 "first_in" ["span", "is_final"] false 2 D_first_in) (pm_above : Pm 3 D_above) (c_above : Okd P w K mg base 5 "above" ["span", "bound", "is_final"] false 3 D_above) {D : DX} (hw : ∀ ds n Q, D ds n Q → td_pair_above D_is_after D_pair_behind D_first_in D_above (ends Q) (entry false N_pair_above ds n)) : Okd P w K mg base 6 "pair_above" ["lower", "is_final", "upper", "is_upper_final"] false 4 D := by
  obtain ⟨hm, fd, Fd⟩ := T.fn 37 "pair_above" Hd.s_pair_above rfl
  refine ⟨fd, hm, Fd.kp, Fd.bindsN (fun _ _ _ _ _ _ us hl => match us, hl with | [_, _, _, _], _ => rfl), ?_⟩
  refine fnD Fd sc_pair_above rfl (fun cdv A outer s H E hr => ?_)
  have nd := sc_pair_above.nd
  have hu : (A.deeper (envOfC "pair_above" (defScope Hd.s_pair_above) s.heap.objs.size (He.ga K "pair_above") cdv)).units + 64 < cLine := hr.units
  have hu5 : (A.deeper (envOfC "pair_above" (defScope Hd.s_pair_above) s.heap.objs.size (He.ga K "pair_above") cdv)).units + 65 < cLine := by have := hr.un; omega
  have hu1 : (A.deeper (envOfC "pair_above" (defScope Hd.s_pair_above) s.heap.objs.size (He.ga K "pair_above") cdv)).units + 1 < cLine := by have := hr.un; omega
  exact ⟨_, td_pair_above D_is_after D_pair_behind D_first_in D_above, (dss_cons (ds_for PassesOwn.never rfl (di_list (de_var (pv 0))) (dg_name (i := 4) nd rfl (.inl rfl)) (dss_cons (ds_if (dt_val (de_callO c_is_after pm_is_after (hr.mono (by decide)) (by rfl) (da_cons (de_ix (de_var (pv 4)) de_int (fun _ _ => rfl)) da_nil))) (dss_one (ds_set (i := 5) nd rfl (.inl rfl) (de_callO c_pair_behind pm_pair_behind (hr.mono (by decide)) (by rfl) (da_cons (de_var (pv 4)) (da_cons (de_var (pv 1)) (da_cons (de_var (pv 2)) (da_cons (de_var (pv 3)) da_nil))))))) (dss_cons (ds_set (i := 6) nd rfl (.inr rfl) (de_callO c_first_in pm_first_in (hr.mono (by decide)) (by rfl) (da_cons (de_var (pv 4)) (da_cons (de_var (pv 1)) da_nil))))
      (dss_cons (ds_set (i := 7) nd rfl (.inl rfl) (de_if (dt_cmp ob_is (de_var (pv 6)) de_non (nomark _)) (de_lst da_nil) (DF.frz (df_lc (own := [("other", 8)]) (te := (tCall (spD K false 3 D_above) [] E0 (tCons (tVar 8) (tCons (tVar 6) (tCons (tVar 3) tNil))))) (tt := tYes) (g := (gName 8)) rfl nd (di_list (de_var (pv 2))) (blkOk_by (own := [("other", 8)]) (by kernel_rfl)) (fun _ _ _ _ _ => (dg_name (i := 8) nd rfl (.inl rfl))) (fun _ _ _ _ _ => dts_nil) (fun _ _ _ _ _ => (de_callO c_above pm_above (hr.mono (by decide)) (by rfl) (da_cons (de_var (pv 8)) (da_cons (de_var (pv 6)) (da_cons (de_var (pv 3)) da_nil))))) (by decide)))))
      (dss_cons (ds_setLc (i := 7) (own := [("key", 9)]) (te := (tVar 9)) (tt := (tTest (tOp (fun x y H Q => y = .non ∧ Q (.bl (!decide (x = .non))) H) (tVar 9) (tC .non)))) (g := (gName 9)) rfl nd rfl rfl (sw_true rfl rfl rfl (by kernel_rfl)) (di_list (de_var (pv 7))) (blkOk_by (own := [("key", 9)]) (by kernel_rfl)) (fun _ _ _ _ _ => (dg_name (i := 9) nd rfl (.inl rfl))) (fun _ _ _ _ _ => (dts_one (dt_cmp ob_isnt (de_var (pv 9)) de_non (nomark _)))) (fun _ _ _ _ _ => (de_var (pv 9))) (by decide))
      (dss_one (ds_set (i := 5) nd rfl (.inl rfl) (de_if (dt_cmp (ob_ne hu) (de_var (pv 7)) (de_lst da_nil) (nomark _)) (de_tup (da_cons (de_var (pv 6)) (da_cons (de_ix (de_var (pv 7)) de_int (fun _ _ => rfl)) da_nil))) de_non)))))))
      (dss_one (ds_if (dt_cmp ob_isnt (de_var (pv 5)) de_non (nomark _)) (dss_one (ds_ret (de_var (pv 5)))) dss_nil))))
      (dss_one (ds_ret de_non))), hw⟩
/-! pair_behind -/
def N_pair_behind : List Str := ["span", "is_final", "upper", "is_upper_final", "other", "low", "high", "start", "second", "bound", "first"]
theorem sc_pair_behind : FnScope N_pair_behind ["span", "is_final", "upper", "is_upper_final"] (defScope Hd.s_pair_behind) := ⟨rfl, rfl, rfl, by decide +kernel, rfl, by decide +kernel, by decide +kernel⟩
def td_pair_behind (D_first_in D_nearer D_lesser_forerunner : DX) : TDS := (dSeq (dFor (diL (dVar 2)) (gdName 4) (dSeq (dAsg (dVar 4) (gdTup (gdCons (gdName 5) (gdCons (gdName 6) gdNil))))
  (dSeq (dIfS (dAnd (dTest (dOp isntR (dVar 6) (dC .none))) (dTest (dOp leR (dVar 6) (dOp ixR (dVar 0) (dC (.int 0)))))) dCont dNext)
  (dSeq (dAsg (dIf (dTest (dOp gtR (dVar 5) (dOp ixR (dVar 0) (dC (.int 0))))) (dVar 5) (dOp ixR (dVar 0) (dC (.int 0)))) (gdName 7))
  (dSeq (dAsg (dCall D_first_in (dCons (dTup (dCons (dVar 7) (dCons (dVar 6) dNil))) (dCons (dVar 3) dNil))) (gdName 8))
  (dIfS (dTest (dOp isntR (dVar 8) (dC .none))) (dSeq (dAsg (dIf (dOr (dTest (dOp isR (dOp ixR (dVar 0) (dC (.int 1))) (dC .none))) (dTest (dOp ltR (dVar 8) (dOp ixR (dVar 0) (dC (.int 1)))))) (dVar 8) (dOp ixR (dVar 0) (dC (.int 1)))) (gdName 9))
  (dSeq (dAsg (dCall D_nearer (dCons (dOp ixR (dVar 0) (dC (.int 0))) (dCons (dVar 9) dNil))) (gdName 10))
  (dRet (dTup (dCons (dIf (dTest (dVar 1)) (dVar 10) (dCall D_lesser_forerunner (dCons (dOp ixR (dVar 0) (dC (.int 0))) (dCons (dVar 9) dNil)))) (dCons (dVar 8) dNil)))))) dNext))))))
  (dRet (dC .none)))
theorem ok_pair_behind (T : Txt K mg) {D_first_in D_nearer D_lesser_forerunner : DX} (pm_first_in : Pm 2 D_first_in) (c_first_in : Okd P w K mg base 4 "first_in" ["span", "is_final"] false 2 D_first_in) (pm_nearer : Pm 2 D_nearer) (c_nearer : Okd P w K mg base 2 "nearer" ["cut", "bound"] false 2 D_nearer) (pm_lesser_forerunner : Pm 2 D_lesser_forerunner) (c_lesser_forerunner : Okd P w K mg base 3 "lesser_forerunner" ["cut", "bound"] false 2 D_lesser_forerunner) {D : DX} (hw : ∀ ds n Q, D ds n Q → td_pair_behind D_first_in D_nearer D_lesser_forerunner (ends Q) (entry false N_pair_behind ds n)) : Okd P w K mg base 5 "pair_behind" ["span", "is_final", "upper", "is_upper_final"] false 4 D := by
  obtain ⟨hm, fd, Fd⟩ := T.fn 38 "pair_behind" Hd.s_pair_behind rfl
  refine ⟨fd, hm, Fd.kp, Fd.bindsN (fun _ _ _ _ _ _ us hl => match us, hl with | [_, _, _, _], _ => rfl), ?_⟩
  refine fnD Fd sc_pair_behind rfl (fun cdv A outer s H E hr => ?_)
  have nd := sc_pair_behind.nd
  have hu : (A.deeper (envOfC "pair_behind" (defScope Hd.s_pair_behind) s.heap.objs.size (He.ga K "pair_behind") cdv)).units + 64 < cLine := hr.units
  have hu5 : (A.deeper (envOfC "pair_behind" (defScope Hd.s_pair_behind) s.heap.objs.size (He.ga K "pair_behind") cdv)).units + 65 < cLine := by have := hr.un; omega
  have hu1 : (A.deeper (envOfC "pair_behind" (defScope Hd.s_pair_behind) s.heap.objs.size (He.ga K "pair_behind") cdv)).units + 1 < cLine := by have := hr.un; omega
  exact ⟨_, td_pair_behind D_first_in D_nearer D_lesser_forerunner, (dss_cons (ds_for PassesOwn.never rfl (di_list (de_var (pv 2))) (dg_name (i := 4) nd rfl (.inl rfl)) (dss_cons (ds_asg (de_var (pv 4)) (dg_tup (n := 2) rfl (dgs_cons (dg_name (i := 5) nd rfl (.inl rfl)) (dgs_cons (dg_name (i := 6) nd rfl (.inl rfl)) dgs_nil)) (gl_cons (gl_cons gl_nil))))
      (dss_cons (ds_if (DW.dt (dw_and (dt_cmp ob_isnt (de_var (pv 6)) de_non (nomark _)) (dw_and1 (dt_cmp (ob_le hu) (de_var (pv 6)) (de_ix (de_var (pv 0)) de_int (fun _ _ => rfl)) (nomark _))))) (dss_one ds_cont) dss_nil)
      (dss_cons (ds_set (i := 7) nd rfl (.inl rfl) (de_if (dt_cmp (ob_gt hu) (de_var (pv 5)) (de_ix (de_var (pv 0)) de_int (fun _ _ => rfl)) (nomark _)) (de_var (pv 5)) (de_ix (de_var (pv 0)) de_int (fun _ _ => rfl))))
      (dss_cons (ds_set (i := 8) nd rfl (.inl rfl) (de_callO c_first_in pm_first_in (hr.mono (by decide)) (by rfl) (da_cons (de_tup (da_cons (de_var (pv 7)) (da_cons (de_var (pv 6)) da_nil))) (da_cons (de_var (pv 3)) da_nil))))
      (dss_one (ds_if (dt_cmp ob_isnt (de_var (pv 8)) de_non (nomark _)) (dss_cons (ds_set (i := 9) nd rfl (.inl rfl) (de_if (DW.dt (dw_or (dt_cmp ob_is (de_ix (de_var (pv 0)) de_int (fun _ _ => rfl)) de_non (nomark _)) (dw_or1 (dt_cmp (ob_lt hu) (de_var (pv 8)) (de_ix (de_var (pv 0)) de_int (fun _ _ => rfl)) (nomark _))))) (de_var (pv 8)) (de_ix (de_var (pv 0)) de_int (fun _ _ => rfl))))
      (dss_cons (ds_set (i := 10) nd rfl (.inl rfl) (de_callO c_nearer pm_nearer (hr.mono (by decide)) (by rfl) (da_cons (de_ix (de_var (pv 0)) de_int (fun _ _ => rfl)) (da_cons (de_var (pv 9)) da_nil))))
      (dss_one (ds_ret (de_tup (da_cons (de_if (dt_val (de_var (pv 1))) (de_var (pv 10)) (de_callO c_lesser_forerunner pm_lesser_forerunner (hr.mono (by decide)) (by rfl) (da_cons (de_ix (de_var (pv 0)) de_int (fun _ _ => rfl)) (da_cons (de_var (pv 9)) da_nil)))) (da_cons (de_var (pv 8)) da_nil))))))) dss_nil)))))))
      (dss_one (ds_ret de_non))), hw⟩
/-! lesser_forerunner -/
def N_lesser_forerunner : List Str := ["cut", "bound", "epoch", "base", "tail"]
theorem sc_lesser_forerunner : FnScope N_lesser_forerunner ["cut", "bound"] (defScope Hd.s_lesser_forerunner) := ⟨rfl, rfl, rfl, by decide +kernel, rfl, by decide +kernel, by decide +kernel⟩
def td_lesser_forerunner (D_nearer : DX) : TDS := (dSeq (dAsg (dCall D_nearer (dCons (dVar 0) (dCons (dVar 1) dNil))) (gdTup (gdCons (gdName 2) (gdCons (gdName 3) (gdCons (gdName 4) gdNil)))))
  (dRet (dTup (dCons (dVar 2) (dCons (dVar 3) (dCons (dTup (dCons (dC (.int 0)) (dCons (dC (.int 0)) dNil))) dNil))))))
theorem ok_lesser_forerunner (T : Txt K mg) {D_nearer : DX} (pm_nearer : Pm 2 D_nearer) (c_nearer : Okd P w K mg base 2 "nearer" ["cut", "bound"] false 2 D_nearer) {D : DX} (hw : ∀ ds n Q, D ds n Q → td_lesser_forerunner D_nearer (ends Q) (entry false N_lesser_forerunner ds n)) : Okd P w K mg base 3 "lesser_forerunner" ["cut", "bound"] false 2 D := by
  obtain ⟨hm, fd, Fd⟩ := T.fn 39 "lesser_forerunner" Hd.s_lesser_forerunner rfl
  refine ⟨fd, hm, Fd.kp, Fd.bindsN (fun _ _ _ _ _ _ us hl => match us, hl with | [_, _], _ => rfl), ?_⟩
  refine fnD Fd sc_lesser_forerunner rfl (fun cdv A outer s H E hr => ?_)
  have nd := sc_lesser_forerunner.nd
  have hu : (A.deeper (envOfC "lesser_forerunner" (defScope Hd.s_lesser_forerunner) s.heap.objs.size (He.ga K "lesser_forerunner") cdv)).units + 64 < cLine := hr.units
  have hu5 : (A.deeper (envOfC "lesser_forerunner" (defScope Hd.s_lesser_forerunner) s.heap.objs.size (He.ga K "lesser_forerunner") cdv)).units + 65 < cLine := by have := hr.un; omega
  have hu1 : (A.deeper (envOfC "lesser_forerunner" (defScope Hd.s_lesser_forerunner) s.heap.objs.size (He.ga K "lesser_forerunner") cdv)).units + 1 < cLine := by have := hr.un; omega
  exact ⟨_, td_lesser_forerunner D_nearer, (dss_cons (ds_asg (de_callO c_nearer pm_nearer (hr.mono (by decide)) (by rfl) (da_cons (de_var (pv 0)) (da_cons (de_var (pv 1)) da_nil))) (dg_tup (n := 3) rfl (dgs_cons (dg_name (i := 2) nd rfl (.inl rfl)) (dgs_cons (dg_name (i := 3) nd rfl (.inl rfl)) (dgs_cons (dg_name (i := 4) nd rfl (.inl rfl)) dgs_nil))) (gl_cons (gl_cons (gl_cons gl_nil)))))
      (dss_one (ds_ret (de_tup (da_cons (de_var (pv 2)) (da_cons (de_var (pv 3)) (da_cons (de_tup (da_cons de_int (da_cons de_int da_nil))) da_nil))))))), hw⟩
/-! shown -/
def N_shown : List Str := ["keys", "key"]
theorem sc_shown : FnScope N_shown ["keys"] (defScope Hd.s_shown) := ⟨rfl, rfl, rfl, by decide +kernel, rfl, by decide +kernel, by decide +kernel⟩
def td_shown (D_text_of : DX) : TDS := (dRet (dCB tupR1 (dCons (dFrz (dLc (diT (dVar 0)) (gdName 1) dYes (dTup (dCons (dCall D_text_of (dCons (dVar 1) dNil)) (dCons (dC (.bool false)) dNil))) [1])) dNil)))
theorem ok_shown (T : Txt K mg) {D_text_of : DX} (pm_text_of : Pm 1 D_text_of) (c_text_of : Okd P w K mg base 2 "text_of" ["key"] false 1 D_text_of) {D : DX} (hw : ∀ ds n Q, D ds n Q → td_shown D_text_of (ends Q) (entry false N_shown ds n)) : Okd P w K mg base 3 "shown" ["keys"] false 1 D := by
  obtain ⟨hm, fd, Fd⟩ := T.fn 40 "shown" Hd.s_shown rfl
  refine ⟨fd, hm, Fd.kp, Fd.bindsN (fun _ _ _ _ _ _ us hl => match us, hl with | [_], _ => rfl), ?_⟩
  refine fnD Fd sc_shown rfl (fun cdv A outer s H E hr => ?_)
  have nd := sc_shown.nd
  have hu : (A.deeper (envOfC "shown" (defScope Hd.s_shown) s.heap.objs.size (He.ga K "shown") cdv)).units + 64 < cLine := hr.units
  have hu5 : (A.deeper (envOfC "shown" (defScope Hd.s_shown) s.heap.objs.size (He.ga K "shown") cdv)).units + 65 < cLine := by have := hr.un; omega
  have hu1 : (A.deeper (envOfC "shown" (defScope Hd.s_shown) s.heap.objs.size (He.ga K "shown") cdv)).units + 1 < cLine := by have := hr.un; omega
  exact ⟨_, td_shown D_text_of, (dss_one (ds_ret (de_callTy (db_tuple rfl) (by rfl) (T.fr "tuple" (by decide +kernel)) bb_tuple (da_cons (DF.frz (df_lc (own := [("key", 1)]) (te := (tTup (tCons (tCall (spD K false 1 D_text_of) [] E0 (tCons (tVar 1) tNil)) (tCons (tC (.bl false)) tNil)))) (tt := tYes) (g := (gName 1)) rfl nd (di_tup (de_var (pv 0))) (blkOk_by (own := [("key", 1)]) (by kernel_rfl)) (fun _ _ _ _ _ => (dg_name (i := 1) nd rfl (.inl rfl))) (fun _ _ _ _ _ => dts_nil) (fun _ _ _ _ _ => (de_tup (da_cons (de_callO c_text_of pm_text_of (hr.mono (by decide)) (by rfl) (da_cons (de_var (pv 1)) da_nil)) (da_cons de_bl da_nil)))) (by decide))) da_nil)))), hw⟩
/-! is_naming_felt -/
def N_is_naming_felt : List Str := ["spans"]
theorem sc_is_naming_felt : FnScope N_is_naming_felt ["spans"] (defScope Hd.s_is_naming_felt) := ⟨rfl, rfl, rfl, by decide +kernel, rfl, by decide +kernel, by decide +kernel⟩
def td_is_naming_felt (D_pair_above : DX) : TDS := (dRet (dCall D_pair_above (dCons (dVar 0) (dCons (dC (.bool true)) (dCons (dVar 0) (dCons (dC (.bool false)) dNil))))))
theorem ok_is_naming_felt (T : Txt K mg) {D_pair_above : DX} (pm_pair_above : Pm 4 D_pair_above) (c_pair_above : Okd P w K mg base 6 "pair_above" ["lower", "is_final", "upper", "is_upper_final"] false 4 D_pair_above) {D : DX} (hw : ∀ ds n Q, D ds n Q → td_is_naming_felt D_pair_above (ends Q) (entry false N_is_naming_felt ds n)) : Okd P w K mg base 7 "is_naming_felt" ["spans"] false 1 D := by
  obtain ⟨hm, fd, Fd⟩ := T.fn 41 "is_naming_felt" Hd.s_is_naming_felt rfl
  refine ⟨fd, hm, Fd.kp, Fd.bindsN (fun _ _ _ _ _ _ us hl => match us, hl with | [_], _ => rfl), ?_⟩
  refine fnD Fd sc_is_naming_felt rfl (fun cdv A outer s H E hr => ?_)
  have nd := sc_is_naming_felt.nd
  have hu : (A.deeper (envOfC "is_naming_felt" (defScope Hd.s_is_naming_felt) s.heap.objs.size (He.ga K "is_naming_felt") cdv)).units + 64 < cLine := hr.units
  have hu5 : (A.deeper (envOfC "is_naming_felt" (defScope Hd.s_is_naming_felt) s.heap.objs.size (He.ga K "is_naming_felt") cdv)).units + 65 < cLine := by have := hr.un; omega
  have hu1 : (A.deeper (envOfC "is_naming_felt" (defScope Hd.s_is_naming_felt) s.heap.objs.size (He.ga K "is_naming_felt") cdv)).units + 1 < cLine := by have := hr.un; omega
  exact ⟨_, td_is_naming_felt D_pair_above, (dss_one (ds_ret (de_callO c_pair_above pm_pair_above (hr.mono (by decide)) (by rfl) (da_cons (de_var (pv 0)) (da_cons de_bl (da_cons (de_var (pv 0)) (da_cons de_bl da_nil))))))), hw⟩
end
end V

set_option Elab.async false
set_option linter.all false
set_option maxRecDepth 100000
set_option maxHeartbeats 8000000
namespace V
open PySem PySem.Spec PyProof.Rows L2 DL
section
variable {P : Program} {w : World} {K : PySem.W.Frag} {mg : Str → Option Value} {base : Heap}
/-! falling -/
def N_falling : List Str := ["requirement", "pair"]
theorem sc_falling : FnScope N_falling ["requirement"] (defScope Hd.s_falling) := ⟨rfl, rfl, rfl, by decide +kernel, rfl, by decide +kernel, by decide +kernel⟩
def td_falling (D_is_naming_felt D_spans_of D_need_requirement D_names_of D_shown : DX) : TDS := (dSeq (dAsg (dCall D_is_naming_felt (dCons (dCall D_spans_of (dCons (dCall D_need_requirement (dCons (dVar 0) dNil)) dNil)) dNil)) (gdName 1))
  (dSeq (dIfS (dOr (dTest (dCall D_names_of (dCons (dVar 0) dNil))) (dTest (dOp isR (dVar 1) (dC .none)))) (dRet (dC .none)) dNext)
  (dRet (dTup (dCons (dCall D_shown (dCons (dSl (dVar 1) (dPart (dC (.int 1))) dNoPart) dNil)) (dCons (dCall D_shown (dCons (dRevT (dVar 1)) dNil)) dNil))))))
theorem ok_falling (T : Txt K mg) {D_is_naming_felt D_spans_of D_need_requirement D_names_of D_shown : DX} (pm_is_naming_felt : Pm 1 D_is_naming_felt) (c_is_naming_felt : Okd P w K mg base 7 "is_naming_felt" ["spans"] false 1 D_is_naming_felt) (pm_spans_of : Pm 1 D_spans_of) (c_spans_of : Okd P w K mg base 8 "spans_of" ["requirement"] false 1 D_spans_of) (pm_need_requirement : Pm 1 D_need_requirement) (c_need_requirement : Okd P w K mg base 6 "need_requirement" ["thing"] false 1 D_need_requirement) (pm_names_of : Pm 1 D_names_of) (c_names_of : Okd P w K mg base 6 "names_of" ["requirement"] false 1 D_names_of) (pm_shown : Pm 1 D_shown) (c_shown : Okd P w K mg base 3 "shown" ["keys"] false 1 D_shown) {D : DX} (hw : ∀ ds n Q, D ds n Q → td_falling D_is_naming_felt D_spans_of D_need_requirement D_names_of D_shown (ends Q) (entry false N_falling ds n)) : Okd P w K mg base 9 "falling" ["requirement"] false 1 D := by
  obtain ⟨hm, fd, Fd⟩ := T.fn 42 "falling" Hd.s_falling rfl
  refine ⟨fd, hm, Fd.kp, Fd.bindsN (fun _ _ _ _ _ _ us hl => match us, hl with | [_], _ => rfl), ?_⟩
  refine fnD Fd sc_falling rfl (fun cdv A outer s H E hr => ?_)
  have nd := sc_falling.nd
  have hu : (A.deeper (envOfC "falling" (defScope Hd.s_falling) s.heap.objs.size (He.ga K "falling") cdv)).units + 64 < cLine := hr.units
  have hu5 : (A.deeper (envOfC "falling" (defScope Hd.s_falling) s.heap.objs.size (He.ga K "falling") cdv)).units + 65 < cLine := by have := hr.un; omega
  have hu1 : (A.deeper (envOfC "falling" (defScope Hd.s_falling) s.heap.objs.size (He.ga K "falling") cdv)).units + 1 < cLine := by have := hr.un; omega
  exact ⟨_, td_falling D_is_naming_felt D_spans_of D_need_requirement D_names_of D_shown, (dss_cons (ds_set (i := 1) nd rfl (.inl rfl) (de_callO c_is_naming_felt pm_is_naming_felt (hr.mono (by decide)) (by rfl) (da_cons (de_callO c_spans_of pm_spans_of (hr.mono (by decide)) (by rfl) (da_cons (de_callO c_need_requirement pm_need_requirement (hr.mono (by decide)) (by rfl) (da_cons (de_var (pv 0)) da_nil)) da_nil)) da_nil)))
      (dss_cons (ds_if (DW.dt (dw_or (dt_val (de_callO c_names_of pm_names_of (hr.mono (by decide)) (by rfl) (da_cons (de_var (pv 0)) da_nil))) (dw_or1 (dt_cmp ob_is (de_var (pv 1)) de_non (nomark _))))) (dss_one (ds_ret de_non)) dss_nil)
      (dss_one (ds_ret (de_tup (da_cons (de_callO c_shown pm_shown (hr.mono (by decide)) (by rfl) (da_cons (de_sl (de_var (pv 1)) (do_some de_int) do_none) da_nil)) (da_cons (de_callO c_shown pm_shown (hr.mono (by decide)) (by rfl) (da_cons (de_revT (de_var (pv 1))) da_nil)) da_nil))))))), hw⟩
/-! is_rising -/
def N_is_rising : List Str := ["requirement"]
theorem sc_is_rising : FnScope N_is_rising ["requirement"] (defScope Hd.s_is_rising) := ⟨rfl, rfl, rfl, by decide +kernel, rfl, by decide +kernel, by decide +kernel⟩
def td_is_rising (D_falling : DX) : TDS := (dRet (dOp isR (dCall D_falling (dCons (dVar 0) dNil)) (dC .none)))
theorem ok_is_rising (T : Txt K mg) {D_falling : DX} (pm_falling : Pm 1 D_falling) (c_falling : Okd P w K mg base 9 "falling" ["requirement"] false 1 D_falling) {D : DX} (hw : ∀ ds n Q, D ds n Q → td_is_rising D_falling (ends Q) (entry false N_is_rising ds n)) : Okd P w K mg base 10 "is_rising" ["requirement"] false 1 D := by
  obtain ⟨hm, fd, Fd⟩ := T.fn 43 "is_rising" Hd.s_is_rising rfl
  refine ⟨fd, hm, Fd.kp, Fd.bindsN (fun _ _ _ _ _ _ us hl => match us, hl with | [_], _ => rfl), ?_⟩
  refine fnD Fd sc_is_rising rfl (fun cdv A outer s H E hr => ?_)
  have nd := sc_is_rising.nd
  have hu : (A.deeper (envOfC "is_rising" (defScope Hd.s_is_rising) s.heap.objs.size (He.ga K "is_rising") cdv)).units + 64 < cLine := hr.units
  have hu5 : (A.deeper (envOfC "is_rising" (defScope Hd.s_is_rising) s.heap.objs.size (He.ga K "is_rising") cdv)).units + 65 < cLine := by have := hr.un; omega
  have hu1 : (A.deeper (envOfC "is_rising" (defScope Hd.s_is_rising) s.heap.objs.size (He.ga K "is_rising") cdv)).units + 1 < cLine := by have := hr.un; omega
  exact ⟨_, td_is_rising D_falling, (dss_one (ds_ret (de_cmp ob_is (de_callO c_falling pm_falling (hr.mono (by decide)) (by rfl) (da_cons (de_var (pv 0)) da_nil)) de_non (nomark _)))), hw⟩
/-! _law_mixed -/
def N_law_mixed : List Str := ["cell", "k"]
theorem sc_law_mixed : FnScope N_law_mixed ["cell", "k"] (defScope Hd.s_law_mixed) := ⟨rfl, rfl, rfl, by decide +kernel, rfl, by decide +kernel, by decide +kernel⟩
def td_law_mixed : TDS := (dSeq (dAsg (dOp modR (dCB intR1 (dCons (dVar 0) dNil)) (dC (.int 2147483647))) (gdName 0))
  (dRet (dOp modR (dOp mulR (dOp modR (dOp addR (dOp addR (dOp mulR (dVar 0) (dOp addR (dC (.int 48271)) (dOp mulR (dOp mulR (dC (.int 2)) (dVar 1)) (dVar 1)))) (dOp mulR (dC (.int 69621)) (dVar 1))) (dC (.int 11))) (dC (.int 2147483647))) (dC (.int 69621))) (dC (.int 2147483629)))))
theorem ok_law_mixed (T : Txt K mg)  {D : DX} (hw : ∀ ds n Q, D ds n Q → td_law_mixed  (ends Q) (entry false N_law_mixed ds n)) : Okd P w K mg base 1 "_law_mixed" ["cell", "k"] false 2 D := by
  obtain ⟨hm, fd, Fd⟩ := T.fn 44 "_law_mixed" Hd.s_law_mixed rfl
  refine ⟨fd, hm, Fd.kp, Fd.bindsN (fun _ _ _ _ _ _ us hl => match us, hl with | [_, _], _ => rfl), ?_⟩
  refine fnD Fd sc_law_mixed rfl (fun cdv A outer s H E hr => ?_)
  have nd := sc_law_mixed.nd
  have hu : (A.deeper (envOfC "_law_mixed" (defScope Hd.s_law_mixed) s.heap.objs.size (He.ga K "_law_mixed") cdv)).units + 64 < cLine := hr.units
  have hu5 : (A.deeper (envOfC "_law_mixed" (defScope Hd.s_law_mixed) s.heap.objs.size (He.ga K "_law_mixed") cdv)).units + 65 < cLine := by have := hr.un; omega
  have hu1 : (A.deeper (envOfC "_law_mixed" (defScope Hd.s_law_mixed) s.heap.objs.size (He.ga K "_law_mixed") cdv)).units + 1 < cLine := by have := hr.un; omega
  exact ⟨_, td_law_mixed , (dss_cons (ds_set (i := 0) nd rfl (.inl rfl) (de_op ob_mod (de_callTy db_int (by rfl) (T.fr "int" (by decide +kernel)) bb_int (da_cons (de_var (pv 0)) da_nil)) de_int))
      (dss_one (ds_ret (de_op ob_mod (de_op ob_mul (de_op ob_mod (de_op ob_add (de_op ob_add (de_op ob_mul (de_var (pv 0)) (de_op ob_add de_int (de_op ob_mul (de_op ob_mul de_int (de_var (pv 1))) (de_var (pv 1))))) (de_op ob_mul de_int (de_var (pv 1)))) de_int) de_int) de_int) de_int)))), hw⟩
/-! _law_parts -/
def N_law_parts : List Str := ["text", "epoch", "mark", "rest", "dev", "post", "fore", "sign", "number", "numbers"]
theorem sc_law_parts : FnScope N_law_parts ["text"] (defScope Hd.s_law_parts) := ⟨rfl, rfl, rfl, by decide +kernel, rfl, by decide +kernel, by decide +kernel⟩
def td_law_parts : TDS := (dSeq (dAsg (dBM rpartR (dVar 0) (dCons (dC (.str "!")) dNil)) (gdTup (gdCons (gdName 1) (gdCons (gdName 2) (gdCons (gdName 3) gdNil)))))
  (dSeq (dAsg (dBM partR (dVar 3) (dCons (dC (.str ".dev")) dNil)) (gdTup (gdCons (gdName 3) (gdCons (gdName 2) (gdCons (gdName 4) gdNil)))))
  (dSeq (dAsg (dBM partR (dVar 3) (dCons (dC (.str ".post")) dNil)) (gdTup (gdCons (gdName 3) (gdCons (gdName 2) (gdCons (gdName 5) gdNil)))))
  (dSeq (dAsg (dLst dNil) (gdName 6))
  (dSeq (dFor (diT (dTup (dCons (dC (.str "rc")) (dCons (dC (.str "b")) (dCons (dC (.str "a")) dNil))))) (gdName 7) (dIfS (dAnd (dTest (dOp eqR (dVar 6) (dLst dNil))) (dTest (dOp inR (dVar 7) (dVar 3)))) (dSeq (dAsg (dBM partR (dVar 3) (dCons (dVar 7) dNil)) (gdTup (gdCons (gdName 3) (gdCons (gdName 2) (gdCons (gdName 8) gdNil)))))
  (dAsg (dLst (dCons (dVar 7) (dCons (dCB intR1 (dCons (dVar 8) dNil)) dNil))) (gdName 6))) dNext))
  (dSeq (dAsg (dFrz (dLc (diL (dBM splitR (dVar 3) (dCons (dC (.str ".")) dNil))) (gdName 8) dYes (dCB intR1 (dCons (dVar 8) dNil)) [8])) (gdName 9))
  (dRet (dTup (dCons (dCB intR1 (dCons (dOp addR (dC (.str "0")) (dVar 1)) dNil)) (dCons (dVar 9) (dCons (dVar 6) (dCons (dIf (dTest (dOp neR (dVar 5) (dC (.str "")))) (dLst (dCons (dCB intR1 (dCons (dVar 5) dNil)) dNil)) (dLst dNil)) (dCons (dIf (dTest (dOp neR (dVar 4) (dC (.str "")))) (dLst (dCons (dCB intR1 (dCons (dVar 4) dNil)) dNil)) (dLst dNil)) dNil)))))))))))))
theorem ok_law_parts (T : Txt K mg)  {D : DX} (hw : ∀ ds n Q, D ds n Q → td_law_parts  (ends Q) (entry false N_law_parts ds n)) : Okd P w K mg base 1 "_law_parts" ["text"] false 1 D := by
  obtain ⟨hm, fd, Fd⟩ := T.fn 47 "_law_parts" Hd.s_law_parts rfl
  refine ⟨fd, hm, Fd.kp, Fd.bindsN (fun _ _ _ _ _ _ us hl => match us, hl with | [_], _ => rfl), ?_⟩
  refine fnD Fd sc_law_parts rfl (fun cdv A outer s H E hr => ?_)
  have nd := sc_law_parts.nd
  have hu : (A.deeper (envOfC "_law_parts" (defScope Hd.s_law_parts) s.heap.objs.size (He.ga K "_law_parts") cdv)).units + 64 < cLine := hr.units
  have hu5 : (A.deeper (envOfC "_law_parts" (defScope Hd.s_law_parts) s.heap.objs.size (He.ga K "_law_parts") cdv)).units + 65 < cLine := by have := hr.un; omega
  have hu1 : (A.deeper (envOfC "_law_parts" (defScope Hd.s_law_parts) s.heap.objs.size (He.ga K "_law_parts") cdv)).units + 1 < cLine := by have := hr.un; omega
  exact ⟨_, td_law_parts , (dss_cons (ds_asg (de_bm dm_rpartition F.slot_str_rpartition F.type_str_rpartition (de_var (pv 0)) (da_cons de_str da_nil)) (dg_tup (n := 3) rfl (dgs_cons (dg_name (i := 1) nd rfl (.inl rfl)) (dgs_cons (dg_name (i := 2) nd rfl (.inl rfl)) (dgs_cons (dg_name (i := 3) nd rfl (.inl rfl)) dgs_nil))) (gl_cons (gl_cons (gl_cons gl_nil)))))
      (dss_cons (ds_asg (de_bm dm_partition F.slot_str_partition F.type_str_partition (de_var (pv 3)) (da_cons de_str da_nil)) (dg_tup (n := 3) rfl (dgs_cons (dg_name (i := 3) nd rfl (.inl rfl)) (dgs_cons (dg_name (i := 2) nd rfl (.inl rfl)) (dgs_cons (dg_name (i := 4) nd rfl (.inl rfl)) dgs_nil))) (gl_cons (gl_cons (gl_cons gl_nil)))))
      (dss_cons (ds_asg (de_bm dm_partition F.slot_str_partition F.type_str_partition (de_var (pv 3)) (da_cons de_str da_nil)) (dg_tup (n := 3) rfl (dgs_cons (dg_name (i := 3) nd rfl (.inl rfl)) (dgs_cons (dg_name (i := 2) nd rfl (.inl rfl)) (dgs_cons (dg_name (i := 5) nd rfl (.inl rfl)) dgs_nil))) (gl_cons (gl_cons (gl_cons gl_nil)))))
      (dss_cons (ds_set (i := 6) nd rfl (.inl rfl) (de_lst da_nil))
      (dss_cons (ds_for PassesOwn.never rfl (di_tup (de_tup (da_cons de_str (da_cons de_str (da_cons de_str da_nil))))) (dg_name (i := 7) nd rfl (.inl rfl)) (dss_one (ds_if (DW.dt (dw_and (dt_cmp (ob_eq hu) (de_var (pv 6)) (de_lst da_nil) (nomark _)) (dw_and1 (dt_cmp (ob_in hu5) (de_var (pv 7)) (de_var (pv 3)) rfl)))) (dss_cons (ds_asg (de_bm dm_partition F.slot_str_partition F.type_str_partition (de_var (pv 3)) (da_cons (de_var (pv 7)) da_nil)) (dg_tup (n := 3) rfl (dgs_cons (dg_name (i := 3) nd rfl (.inl rfl)) (dgs_cons (dg_name (i := 2) nd rfl (.inl rfl)) (dgs_cons (dg_name (i := 8) nd rfl (.inl rfl)) dgs_nil))) (gl_cons (gl_cons (gl_cons gl_nil)))))
      (dss_one (ds_set (i := 6) nd rfl (.inl rfl) (de_lst (da_cons (de_var (pv 7)) (da_cons (de_callTy db_int (by rfl) (T.fr "int" (by decide +kernel)) bb_int (da_cons (de_var (pv 8)) da_nil)) da_nil)))))) dss_nil)))
      (dss_cons (ds_setLc (i := 9) (own := [("number", 8)]) (te := (tCB _ (tCons (tVar 8) tNil))) (tt := tYes) (g := (gName 8)) rfl nd rfl rfl (sw_true rfl rfl rfl (by kernel_rfl)) (di_list (de_bm dm_split F.slot_str_split F.type_str_split (de_var (pv 3)) (da_cons de_str da_nil))) (blkOk_by (own := [("number", 8)]) (by kernel_rfl)) (fun _ _ _ _ _ => (dg_name (i := 8) nd rfl (.inl rfl))) (fun _ _ _ _ _ => dts_nil) (fun _ _ _ _ _ => (de_callTy db_int (by rfl) (T.fr "int" (by decide +kernel)) bb_int (da_cons (de_var (pv 8)) da_nil))) (by decide))
      (dss_one (ds_ret (de_tup (da_cons (de_callTy db_int (by rfl) (T.fr "int" (by decide +kernel)) bb_int (da_cons (de_op ob_add de_str (de_var (pv 1))) da_nil)) (da_cons (de_var (pv 9)) (da_cons (de_var (pv 6)) (da_cons (de_if (dt_cmp (ob_ne hu) (de_var (pv 5)) de_str (nomark _)) (de_lst (da_cons (de_callTy db_int (by rfl) (T.fr "int" (by decide +kernel)) bb_int (da_cons (de_var (pv 5)) da_nil)) da_nil)) (de_lst da_nil)) (da_cons (de_if (dt_cmp (ob_ne hu) (de_var (pv 4)) de_str (nomark _)) (de_lst (da_cons (de_callTy db_int (by rfl) (T.fr "int" (by decide +kernel)) bb_int (da_cons (de_var (pv 4)) da_nil)) da_nil)) (de_lst da_nil)) da_nil)))))))))))))), hw⟩
/-! _law_base -/
def N_law_base : List Str := ["parts", "numbers"]
theorem sc_law_base : FnScope N_law_base ["parts"] (defScope Hd.s_law_base) := ⟨rfl, rfl, rfl, by decide +kernel, rfl, by decide +kernel, by decide +kernel⟩
def td_law_base : TDS := (dSeq (dSetOwn 1 (dfList (dCons (dOp ixR (dVar 0) (dC (.int 1))) dNil)))
  (dSeq (dWhile (dAnd (fun s Q => (∃ xs, s.r[1]? = some (.own xs)) ∧ dTest (dNeOwn 1 (dLst dNil)) s Q) (dTest (dOp eqR (dIxOwn 1 (dNeg (dC (.int 1)))) (dC (.int 0))))) (dDrop (dPop 1)))
  (dRet (dTup (dCons (dOp ixR (dVar 0) (dC (.int 0))) (dCons (dGive 1) dNil))))))
theorem ok_law_base (T : Txt K mg)  {D : DX} (hw : ∀ ds n Q, D ds n Q → td_law_base  (ends Q) (entry false N_law_base ds n)) : Okd P w K mg base 1 "_law_base" ["parts"] false 1 D := by
  obtain ⟨hm, fd, Fd⟩ := T.fn 48 "_law_base" Hd.s_law_base rfl
  refine ⟨fd, hm, Fd.kp, Fd.bindsN (fun _ _ _ _ _ _ us hl => match us, hl with | [_], _ => rfl), ?_⟩
  refine fnD Fd sc_law_base rfl (fun cdv A outer s H E hr => ?_)
  have nd := sc_law_base.nd
  have hu : (A.deeper (envOfC "_law_base" (defScope Hd.s_law_base) s.heap.objs.size (He.ga K "_law_base") cdv)).units + 64 < cLine := hr.units
  have hu5 : (A.deeper (envOfC "_law_base" (defScope Hd.s_law_base) s.heap.objs.size (He.ga K "_law_base") cdv)).units + 65 < cLine := by have := hr.un; omega
  have hu1 : (A.deeper (envOfC "_law_base" (defScope Hd.s_law_base) s.heap.objs.size (He.ga K "_law_base") cdv)).units + 1 < cLine := by have := hr.un; omega
  exact ⟨_, td_law_base , (dss_cons (ds_setOwn (i := 1) nd rfl (.inl rfl) (df_list (by rfl) (T.fr "list" (by decide +kernel)) bb_list (da_cons (de_ix (de_var (pv 0)) de_int (fun _ _ => rfl)) da_nil)))
      (dss_cons (ds_while PassesOwn.never (DW.dt (dw_and (dt_neOwn hu (pv 1) (de_lst da_nil)) (dw_and1 (dt_cmp (ob_eq hu) (de_ixOwn (pv 1) (de_neg de_int) (fun _ _ => rfl)) de_int (nomark _))))) (dss_one (ds_expr (de_pop (pv 1)))))
      (dss_one (ds_ret (de_tup (da_cons (de_ix (de_var (pv 0)) de_int (fun _ _ => rfl)) (da_cons (de_give (pv 1)) da_nil))))))), hw⟩
/-! _law_key -/
def N_law_key : List Str := ["text", "parts", "epoch", "numbers", "fore", "post", "dev", "stage"]
theorem sc_law_key : FnScope N_law_key ["text"] (defScope Hd.s_law_key) := ⟨rfl, rfl, rfl, by decide +kernel, rfl, by decide +kernel, by decide +kernel⟩
def td_law_key (D_law_parts D_law_base : DX) : TDS := (dSeq (dAsg (dCall D_law_parts (dCons (dVar 0) dNil)) (gdName 1))
  (dSeq (dAsg (dVar 1) (gdTup (gdCons (gdName 2) (gdCons (gdName 3) (gdCons (gdName 4) (gdCons (gdName 5) (gdCons (gdName 6) gdNil)))))))
  (dSeq (dAsg (dIf (dTest (dOp neR (dVar 4) (dLst dNil))) (dOp addR (dLst (dCons (dC (.int 1)) dNil)) (dVar 4)) (dLst (dCons (dIf (dAnd (dTest (dOp eqR (dVar 5) (dLst dNil))) (dTest (dOp neR (dVar 6) (dLst dNil)))) (dC (.int 0)) (dC (.int 2))) dNil))) (gdName 7))
  (dRet (dTup (dCons (dCall D_law_base (dCons (dVar 1) dNil)) (dCons (dVar 7) (dCons (dIf (dTest (dOp neR (dVar 5) (dLst dNil))) (dVar 5) (dLst (dCons (dNeg (dC (.int 1))) dNil))) (dCons (dIf (dTest (dOp neR (dVar 6) (dLst dNil))) (dOp addR (dLst (dCons (dC (.int 0)) dNil)) (dVar 6)) (dLst (dCons (dC (.int 1)) dNil))) dNil)))))))))
theorem ok_law_key (T : Txt K mg) {D_law_parts D_law_base : DX} (pm_law_parts : Pm 1 D_law_parts) (c_law_parts : Okd P w K mg base 1 "_law_parts" ["text"] false 1 D_law_parts) (pm_law_base : Pm 1 D_law_base) (c_law_base : Okd P w K mg base 1 "_law_base" ["parts"] false 1 D_law_base) {D : DX} (hw : ∀ ds n Q, D ds n Q → td_law_key D_law_parts D_law_base (ends Q) (entry false N_law_key ds n)) : Okd P w K mg base 2 "_law_key" ["text"] false 1 D := by
  obtain ⟨hm, fd, Fd⟩ := T.fn 49 "_law_key" Hd.s_law_key rfl
  refine ⟨fd, hm, Fd.kp, Fd.bindsN (fun _ _ _ _ _ _ us hl => match us, hl with | [_], _ => rfl), ?_⟩
  refine fnD Fd sc_law_key rfl (fun cdv A outer s H E hr => ?_)
  have nd := sc_law_key.nd
  have hu : (A.deeper (envOfC "_law_key" (defScope Hd.s_law_key) s.heap.objs.size (He.ga K "_law_key") cdv)).units + 64 < cLine := hr.units
  have hu5 : (A.deeper (envOfC "_law_key" (defScope Hd.s_law_key) s.heap.objs.size (He.ga K "_law_key") cdv)).units + 65 < cLine := by have := hr.un; omega
  have hu1 : (A.deeper (envOfC "_law_key" (defScope Hd.s_law_key) s.heap.objs.size (He.ga K "_law_key") cdv)).units + 1 < cLine := by have := hr.un; omega
  exact ⟨_, td_law_key D_law_parts D_law_base, (dss_cons (ds_set (i := 1) nd rfl (.inl rfl) (de_callO c_law_parts pm_law_parts (hr.mono (by decide)) (by rfl) (da_cons (de_var (pv 0)) da_nil)))
      (dss_cons (ds_asg (de_var (pv 1)) (dg_tup (n := 5) rfl (dgs_cons (dg_name (i := 2) nd rfl (.inl rfl)) (dgs_cons (dg_name (i := 3) nd rfl (.inl rfl)) (dgs_cons (dg_name (i := 4) nd rfl (.inl rfl)) (dgs_cons (dg_name (i := 5) nd rfl (.inl rfl)) (dgs_cons (dg_name (i := 6) nd rfl (.inl rfl)) dgs_nil))))) (gl_cons (gl_cons (gl_cons (gl_cons (gl_cons gl_nil)))))))
      (dss_cons (ds_set (i := 7) nd rfl (.inl rfl) (de_if (dt_cmp (ob_ne hu) (de_var (pv 4)) (de_lst da_nil) (nomark _)) (de_op ob_add (de_lst (da_cons de_int da_nil)) (de_var (pv 4))) (de_lst (da_cons (de_if (DW.dt (dw_and (dt_cmp (ob_eq hu) (de_var (pv 5)) (de_lst da_nil) (nomark _)) (dw_and1 (dt_cmp (ob_ne hu) (de_var (pv 6)) (de_lst da_nil) (nomark _))))) de_int de_int) da_nil))))
      (dss_one (ds_ret (de_tup (da_cons (de_callO c_law_base pm_law_base (hr.mono (by decide)) (by rfl) (da_cons (de_var (pv 1)) da_nil)) (da_cons (de_var (pv 7)) (da_cons (de_if (dt_cmp (ob_ne hu) (de_var (pv 5)) (de_lst da_nil) (nomark _)) (de_var (pv 5)) (de_lst (da_cons (de_neg de_int) da_nil))) (da_cons (de_if (dt_cmp (ob_ne hu) (de_var (pv 6)) (de_lst da_nil) (nomark _)) (de_op ob_add (de_lst (da_cons de_int da_nil)) (de_var (pv 6))) (de_lst (da_cons de_int da_nil))) da_nil)))))))))), hw⟩
/-! _law_is_forerunner -/
def N_law_is_forerunner : List Str := ["text", "parts"]
theorem sc_law_is_forerunner : FnScope N_law_is_forerunner ["text"] (defScope Hd.s_law_is_forerunner) := ⟨rfl, rfl, rfl, by decide +kernel, rfl, by decide +kernel, by decide +kernel⟩
def td_law_is_forerunner (D_law_parts : DX) : TDS := (dSeq (dAsg (dCall D_law_parts (dCons (dVar 0) dNil)) (gdName 1))
  (dRet (dOrV (dOp neR (dOp ixR (dVar 1) (dC (.int 2))) (dLst dNil)) (dOp neR (dOp ixR (dVar 1) (dC (.int 4))) (dLst dNil)))))
theorem ok_law_is_forerunner (T : Txt K mg) {D_law_parts : DX} (pm_law_parts : Pm 1 D_law_parts) (c_law_parts : Okd P w K mg base 1 "_law_parts" ["text"] false 1 D_law_parts) {D : DX} (hw : ∀ ds n Q, D ds n Q → td_law_is_forerunner D_law_parts (ends Q) (entry false N_law_is_forerunner ds n)) : Okd P w K mg base 2 "_law_is_forerunner" ["text"] false 1 D := by
  obtain ⟨hm, fd, Fd⟩ := T.fn 50 "_law_is_forerunner" Hd.s_law_is_forerunner rfl
  refine ⟨fd, hm, Fd.kp, Fd.bindsN (fun _ _ _ _ _ _ us hl => match us, hl with | [_], _ => rfl), ?_⟩
  refine fnD Fd sc_law_is_forerunner rfl (fun cdv A outer s H E hr => ?_)
  have nd := sc_law_is_forerunner.nd
  have hu : (A.deeper (envOfC "_law_is_forerunner" (defScope Hd.s_law_is_forerunner) s.heap.objs.size (He.ga K "_law_is_forerunner") cdv)).units + 64 < cLine := hr.units
  have hu5 : (A.deeper (envOfC "_law_is_forerunner" (defScope Hd.s_law_is_forerunner) s.heap.objs.size (He.ga K "_law_is_forerunner") cdv)).units + 65 < cLine := by have := hr.un; omega
  have hu1 : (A.deeper (envOfC "_law_is_forerunner" (defScope Hd.s_law_is_forerunner) s.heap.objs.size (He.ga K "_law_is_forerunner") cdv)).units + 1 < cLine := by have := hr.un; omega
  exact ⟨_, td_law_is_forerunner D_law_parts, (dss_cons (ds_set (i := 1) nd rfl (.inl rfl) (de_callO c_law_parts pm_law_parts (hr.mono (by decide)) (by rfl) (da_cons (de_var (pv 0)) da_nil)))
      (dss_one (ds_ret (de_or (de_cmp (ob_ne hu) (de_ix (de_var (pv 1)) de_int (fun _ _ => rfl)) (de_lst da_nil) (nomark _)) (de_one (de_cmp (ob_ne hu) (de_ix (de_var (pv 1)) de_int (fun _ _ => rfl)) (de_lst da_nil) (nomark _))))))), hw⟩
end
end V

set_option Elab.async false
set_option linter.all false
set_option maxRecDepth 100000
set_option maxHeartbeats 8000000
namespace V
open PySem PySem.Spec PyProof.Rows L2 DL
section
variable {P : Program} {w : World} {K : PySem.W.Frag} {mg : Str → Option Value} {base : Heap}
/-! _law_text -/
def N_law_text : List Str := ["epoch", "numbers", "fore", "post", "dev", "found", "number"]
theorem sc_law_text : FnScope N_law_text ["epoch", "numbers", "fore", "post", "dev"] (defScope Hd.s_law_text) := ⟨rfl, rfl, rfl, by decide +kernel, rfl, by decide +kernel, by decide +kernel⟩
def td_law_text : TDS := (dSeq (dAsg (dOp addR (dIf (dTest (dOp gtR (dVar 0) (dC (.int 0)))) (dOp addR (dCB strR1 (dCons (dVar 0) dNil)) (dC (.str "!"))) (dC (.str ""))) (dBM joinR (dC (.str ".")) (dCons (dFrz (dLc (diL (dVar 1)) (gdName 6) dYes (dCB strR1 (dCons (dVar 6) dNil)) [6])) dNil))) (gdName 5))
  (dSeq (dAsg (dOp addR (dVar 5) (dIf (dTest (dOp neR (dVar 2) (dLst dNil))) (dOp addR (dOp ixR (dVar 2) (dC (.int 0))) (dCB strR1 (dCons (dOp ixR (dVar 2) (dC (.int 1))) dNil))) (dC (.str "")))) (gdName 5))
  (dSeq (dAsg (dOp addR (dVar 5) (dIf (dTest (dOp neR (dVar 3) (dLst dNil))) (dOp addR (dC (.str ".post")) (dCB strR1 (dCons (dOp ixR (dVar 3) (dC (.int 0))) dNil))) (dC (.str "")))) (gdName 5))
  (dRet (dOp addR (dVar 5) (dIf (dTest (dOp neR (dVar 4) (dLst dNil))) (dOp addR (dC (.str ".dev")) (dCB strR1 (dCons (dOp ixR (dVar 4) (dC (.int 0))) dNil))) (dC (.str ""))))))))
theorem ok_law_text (T : Txt K mg)  {D : DX} (hw : ∀ ds n Q, D ds n Q → td_law_text  (ends Q) (entry false N_law_text ds n)) : Okd P w K mg base 1 "_law_text" ["epoch", "numbers", "fore", "post", "dev"] false 5 D := by
  obtain ⟨hm, fd, Fd⟩ := T.fn 51 "_law_text" Hd.s_law_text rfl
  refine ⟨fd, hm, Fd.kp, Fd.bindsN (fun _ _ _ _ _ _ us hl => match us, hl with | [_, _, _, _, _], _ => rfl), ?_⟩
  refine fnD Fd sc_law_text rfl (fun cdv A outer s H E hr => ?_)
  have nd := sc_law_text.nd
  have hu : (A.deeper (envOfC "_law_text" (defScope Hd.s_law_text) s.heap.objs.size (He.ga K "_law_text") cdv)).units + 64 < cLine := hr.units
  have hu5 : (A.deeper (envOfC "_law_text" (defScope Hd.s_law_text) s.heap.objs.size (He.ga K "_law_text") cdv)).units + 65 < cLine := by have := hr.un; omega
  have hu1 : (A.deeper (envOfC "_law_text" (defScope Hd.s_law_text) s.heap.objs.size (He.ga K "_law_text") cdv)).units + 1 < cLine := by have := hr.un; omega
  exact ⟨_, td_law_text , (dss_cons (ds_set (i := 5) nd rfl (.inl rfl) (de_op ob_add (de_if (dt_cmp (ob_gt hu) (de_var (pv 0)) de_int (nomark _)) (de_op ob_add (de_callTy db_str (by rfl) (T.fr "str" (by decide +kernel)) bb_str (da_cons (de_var (pv 0)) da_nil)) de_str) de_str) (de_bm dm_join F.slot_str_join F.type_str_join de_str (da_cons (DF.frz (df_lc (own := [("number", 6)]) (te := (tCB _ (tCons (tVar 6) tNil))) (tt := tYes) (g := (gName 6)) rfl nd (di_list (de_var (pv 1))) (blkOk_by (own := [("number", 6)]) (by kernel_rfl)) (fun _ _ _ _ _ => (dg_name (i := 6) nd rfl (.inl rfl))) (fun _ _ _ _ _ => dts_nil) (fun _ _ _ _ _ => (de_callTy db_str (by rfl) (T.fr "str" (by decide +kernel)) bb_str (da_cons (de_var (pv 6)) da_nil))) (by decide))) da_nil))))
      (dss_cons (ds_set (i := 5) nd rfl (.inl rfl) (de_op ob_add (de_var (pv 5)) (de_if (dt_cmp (ob_ne hu) (de_var (pv 2)) (de_lst da_nil) (nomark _)) (de_op ob_add (de_ix (de_var (pv 2)) de_int (fun _ _ => rfl)) (de_callTy db_str (by rfl) (T.fr "str" (by decide +kernel)) bb_str (da_cons (de_ix (de_var (pv 2)) de_int (fun _ _ => rfl)) da_nil))) de_str)))
      (dss_cons (ds_set (i := 5) nd rfl (.inl rfl) (de_op ob_add (de_var (pv 5)) (de_if (dt_cmp (ob_ne hu) (de_var (pv 3)) (de_lst da_nil) (nomark _)) (de_op ob_add de_str (de_callTy db_str (by rfl) (T.fr "str" (by decide +kernel)) bb_str (da_cons (de_ix (de_var (pv 3)) de_int (fun _ _ => rfl)) da_nil))) de_str)))
      (dss_one (ds_ret (de_op ob_add (de_var (pv 5)) (de_if (dt_cmp (ob_ne hu) (de_var (pv 4)) (de_lst da_nil) (nomark _)) (de_op ob_add de_str (de_callTy db_str (by rfl) (T.fr "str" (by decide +kernel)) bb_str (da_cons (de_ix (de_var (pv 4)) de_int (fun _ _ => rfl)) da_nil))) de_str))))))), hw⟩
/-! _law_in_block -/
def N_law_in_block : List Str := ["parts", "numbers", "epoch", "own"]
theorem sc_law_in_block : FnScope N_law_in_block ["parts", "numbers", "epoch"] (defScope Hd.s_law_in_block) := ⟨rfl, rfl, rfl, by decide +kernel, rfl, by decide +kernel, by decide +kernel⟩
def td_law_in_block : TDS := (dSeq (dAsg (dOp addR (dOp ixR (dVar 0) (dC (.int 1))) (dOp mulR (dLst (dCons (dC (.int 0)) dNil)) (dCB lenR (dCons (dVar 1) dNil)))) (gdName 3))
  (dRet (dAndV (dOp eqR (dOp ixR (dVar 0) (dC (.int 0))) (dVar 2)) (dOp eqR (dSl (dVar 3) dNoPart (dPart (dCB lenR (dCons (dVar 1) dNil)))) (dVar 1)))))
theorem ok_law_in_block (T : Txt K mg)  {D : DX} (hw : ∀ ds n Q, D ds n Q → td_law_in_block  (ends Q) (entry false N_law_in_block ds n)) : Okd P w K mg base 1 "_law_in_block" ["parts", "numbers", "epoch"] false 3 D := by
  obtain ⟨hm, fd, Fd⟩ := T.fn 53 "_law_in_block" Hd.s_law_in_block rfl
  refine ⟨fd, hm, Fd.kp, Fd.bindsN (fun _ _ _ _ _ _ us hl => match us, hl with | [_, _, _], _ => rfl), ?_⟩
  refine fnD Fd sc_law_in_block rfl (fun cdv A outer s H E hr => ?_)
  have nd := sc_law_in_block.nd
  have hu : (A.deeper (envOfC "_law_in_block" (defScope Hd.s_law_in_block) s.heap.objs.size (He.ga K "_law_in_block") cdv)).units + 64 < cLine := hr.units
  have hu5 : (A.deeper (envOfC "_law_in_block" (defScope Hd.s_law_in_block) s.heap.objs.size (He.ga K "_law_in_block") cdv)).units + 65 < cLine := by have := hr.un; omega
  have hu1 : (A.deeper (envOfC "_law_in_block" (defScope Hd.s_law_in_block) s.heap.objs.size (He.ga K "_law_in_block") cdv)).units + 1 < cLine := by have := hr.un; omega
  exact ⟨_, td_law_in_block , (dss_cons (ds_set (i := 3) nd rfl (.inl rfl) (de_op ob_add (de_ix (de_var (pv 0)) de_int (fun _ _ => rfl)) (de_op ob_mul (de_lst (da_cons de_int da_nil)) (de_callB db_len (by rfl) (T.fr "len" (by decide +kernel)) bb_len (da_cons (de_var (pv 1)) da_nil)))))
      (dss_one (ds_ret (de_and (de_cmp (ob_eq hu) (de_ix (de_var (pv 0)) de_int (fun _ _ => rfl)) (de_var (pv 2)) (nomark _)) (de_one (de_cmp (ob_eq hu) (de_sl (de_var (pv 3)) do_none (do_some (de_callB db_len (by rfl) (T.fr "len" (by decide +kernel)) bb_len (da_cons (de_var (pv 1)) da_nil)))) (de_var (pv 1)) (nomark _))))))), hw⟩
/-! _law_clause_lets -/
def N_law_clause_lets : List Str := ["clause", "version", "sign", "text", "own", "parts", "bound", "base", "other", "due"]
theorem sc_law_clause_lets : FnScope N_law_clause_lets ["clause", "version"] (defScope Hd.s_law_clause_lets) := ⟨rfl, rfl, rfl, by decide +kernel, rfl, by decide +kernel, by decide +kernel⟩
def td_law_clause_lets (D_law_key D_law_parts D_law_in_block D_law_base : DX) : TDS := (dSeq (dAsg (dVar 0) (gdTup (gdCons (gdName 2) (gdCons (gdName 3) gdNil))))
  (dSeq (dPar 4 5 (dCall D_law_key (dCons (dVar 1) dNil)) (dCall D_law_parts (dCons (dVar 1) dNil)))
  (dSeq (dAsg (dCall D_law_parts (dCons (dIf (dTest (dOp eqR (dSl (dVar 3) (dPart (dNeg (dC (.int 2)))) dNoPart) (dC (.str ".*")))) (dSl (dVar 3) dNoPart (dPart (dNeg (dC (.int 2))))) (dVar 3)) dNil)) (gdName 6))
  (dSeq (dIfS (dTest (dOp eqR (dSl (dVar 3) (dPart (dNeg (dC (.int 2)))) dNoPart) (dC (.str ".*")))) (dRet (dOp eqR (dCall D_law_in_block (dCons (dVar 5) (dCons (dOp ixR (dVar 6) (dC (.int 1))) (dCons (dOp ixR (dVar 6) (dC (.int 0))) dNil)))) (dOp eqR (dVar 2) (dC (.str "=="))))) dNext)
  (dSeq (dIfS (dTest (dOp inR (dVar 2) (dTup (dCons (dC (.str "<")) (dCons (dC (.str ">")) dNil))))) (dSeq (dPar 7 8 (dCall D_law_base (dCons (dVar 5) dNil)) (dCall D_law_base (dCons (dVar 6) dNil)))
  (dRet (dIf (dTest (dOp eqR (dVar 2) (dC (.str "<")))) (dOp ltR (dVar 7) (dVar 8)) (dOp gtR (dVar 7) (dVar 8))))) dNext)
  (dSeq (dAsg (dCall D_law_key (dCons (dVar 3) dNil)) (gdName 9))
  (dSeq (dIfS (dTest (dOp eqR (dVar 2) (dC (.str "~=")))) (dRet (dAndV (dOp geR (dVar 4) (dVar 9)) (dCall D_law_in_block (dCons (dVar 5) (dCons (dSl (dOp ixR (dVar 6) (dC (.int 1))) dNoPart (dPart (dNeg (dC (.int 1))))) (dCons (dOp ixR (dVar 6) (dC (.int 0))) dNil)))))) dNext)
  (dRet (dDict4 ">=" "<=" "==" "!=" (dOp geR (dVar 4) (dVar 9)) (dOp leR (dVar 4) (dVar 9)) (dOp eqR (dVar 4) (dVar 9)) (dOp neR (dVar 4) (dVar 9)) (dVar 2))))))))))
theorem ok_law_clause_lets (T : Txt K mg) {D_law_key D_law_parts D_law_in_block D_law_base : DX} (pm_law_key : Pm 1 D_law_key) (c_law_key : Okd P w K mg base 2 "_law_key" ["text"] false 1 D_law_key) (pm_law_parts : Pm 1 D_law_parts) (c_law_parts : Okd P w K mg base 1 "_law_parts" ["text"] false 1 D_law_parts) (pm_law_in_block : Pm 3 D_law_in_block) (c_law_in_block : Okd P w K mg base 1 "_law_in_block" ["parts", "numbers", "epoch"] false 3 D_law_in_block) (pm_law_base : Pm 1 D_law_base) (c_law_base : Okd P w K mg base 1 "_law_base" ["parts"] false 1 D_law_base) {D : DX} (hw : ∀ ds n Q, D ds n Q → td_law_clause_lets D_law_key D_law_parts D_law_in_block D_law_base (ends Q) (entry false N_law_clause_lets ds n)) : Okd P w K mg base 3 "_law_clause_lets" ["clause", "version"] false 2 D := by
  obtain ⟨hm, fd, Fd⟩ := T.fn 54 "_law_clause_lets" Hd.s_law_clause_lets rfl
  refine ⟨fd, hm, Fd.kp, Fd.bindsN (fun _ _ _ _ _ _ us hl => match us, hl with | [_, _], _ => rfl), ?_⟩
  refine fnD Fd sc_law_clause_lets rfl (fun cdv A outer s H E hr => ?_)
  have nd := sc_law_clause_lets.nd
  have hu : (A.deeper (envOfC "_law_clause_lets" (defScope Hd.s_law_clause_lets) s.heap.objs.size (He.ga K "_law_clause_lets") cdv)).units + 64 < cLine := hr.units
  have hu5 : (A.deeper (envOfC "_law_clause_lets" (defScope Hd.s_law_clause_lets) s.heap.objs.size (He.ga K "_law_clause_lets") cdv)).units + 65 < cLine := by have := hr.un; omega
  have hu1 : (A.deeper (envOfC "_law_clause_lets" (defScope Hd.s_law_clause_lets) s.heap.objs.size (He.ga K "_law_clause_lets") cdv)).units + 1 < cLine := by have := hr.un; omega
  exact ⟨_, td_law_clause_lets D_law_key D_law_parts D_law_in_block D_law_base, (dss_cons (ds_asg (de_var (pv 0)) (dg_tup (n := 2) rfl (dgs_cons (dg_name (i := 2) nd rfl (.inl rfl)) (dgs_cons (dg_name (i := 3) nd rfl (.inl rfl)) dgs_nil)) (gl_cons (gl_cons gl_nil))))
      (dss_cons (ds_par (i := 4) (j := 5) rfl nd rfl rfl (by decide) rfl rfl (de_callO c_law_key pm_law_key (hr.mono (by decide)) (by rfl) (da_cons (de_var (pv 1)) da_nil)) (de_callO c_law_parts pm_law_parts (hr.mono (by decide)) (by rfl) (da_cons (de_var (pv 1)) da_nil)))
      (dss_cons (ds_set (i := 6) nd rfl (.inl rfl) (de_callO c_law_parts pm_law_parts (hr.mono (by decide)) (by rfl) (da_cons (de_if (dt_cmp (ob_eq hu) (de_sl (de_var (pv 3)) (do_some (de_neg de_int)) do_none) de_str (nomark _)) (de_sl (de_var (pv 3)) do_none (do_some (de_neg de_int))) (de_var (pv 3))) da_nil)))
      (dss_cons (ds_if (dt_cmp (ob_eq hu) (de_sl (de_var (pv 3)) (do_some (de_neg de_int)) do_none) de_str (nomark _)) (dss_one (ds_ret (de_cmp (ob_eq hu) (de_callO c_law_in_block pm_law_in_block (hr.mono (by decide)) (by rfl) (da_cons (de_var (pv 5)) (da_cons (de_ix (de_var (pv 6)) de_int (fun _ _ => rfl)) (da_cons (de_ix (de_var (pv 6)) de_int (fun _ _ => rfl)) da_nil)))) (de_cmp (ob_eq hu) (de_var (pv 2)) de_str (nomark _)) (nomark _)))) dss_nil)
      (dss_cons (ds_if (dt_cmp (ob_in hu5) (de_var (pv 2)) (de_tup (da_cons de_str (da_cons de_str da_nil))) rfl) (dss_cons (ds_par (i := 7) (j := 8) rfl nd rfl rfl (by decide) rfl rfl (de_callO c_law_base pm_law_base (hr.mono (by decide)) (by rfl) (da_cons (de_var (pv 5)) da_nil)) (de_callO c_law_base pm_law_base (hr.mono (by decide)) (by rfl) (da_cons (de_var (pv 6)) da_nil)))
      (dss_one (ds_ret (de_if (dt_cmp (ob_eq hu) (de_var (pv 2)) de_str (nomark _)) (de_cmp (ob_lt hu) (de_var (pv 7)) (de_var (pv 8)) (nomark _)) (de_cmp (ob_gt hu) (de_var (pv 7)) (de_var (pv 8)) (nomark _)))))) dss_nil)
      (dss_cons (ds_set (i := 9) nd rfl (.inl rfl) (de_callO c_law_key pm_law_key (hr.mono (by decide)) (by rfl) (da_cons (de_var (pv 3)) da_nil)))
      (dss_cons (ds_if (dt_cmp (ob_eq hu) (de_var (pv 2)) de_str (nomark _)) (dss_one (ds_ret (de_and (de_cmp (ob_ge hu) (de_var (pv 4)) (de_var (pv 9)) (nomark _)) (de_one (de_callO c_law_in_block pm_law_in_block (hr.mono (by decide)) (by rfl) (da_cons (de_var (pv 5)) (da_cons (de_sl (de_ix (de_var (pv 6)) de_int (fun _ _ => rfl)) do_none (do_some (de_neg de_int))) (da_cons (de_ix (de_var (pv 6)) de_int (fun _ _ => rfl)) da_nil)))))))) dss_nil)
      (dss_one (ds_ret (de_dict4 hu (de_cmp (ob_ge hu) (de_var (pv 4)) (de_var (pv 9)) (nomark _)) (de_cmp (ob_le hu) (de_var (pv 4)) (de_var (pv 9)) (nomark _)) (de_cmp (ob_eq hu) (de_var (pv 4)) (de_var (pv 9)) (nomark _)) (de_cmp (ob_ne hu) (de_var (pv 4)) (de_var (pv 9)) (nomark _)) (de_var (pv 2)) (fun _ _ => rfl) (by decide +kernel) (by decide +kernel) (by decide +kernel) (by decide +kernel) (by decide +kernel) (by decide +kernel))))))))))), hw⟩
/-! _law_lets -/
def N_law_lets : List Str := ["requirement", "version", "clause"]
theorem sc_law_lets : FnScope N_law_lets ["requirement", "version"] (defScope Hd.s_law_lets) := ⟨rfl, rfl, rfl, by decide +kernel, rfl, by decide +kernel, by decide +kernel⟩
def td_law_lets (D_law_clause_lets : DX) : TDS := (dRet (dOp eqR (dFrz (dLc (diT (dVar 0)) (gdName 2) (dNot (dTest (dCall D_law_clause_lets (dCons (dVar 2) (dCons (dVar 1) dNil))))) (dC (.int 1)) [2])) (dLst dNil)))
theorem ok_law_lets (T : Txt K mg) {D_law_clause_lets : DX} (pm_law_clause_lets : Pm 2 D_law_clause_lets) (c_law_clause_lets : Okd P w K mg base 3 "_law_clause_lets" ["clause", "version"] false 2 D_law_clause_lets) {D : DX} (hw : ∀ ds n Q, D ds n Q → td_law_lets D_law_clause_lets (ends Q) (entry false N_law_lets ds n)) : Okd P w K mg base 4 "_law_lets" ["requirement", "version"] false 2 D := by
  obtain ⟨hm, fd, Fd⟩ := T.fn 55 "_law_lets" Hd.s_law_lets rfl
  refine ⟨fd, hm, Fd.kp, Fd.bindsN (fun _ _ _ _ _ _ us hl => match us, hl with | [_, _], _ => rfl), ?_⟩
  refine fnD Fd sc_law_lets rfl (fun cdv A outer s H E hr => ?_)
  have nd := sc_law_lets.nd
  have hu : (A.deeper (envOfC "_law_lets" (defScope Hd.s_law_lets) s.heap.objs.size (He.ga K "_law_lets") cdv)).units + 64 < cLine := hr.units
  have hu5 : (A.deeper (envOfC "_law_lets" (defScope Hd.s_law_lets) s.heap.objs.size (He.ga K "_law_lets") cdv)).units + 65 < cLine := by have := hr.un; omega
  have hu1 : (A.deeper (envOfC "_law_lets" (defScope Hd.s_law_lets) s.heap.objs.size (He.ga K "_law_lets") cdv)).units + 1 < cLine := by have := hr.un; omega
  exact ⟨_, td_law_lets D_law_clause_lets, (dss_one (ds_ret (de_cmp (ob_eq hu) (DF.frz (df_lc (own := [("clause", 2)]) (te := (tC (.int 1))) (tt := (tNot (tB (tCall (spD K false 2 D_law_clause_lets) [] E0 (tCons (tVar 2) (tCons (tVar 1) tNil)))))) (g := (gName 2)) rfl nd (di_tup (de_var (pv 0))) (blkOk_by (own := [("clause", 2)]) (by kernel_rfl)) (fun _ _ _ _ _ => (dg_name (i := 2) nd rfl (.inl rfl))) (fun _ _ _ _ _ => (dts_one (dt_not (dt_val (de_callO c_law_clause_lets pm_law_clause_lets (hr.mono (by decide)) (by rfl) (da_cons (de_var (pv 2)) (da_cons (de_var (pv 1)) da_nil))))))) (fun _ _ _ _ _ => de_int) (by decide))) (de_lst da_nil) (nomark _)))), hw⟩
/-! _law_names -/
def N_law_names : List Str := ["requirement", "some", "sign", "text"]
theorem sc_law_names : FnScope N_law_names ["requirement"] (defScope Hd.s_law_names) := ⟨rfl, rfl, rfl, by decide +kernel, rfl, by decide +kernel, by decide +kernel⟩
def td_law_names (D_law_is_forerunner : DX) : TDS := (dSeq (dAsg (dFrz (dLc (diT (dVar 0)) (gdTup (gdCons (gdName 2) (gdCons (gdName 3) gdNil))) (dAnd (dTest (dOp neR (dVar 2) (dC (.str "!=")))) (dTest (dOp neR (dSl (dVar 3) (dPart (dNeg (dC (.int 2)))) dNoPart) (dC (.str ".*"))))) (dVar 3) [2, 3])) (gdName 1))
  (dRet (dOp neR (dFrz (dLc (diL (dVar 1)) (gdName 3) (dTest (dCall D_law_is_forerunner (dCons (dVar 3) dNil))) (dC (.int 1)) [3])) (dLst dNil))))
theorem ok_law_names (T : Txt K mg) {D_law_is_forerunner : DX} (pm_law_is_forerunner : Pm 1 D_law_is_forerunner) (c_law_is_forerunner : Okd P w K mg base 2 "_law_is_forerunner" ["text"] false 1 D_law_is_forerunner) {D : DX} (hw : ∀ ds n Q, D ds n Q → td_law_names D_law_is_forerunner (ends Q) (entry false N_law_names ds n)) : Okd P w K mg base 3 "_law_names" ["requirement"] false 1 D := by
  obtain ⟨hm, fd, Fd⟩ := T.fn 56 "_law_names" Hd.s_law_names rfl
  refine ⟨fd, hm, Fd.kp, Fd.bindsN (fun _ _ _ _ _ _ us hl => match us, hl with | [_], _ => rfl), ?_⟩
  refine fnD Fd sc_law_names rfl (fun cdv A outer s H E hr => ?_)
  have nd := sc_law_names.nd
  have hu : (A.deeper (envOfC "_law_names" (defScope Hd.s_law_names) s.heap.objs.size (He.ga K "_law_names") cdv)).units + 64 < cLine := hr.units
  have hu5 : (A.deeper (envOfC "_law_names" (defScope Hd.s_law_names) s.heap.objs.size (He.ga K "_law_names") cdv)).units + 65 < cLine := by have := hr.un; omega
  have hu1 : (A.deeper (envOfC "_law_names" (defScope Hd.s_law_names) s.heap.objs.size (He.ga K "_law_names") cdv)).units + 1 < cLine := by have := hr.un; omega
  exact ⟨_, td_law_names D_law_is_forerunner, (dss_cons (ds_setLc (i := 1) (own := [("sign", 2), ("text", 3)]) (te := (tVar 3)) (tt := (tAnd (tTest (tOp (rNeD K) (tVar 2) (tC (.str "!=")))) (tTest (tOp (rNeD K) (tSl (rSlAny K) (tVar 3) (tPart (tUn (rU fun i => .int (-i)) (tC (.int 2)))) tNoPart) (tC (.str ".*")))))) (g := (gTup K 2 (gCons (gName 2) (gCons (gName 3) gNil)))) rfl nd rfl rfl (sw_true rfl rfl rfl (by kernel_rfl)) (di_tup (de_var (pv 0))) (blkOk_by (own := [("sign", 2), ("text", 3)]) (by kernel_rfl)) (fun _ _ _ _ _ => (dg_tup (n := 2) rfl (dgs_cons (dg_name (i := 2) nd rfl (.inl rfl)) (dgs_cons (dg_name (i := 3) nd rfl (.inl rfl)) dgs_nil)) (gl_cons (gl_cons gl_nil)))) (fun _ _ _ _ _ => (dts_one (DW.dt (dw_and (dt_cmp (ob_ne hu) (de_var (pv 2)) de_str (nomark _)) (dw_and1 (dt_cmp (ob_ne hu) (de_sl (de_var (pv 3)) (do_some (de_neg de_int)) do_none) de_str (nomark _))))))) (fun _ _ _ _ _ => (de_var (pv 3))) (by decide))
      (dss_one (ds_ret (de_cmp (ob_ne hu) (DF.frz (df_lc (own := [("text", 3)]) (te := (tC (.int 1))) (tt := (tB (tCall (spD K false 1 D_law_is_forerunner) [] E0 (tCons (tVar 3) tNil)))) (g := (gName 3)) rfl nd (di_list (de_var (pv 1))) (blkOk_by (own := [("text", 3)]) (by kernel_rfl)) (fun _ _ _ _ _ => (dg_name (i := 3) nd rfl (.inl rfl))) (fun _ _ _ _ _ => (dts_one (dt_val (de_callO c_law_is_forerunner pm_law_is_forerunner (hr.mono (by decide)) (by rfl) (da_cons (de_var (pv 3)) da_nil))))) (fun _ _ _ _ _ => de_int) (by decide))) (de_lst da_nil) (nomark _))))), hw⟩
/-! _law_pins -/
def N_law_pins : List Str := ["requirement", "version", "some", "sign", "text"]
theorem sc_law_pins : FnScope N_law_pins ["requirement", "version"] (defScope Hd.s_law_pins) := ⟨rfl, rfl, rfl, by decide +kernel, rfl, by decide +kernel, by decide +kernel⟩
def td_law_pins (D_law_key : DX) : TDS := (dSeq (dAsg (dFrz (dLc (diT (dVar 0)) (gdTup (gdCons (gdName 3) (gdCons (gdName 4) gdNil))) (dAnd (dTest (dOp eqR (dVar 3) (dC (.str "==")))) (dTest (dOp neR (dSl (dVar 4) (dPart (dNeg (dC (.int 2)))) dNoPart) (dC (.str ".*"))))) (dVar 4) [3, 4])) (gdName 2))
  (dRet (dOp neR (dFrz (dLc (diL (dVar 2)) (gdName 4) (dTest (dOp eqR (dCall D_law_key (dCons (dVar 4) dNil)) (dCall D_law_key (dCons (dVar 1) dNil)))) (dC (.int 1)) [4])) (dLst dNil))))
theorem ok_law_pins (T : Txt K mg) {D_law_key : DX} (pm_law_key : Pm 1 D_law_key) (c_law_key : Okd P w K mg base 2 "_law_key" ["text"] false 1 D_law_key) {D : DX} (hw : ∀ ds n Q, D ds n Q → td_law_pins D_law_key (ends Q) (entry false N_law_pins ds n)) : Okd P w K mg base 3 "_law_pins" ["requirement", "version"] false 2 D := by
  obtain ⟨hm, fd, Fd⟩ := T.fn 57 "_law_pins" Hd.s_law_pins rfl
  refine ⟨fd, hm, Fd.kp, Fd.bindsN (fun _ _ _ _ _ _ us hl => match us, hl with | [_, _], _ => rfl), ?_⟩
  refine fnD Fd sc_law_pins rfl (fun cdv A outer s H E hr => ?_)
  have nd := sc_law_pins.nd
  have hu : (A.deeper (envOfC "_law_pins" (defScope Hd.s_law_pins) s.heap.objs.size (He.ga K "_law_pins") cdv)).units + 64 < cLine := hr.units
  have hu5 : (A.deeper (envOfC "_law_pins" (defScope Hd.s_law_pins) s.heap.objs.size (He.ga K "_law_pins") cdv)).units + 65 < cLine := by have := hr.un; omega
  have hu1 : (A.deeper (envOfC "_law_pins" (defScope Hd.s_law_pins) s.heap.objs.size (He.ga K "_law_pins") cdv)).units + 1 < cLine := by have := hr.un; omega
  exact ⟨_, td_law_pins D_law_key, (dss_cons (ds_setLc (i := 2) (own := [("sign", 3), ("text", 4)]) (te := (tVar 4)) (tt := (tAnd (tTest (tOp (rEqD K) (tVar 3) (tC (.str "==")))) (tTest (tOp (rNeD K) (tSl (rSlAny K) (tVar 4) (tPart (tUn (rU fun i => .int (-i)) (tC (.int 2)))) tNoPart) (tC (.str ".*")))))) (g := (gTup K 2 (gCons (gName 3) (gCons (gName 4) gNil)))) rfl nd rfl rfl (sw_true rfl rfl rfl (by kernel_rfl)) (di_tup (de_var (pv 0))) (blkOk_by (own := [("sign", 3), ("text", 4)]) (by kernel_rfl)) (fun _ _ _ _ _ => (dg_tup (n := 2) rfl (dgs_cons (dg_name (i := 3) nd rfl (.inl rfl)) (dgs_cons (dg_name (i := 4) nd rfl (.inl rfl)) dgs_nil)) (gl_cons (gl_cons gl_nil)))) (fun _ _ _ _ _ => (dts_one (DW.dt (dw_and (dt_cmp (ob_eq hu) (de_var (pv 3)) de_str (nomark _)) (dw_and1 (dt_cmp (ob_ne hu) (de_sl (de_var (pv 4)) (do_some (de_neg de_int)) do_none) de_str (nomark _))))))) (fun _ _ _ _ _ => (de_var (pv 4))) (by decide))
      (dss_one (ds_ret (de_cmp (ob_ne hu) (DF.frz (df_lc (own := [("text", 4)]) (te := (tC (.int 1))) (tt := (tTest (tOp (rEqD K) (tCall (spD K false 1 D_law_key) [] E0 (tCons (tVar 4) tNil)) (tCall (spD K false 1 D_law_key) [] E0 (tCons (tVar 1) tNil))))) (g := (gName 4)) rfl nd (di_list (de_var (pv 2))) (blkOk_by (own := [("text", 4)]) (by kernel_rfl)) (fun _ _ _ _ _ => (dg_name (i := 4) nd rfl (.inl rfl))) (fun _ _ _ _ _ => (dts_one (dt_cmp (ob_eq hu) (de_callO c_law_key pm_law_key (hr.mono (by decide)) (by rfl) (da_cons (de_var (pv 4)) da_nil)) (de_callO c_law_key pm_law_key (hr.mono (by decide)) (by rfl) (da_cons (de_var (pv 1)) da_nil)) (nomark _)))) (fun _ _ _ _ _ => de_int) (by decide))) (de_lst da_nil) (nomark _))))), hw⟩
/-! _law_pick -/
def N_law_pick : List Str := ["requirement", "releases", "some", "version", "is_withdrawn", "finals"]
theorem sc_law_pick : FnScope N_law_pick ["requirement", "releases"] (defScope Hd.s_law_pick) := ⟨rfl, rfl, rfl, by decide +kernel, rfl, by decide +kernel, by decide +kernel⟩
def td_law_pick (D_law_pins D_law_key D_law_lets D_law_is_forerunner D_law_names : DX) : TDS := (dSeq (dAsg (dFrz (dLc (diT (dVar 1)) (gdTup (gdCons (gdName 3) (gdCons (gdName 4) gdNil))) (dOr (dNot (dTest (dVar 4))) (dTest (dCall D_law_pins (dCons (dVar 0) (dCons (dVar 3) dNil))))) (dVar 3) [3, 4])) (gdName 2))
  (dSeq (dAsg (dSortK D_law_key (dCons (dFrz (dLc (diL (dVar 2)) (gdName 3) (dTest (dCall D_law_lets (dCons (dVar 0) (dCons (dVar 3) dNil)))) (dVar 3) [3])) dNil)) (gdName 2))
  (dSeq (dAsg (dFrz (dLc (diL (dVar 2)) (gdName 3) (dNot (dTest (dCall D_law_is_forerunner (dCons (dVar 3) dNil)))) (dVar 3) [3])) (gdName 5))
  (dRet (dIf (dAnd (dTest (dOp neR (dVar 5) (dLst dNil))) (dNot (dTest (dCall D_law_names (dCons (dVar 0) dNil))))) (dSl (dVar 5) (dPart (dNeg (dC (.int 1)))) dNoPart) (dSl (dVar 2) (dPart (dNeg (dC (.int 1)))) dNoPart))))))
theorem ok_law_pick (T : Txt K mg) {D_law_pins D_law_key D_law_lets D_law_is_forerunner D_law_names : DX} (pm_law_pins : Pm 2 D_law_pins) (c_law_pins : Okd P w K mg base 3 "_law_pins" ["requirement", "version"] false 2 D_law_pins) (pm_law_key : Pm 1 D_law_key) (c_law_key : Okd P w K mg base 2 "_law_key" ["text"] false 1 D_law_key) (pm_law_lets : Pm 2 D_law_lets) (c_law_lets : Okd P w K mg base 4 "_law_lets" ["requirement", "version"] false 2 D_law_lets) (pm_law_is_forerunner : Pm 1 D_law_is_forerunner) (c_law_is_forerunner : Okd P w K mg base 2 "_law_is_forerunner" ["text"] false 1 D_law_is_forerunner) (pm_law_names : Pm 1 D_law_names) (c_law_names : Okd P w K mg base 3 "_law_names" ["requirement"] false 1 D_law_names) {D : DX} (hw : ∀ ds n Q, D ds n Q → td_law_pick D_law_pins D_law_key D_law_lets D_law_is_forerunner D_law_names (ends Q) (entry false N_law_pick ds n)) : Okd P w K mg base 5 "_law_pick" ["requirement", "releases"] false 2 D := by
  obtain ⟨hm, fd, Fd⟩ := T.fn 58 "_law_pick" Hd.s_law_pick rfl
  refine ⟨fd, hm, Fd.kp, Fd.bindsN (fun _ _ _ _ _ _ us hl => match us, hl with | [_, _], _ => rfl), ?_⟩
  refine fnD Fd sc_law_pick rfl (fun cdv A outer s H E hr => ?_)
  have nd := sc_law_pick.nd
  have hu : (A.deeper (envOfC "_law_pick" (defScope Hd.s_law_pick) s.heap.objs.size (He.ga K "_law_pick") cdv)).units + 64 < cLine := hr.units
  have hu5 : (A.deeper (envOfC "_law_pick" (defScope Hd.s_law_pick) s.heap.objs.size (He.ga K "_law_pick") cdv)).units + 65 < cLine := by have := hr.un; omega
  have hu1 : (A.deeper (envOfC "_law_pick" (defScope Hd.s_law_pick) s.heap.objs.size (He.ga K "_law_pick") cdv)).units + 1 < cLine := by have := hr.un; omega
  exact ⟨_, td_law_pick D_law_pins D_law_key D_law_lets D_law_is_forerunner D_law_names, (dss_cons (ds_setLc (i := 2) (own := [("version", 3), ("is_withdrawn", 4)]) (te := (tVar 3)) (tt := (tOr (tNot (tB (tVar 4))) (tB (tCall (spD K false 2 D_law_pins) [] E0 (tCons (tVar 0) (tCons (tVar 3) tNil)))))) (g := (gTup K 2 (gCons (gName 3) (gCons (gName 4) gNil)))) rfl nd rfl rfl (sw_true rfl rfl rfl (by kernel_rfl)) (di_tup (de_var (pv 1))) (blkOk_by (own := [("version", 3), ("is_withdrawn", 4)]) (by kernel_rfl)) (fun _ _ _ _ _ => (dg_tup (n := 2) rfl (dgs_cons (dg_name (i := 3) nd rfl (.inl rfl)) (dgs_cons (dg_name (i := 4) nd rfl (.inl rfl)) dgs_nil)) (gl_cons (gl_cons gl_nil)))) (fun _ _ _ _ _ => (dts_one (DW.dt (dw_or (dt_not (dt_val (de_var (pv 4)))) (dw_or1 (dt_val (de_callO c_law_pins pm_law_pins (hr.mono (by decide)) (by rfl) (da_cons (de_var (pv 0)) (da_cons (de_var (pv 3)) da_nil))))))))) (fun _ _ _ _ _ => (de_var (pv 3))) (by decide))
      (dss_cons (ds_set (i := 2) nd rfl (.inl rfl) (de_sortK c_law_key pm_law_key (hr.mono (by decide)) hu (by rfl) (by rfl) (T.fr "sorted" (by decide +kernel)) bb_sorted (da_cons (DF.frz (df_lc (own := [("version", 3)]) (te := (tVar 3)) (tt := (tB (tCall (spD K false 2 D_law_lets) [] E0 (tCons (tVar 0) (tCons (tVar 3) tNil))))) (g := (gName 3)) rfl nd (di_list (de_var (pv 2))) (blkOk_by (own := [("version", 3)]) (by kernel_rfl)) (fun _ _ _ _ _ => (dg_name (i := 3) nd rfl (.inl rfl))) (fun _ _ _ _ _ => (dts_one (dt_val (de_callO c_law_lets pm_law_lets (hr.mono (by decide)) (by rfl) (da_cons (de_var (pv 0)) (da_cons (de_var (pv 3)) da_nil)))))) (fun _ _ _ _ _ => (de_var (pv 3))) (by decide))) da_nil)))
      (dss_cons (ds_setLc (i := 5) (own := [("version", 3)]) (te := (tVar 3)) (tt := (tNot (tB (tCall (spD K false 1 D_law_is_forerunner) [] E0 (tCons (tVar 3) tNil))))) (g := (gName 3)) rfl nd rfl rfl (sw_true rfl rfl rfl (by kernel_rfl)) (di_list (de_var (pv 2))) (blkOk_by (own := [("version", 3)]) (by kernel_rfl)) (fun _ _ _ _ _ => (dg_name (i := 3) nd rfl (.inl rfl))) (fun _ _ _ _ _ => (dts_one (dt_not (dt_val (de_callO c_law_is_forerunner pm_law_is_forerunner (hr.mono (by decide)) (by rfl) (da_cons (de_var (pv 3)) da_nil)))))) (fun _ _ _ _ _ => (de_var (pv 3))) (by decide))
      (dss_one (ds_ret (de_if (DW.dt (dw_and (dt_cmp (ob_ne hu) (de_var (pv 5)) (de_lst da_nil) (nomark _)) (dw_and1 (dt_not (dt_val (de_callO c_law_names pm_law_names (hr.mono (by decide)) (by rfl) (da_cons (de_var (pv 0)) da_nil))))))) (de_sl (de_var (pv 5)) (do_some (de_neg de_int)) do_none) (de_sl (de_var (pv 2)) (do_some (de_neg de_int)) do_none))))))), hw⟩
end
end V

set_option Elab.async false
set_option linter.all false
set_option maxRecDepth 100000
set_option maxHeartbeats 8000000
namespace V
open PySem PySem.Spec PyProof.Rows L2 DL
section
variable {P : Program} {w : World} {K : PySem.W.Frag} {mg : Str → Option Value} {base : Heap}
/-! _law_version -/
def N_law_version : List Str := ["state", "numbers", "k", "way", "small", "fore", "post", "dev"]
theorem sc_law_version : FnScope N_law_version ["state"] (defScope Hd.s_law_version) := ⟨rfl, rfl, rfl, by decide +kernel, rfl, by decide +kernel, by decide +kernel⟩
def td_law_version (D_law_draw D_law_text : DX) : TDS := (dSeq (dAsg (dFrz (dLc (diRng (dCons (dOp addR (dC (.int 1)) (dCallS 0 D_law_draw (dCons (dC (.int 3)) dNil))) dNil)) (gdName 2) dYes (dCallS 0 D_law_draw (dCons (dOp ixR (dLst (dCons (dC (.int 2)) (dCons (dC (.int 3)) (dCons (dC (.int 3)) (dCons (dC (.int 12)) dNil))))) (dCallS 0 D_law_draw (dCons (dC (.int 4)) dNil))) dNil)) [2])) (gdName 1))
  (dSeq (dIfS (dTest (dOp eqR (dCallS 0 D_law_draw (dCons (dC (.int 12)) dNil)) (dC (.int 0)))) (dAsg (dOp addR (dVar 1) (dLst (dCons (dC (.int 0)) (dCons (dCallS 0 D_law_draw (dCons (dOp powR (dC (.int 10)) (dC (.int 9))) dNil)) dNil)))) (gdName 1)) dNext)
  (dSeq (dPar 3 4 (dCallS 0 D_law_draw (dCons (dC (.int 9)) dNil)) (dLst (dCons (dC (.int 0)) (dCons (dC (.int 0)) (dCons (dC (.int 1)) (dCons (dC (.int 2)) (dCons (dCallS 0 D_law_draw (dCons (dC (.int 1000)) dNil)) dNil)))))))
  (dSeq (dAsg (dIf (dTest (dOp inR (dVar 3) (dTup (dCons (dC (.int 1)) (dCons (dC (.int 2)) (dCons (dC (.int 3)) dNil)))))) (dLst (dCons (dOp ixR (dLst (dCons (dC (.str "a")) (dCons (dC (.str "b")) (dCons (dC (.str "rc")) dNil)))) (dCallS 0 D_law_draw (dCons (dC (.int 3)) dNil))) (dCons (dOp ixR (dVar 4) (dCallS 0 D_law_draw (dCons (dC (.int 5)) dNil))) dNil))) (dLst dNil)) (gdName 5))
  (dSeq (dAsg (dIf (dTest (dOp inR (dVar 3) (dTup (dCons (dC (.int 3)) (dCons (dC (.int 4)) (dCons (dC (.int 5)) dNil)))))) (dLst (dCons (dOp ixR (dVar 4) (dCallS 0 D_law_draw (dCons (dC (.int 5)) dNil))) dNil)) (dLst dNil)) (gdName 6))
  (dSeq (dAsg (dIf (dTest (dOp inR (dVar 3) (dTup (dCons (dC (.int 2)) (dCons (dC (.int 5)) (dCons (dC (.int 6)) dNil)))))) (dLst (dCons (dOp ixR (dVar 4) (dCallS 0 D_law_draw (dCons (dC (.int 5)) dNil))) dNil)) (dLst dNil)) (gdName 7))
  (dRet (dCall D_law_text (dCons (dOp ixR (dLst (dCons (dC (.int 0)) (dCons (dC (.int 0)) (dCons (dC (.int 0)) (dCons (dC (.int 0)) (dCons (dC (.int 0)) (dCons (dC (.int 1)) (dCons (dC (.int 1)) (dCons (dC (.int 7)) dNil))))))))) (dCallS 0 D_law_draw (dCons (dC (.int 8)) dNil))) (dCons (dVar 1) (dCons (dVar 5) (dCons (dVar 6) (dCons (dVar 7) dNil)))))))))))))
theorem ok_law_version (T : Txt K mg) {D_law_draw D_law_text : DX} (pm_law_draw : Pm 1 D_law_draw) (c_law_draw : Okd P w K mg base 2 "_law_draw" ["state", "many"] true 1 D_law_draw) (pm_law_text : Pm 5 D_law_text) (c_law_text : Okd P w K mg base 1 "_law_text" ["epoch", "numbers", "fore", "post", "dev"] false 5 D_law_text) {D : DX} (hw : ∀ ds n Q, D ds n Q → td_law_version D_law_draw D_law_text (ends Q) (entry true N_law_version ds n)) : Okd P w K mg base 3 "_law_version" ["state"] true 0 D := by
  obtain ⟨hm, fd, Fd⟩ := T.fn 59 "_law_version" Hd.s_law_version rfl
  refine ⟨fd, hm, Fd.kp, Fd.bindsN (fun _ _ _ _ _ _ us hl => match us, hl with | [_], _ => rfl), ?_⟩
  refine fnD Fd sc_law_version rfl (fun cdv A outer s H E hr => ?_)
  have nd := sc_law_version.nd
  have hu : (A.deeper (envOfC "_law_version" (defScope Hd.s_law_version) s.heap.objs.size (He.ga K "_law_version") cdv)).units + 64 < cLine := hr.units
  have hu5 : (A.deeper (envOfC "_law_version" (defScope Hd.s_law_version) s.heap.objs.size (He.ga K "_law_version") cdv)).units + 65 < cLine := by have := hr.un; omega
  have hu1 : (A.deeper (envOfC "_law_version" (defScope Hd.s_law_version) s.heap.objs.size (He.ga K "_law_version") cdv)).units + 1 < cLine := by have := hr.un; omega
  exact ⟨_, td_law_version D_law_draw D_law_text, (dss_cons (ds_setLc (i := 1) (own := [("k", 2)]) (te := (tCall (spD K true 1 D_law_draw) [] E0 (tCons (tVar 0) (tCons (tOp (rIxA K) (tLst (tCons (tC (.int 2)) (tCons (tC (.int 3)) (tCons (tC (.int 3)) (tCons (tC (.int 12)) tNil))))) (tCall (spD K true 1 D_law_draw) [] E0 (tCons (tVar 0) (tCons (tC (.int 4)) tNil)))) tNil)))) (tt := tYes) (g := (gName 2)) rfl nd rfl rfl (sw_true rfl rfl rfl (by kernel_rfl)) (di_range (by rfl) (T.fr "range" (by decide +kernel)) (da_cons (de_op ob_add de_int (de_callOS c_law_draw pm_law_draw (hr.mono (by decide)) (by rfl) (pv 0) (da_cons de_int da_nil))) da_nil)) (blkOk_by (own := [("k", 2)]) (by kernel_rfl)) (fun _ _ _ _ _ => (dg_name (i := 2) nd rfl (.inl rfl))) (fun _ _ _ _ _ => dts_nil) (fun _ _ _ _ _ => (de_callOS c_law_draw pm_law_draw (hr.mono (by decide)) (by rfl) (pv 0) (da_cons (de_ix (de_lst (da_cons de_int (da_cons de_int (da_cons de_int (da_cons de_int da_nil))))) (de_callOS c_law_draw pm_law_draw (hr.mono (by decide)) (by rfl) (pv 0) (da_cons de_int da_nil)) (fun _ _ => rfl)) da_nil))) (by decide))
      (dss_cons (ds_if (dt_cmp (ob_eq hu) (de_callOS c_law_draw pm_law_draw (hr.mono (by decide)) (by rfl) (pv 0) (da_cons de_int da_nil)) de_int (nomark _)) (dss_one (ds_set (i := 1) nd rfl (.inl rfl) (de_op ob_add (de_var (pv 1)) (de_lst (da_cons de_int (da_cons (de_callOS c_law_draw pm_law_draw (hr.mono (by decide)) (by rfl) (pv 0) (da_cons (de_op ob_pow de_int de_int) da_nil)) da_nil)))))) dss_nil)
      (dss_cons (ds_par (i := 3) (j := 4) rfl nd rfl rfl (by decide) rfl rfl (de_callOS c_law_draw pm_law_draw (hr.mono (by decide)) (by rfl) (pv 0) (da_cons de_int da_nil)) (de_lst (da_cons de_int (da_cons de_int (da_cons de_int (da_cons de_int (da_cons (de_callOS c_law_draw pm_law_draw (hr.mono (by decide)) (by rfl) (pv 0) (da_cons de_int da_nil)) da_nil)))))))
      (dss_cons (ds_set (i := 5) nd rfl (.inl rfl) (de_if (dt_cmp (ob_in hu5) (de_var (pv 3)) (de_tup (da_cons de_int (da_cons de_int (da_cons de_int da_nil)))) rfl) (de_lst (da_cons (de_ix (de_lst (da_cons de_str (da_cons de_str (da_cons de_str da_nil)))) (de_callOS c_law_draw pm_law_draw (hr.mono (by decide)) (by rfl) (pv 0) (da_cons de_int da_nil)) (fun _ _ => rfl)) (da_cons (de_ix (de_var (pv 4)) (de_callOS c_law_draw pm_law_draw (hr.mono (by decide)) (by rfl) (pv 0) (da_cons de_int da_nil)) (fun _ _ => rfl)) da_nil))) (de_lst da_nil)))
      (dss_cons (ds_set (i := 6) nd rfl (.inl rfl) (de_if (dt_cmp (ob_in hu5) (de_var (pv 3)) (de_tup (da_cons de_int (da_cons de_int (da_cons de_int da_nil)))) rfl) (de_lst (da_cons (de_ix (de_var (pv 4)) (de_callOS c_law_draw pm_law_draw (hr.mono (by decide)) (by rfl) (pv 0) (da_cons de_int da_nil)) (fun _ _ => rfl)) da_nil)) (de_lst da_nil)))
      (dss_cons (ds_set (i := 7) nd rfl (.inl rfl) (de_if (dt_cmp (ob_in hu5) (de_var (pv 3)) (de_tup (da_cons de_int (da_cons de_int (da_cons de_int da_nil)))) rfl) (de_lst (da_cons (de_ix (de_var (pv 4)) (de_callOS c_law_draw pm_law_draw (hr.mono (by decide)) (by rfl) (pv 0) (da_cons de_int da_nil)) (fun _ _ => rfl)) da_nil)) (de_lst da_nil)))
      (dss_one (ds_ret (de_callO c_law_text pm_law_text (hr.mono (by decide)) (by rfl) (da_cons (de_ix (de_lst (da_cons de_int (da_cons de_int (da_cons de_int (da_cons de_int (da_cons de_int (da_cons de_int (da_cons de_int (da_cons de_int da_nil))))))))) (de_callOS c_law_draw pm_law_draw (hr.mono (by decide)) (by rfl) (pv 0) (da_cons de_int da_nil)) (fun _ _ => rfl)) (da_cons (de_var (pv 1)) (da_cons (de_var (pv 5)) (da_cons (de_var (pv 6)) (da_cons (de_var (pv 7)) da_nil)))))))))))))), hw⟩
/-! _law_plain -/
def N_law_plain : List Str := ["state", "numbers", "k"]
theorem sc_law_plain : FnScope N_law_plain ["state"] (defScope Hd.s_law_plain) := ⟨rfl, rfl, rfl, by decide +kernel, rfl, by decide +kernel, by decide +kernel⟩
def td_law_plain (D_law_draw D_law_text : DX) : TDS := (dSeq (dAsg (dFrz (dLc (diRng (dCons (dOp addR (dC (.int 1)) (dCallS 0 D_law_draw (dCons (dC (.int 3)) dNil))) dNil)) (gdName 2) dYes (dCallS 0 D_law_draw (dCons (dC (.int 3)) dNil)) [2])) (gdName 1))
  (dRet (dCall D_law_text (dCons (dCB intR1 (dCons (dOp eqR (dCallS 0 D_law_draw (dCons (dC (.int 9)) dNil)) (dC (.int 0))) dNil)) (dCons (dVar 1) (dCons (dLst dNil) (dCons (dLst dNil) (dCons (dLst dNil) dNil))))))))
theorem ok_law_plain (T : Txt K mg) {D_law_draw D_law_text : DX} (pm_law_draw : Pm 1 D_law_draw) (c_law_draw : Okd P w K mg base 2 "_law_draw" ["state", "many"] true 1 D_law_draw) (pm_law_text : Pm 5 D_law_text) (c_law_text : Okd P w K mg base 1 "_law_text" ["epoch", "numbers", "fore", "post", "dev"] false 5 D_law_text) {D : DX} (hw : ∀ ds n Q, D ds n Q → td_law_plain D_law_draw D_law_text (ends Q) (entry true N_law_plain ds n)) : Okd P w K mg base 3 "_law_plain" ["state"] true 0 D := by
  obtain ⟨hm, fd, Fd⟩ := T.fn 60 "_law_plain" Hd.s_law_plain rfl
  refine ⟨fd, hm, Fd.kp, Fd.bindsN (fun _ _ _ _ _ _ us hl => match us, hl with | [_], _ => rfl), ?_⟩
  refine fnD Fd sc_law_plain rfl (fun cdv A outer s H E hr => ?_)
  have nd := sc_law_plain.nd
  have hu : (A.deeper (envOfC "_law_plain" (defScope Hd.s_law_plain) s.heap.objs.size (He.ga K "_law_plain") cdv)).units + 64 < cLine := hr.units
  have hu5 : (A.deeper (envOfC "_law_plain" (defScope Hd.s_law_plain) s.heap.objs.size (He.ga K "_law_plain") cdv)).units + 65 < cLine := by have := hr.un; omega
  have hu1 : (A.deeper (envOfC "_law_plain" (defScope Hd.s_law_plain) s.heap.objs.size (He.ga K "_law_plain") cdv)).units + 1 < cLine := by have := hr.un; omega
  exact ⟨_, td_law_plain D_law_draw D_law_text, (dss_cons (ds_setLc (i := 1) (own := [("k", 2)]) (te := (tCall (spD K true 1 D_law_draw) [] E0 (tCons (tVar 0) (tCons (tC (.int 3)) tNil)))) (tt := tYes) (g := (gName 2)) rfl nd rfl rfl (sw_true rfl rfl rfl (by kernel_rfl)) (di_range (by rfl) (T.fr "range" (by decide +kernel)) (da_cons (de_op ob_add de_int (de_callOS c_law_draw pm_law_draw (hr.mono (by decide)) (by rfl) (pv 0) (da_cons de_int da_nil))) da_nil)) (blkOk_by (own := [("k", 2)]) (by kernel_rfl)) (fun _ _ _ _ _ => (dg_name (i := 2) nd rfl (.inl rfl))) (fun _ _ _ _ _ => dts_nil) (fun _ _ _ _ _ => (de_callOS c_law_draw pm_law_draw (hr.mono (by decide)) (by rfl) (pv 0) (da_cons de_int da_nil))) (by decide))
      (dss_one (ds_ret (de_callO c_law_text pm_law_text (hr.mono (by decide)) (by rfl) (da_cons (de_callTy db_int (by rfl) (T.fr "int" (by decide +kernel)) bb_int (da_cons (de_cmp (ob_eq hu) (de_callOS c_law_draw pm_law_draw (hr.mono (by decide)) (by rfl) (pv 0) (da_cons de_int da_nil)) de_int (nomark _)) da_nil)) (da_cons (de_var (pv 1)) (da_cons (de_lst da_nil) (da_cons (de_lst da_nil) (da_cons (de_lst da_nil) da_nil))))))))), hw⟩
/-! _law_clause -/
def N_law_clause : List Str := ["state", "way", "epoch", "numbers", "fore", "post", "dev"]
theorem sc_law_clause : FnScope N_law_clause ["state"] (defScope Hd.s_law_clause) := ⟨rfl, rfl, rfl, by decide +kernel, rfl, by decide +kernel, by decide +kernel⟩
def td_law_clause (D_law_draw D_law_version D_law_plain D_law_parts D_law_text : DX) : TDS := (dSeq (dAsg (dCallS 0 D_law_draw (dCons (dC (.int 12)) dNil)) (gdName 1))
  (dSeq (dIfS (dTest (dOp ltR (dVar 1) (dC (.int 4)))) (dRet (dTup (dCons (dOp ixR (dLst (dCons (dC (.str ">=")) (dCons (dC (.str "<=")) dNil))) (dCallS 0 D_law_draw (dCons (dC (.int 2)) dNil))) (dCons (dCallS 0 D_law_version dNil) dNil)))) dNext)
  (dSeq (dIfS (dTest (dOp ltR (dVar 1) (dC (.int 6)))) (dRet (dTup (dCons (dOp ixR (dLst (dCons (dC (.str "<")) (dCons (dC (.str ">")) dNil))) (dOp subR (dVar 1) (dC (.int 4)))) (dCons (dCallS 0 D_law_plain dNil) dNil)))) dNext)
  (dSeq (dIfS (dTest (dOp ltR (dVar 1) (dC (.int 9)))) (dRet (dTup (dCons (dOp ixR (dLst (dCons (dC (.str "==")) (dCons (dC (.str "!=")) (dCons (dC (.str "!=")) dNil)))) (dOp subR (dVar 1) (dC (.int 6)))) (dCons (dOp addR (dCallS 0 D_law_plain dNil) (dC (.str ".*"))) dNil)))) dNext)
  (dSeq (dIfS (dTest (dOp ltR (dVar 1) (dC (.int 11)))) (dRet (dTup (dCons (dOp ixR (dLst (dCons (dC (.str "==")) (dCons (dC (.str "!=")) dNil))) (dOp subR (dVar 1) (dC (.int 9)))) (dCons (dCallS 0 D_law_version dNil) dNil)))) dNext)
  (dSeq (dAsg (dCall D_law_parts (dCons (dCallS 0 D_law_version dNil) dNil)) (gdTup (gdCons (gdName 2) (gdCons (gdName 3) (gdCons (gdName 4) (gdCons (gdName 5) (gdCons (gdName 6) gdNil)))))))
  (dRet (dTup (dCons (dC (.str "~=")) (dCons (dCall D_law_text (dCons (dVar 2) (dCons (dSl (dOp addR (dVar 3) (dLst (dCons (dCallS 0 D_law_draw (dCons (dC (.int 3)) dNil)) dNil))) dNoPart (dPart (dC (.int 4)))) (dCons (dVar 4) (dCons (dVar 5) (dCons (dVar 6) dNil)))))) dNil))))))))))
theorem ok_law_clause (T : Txt K mg) {D_law_draw D_law_version D_law_plain D_law_parts D_law_text : DX} (pm_law_draw : Pm 1 D_law_draw) (c_law_draw : Okd P w K mg base 2 "_law_draw" ["state", "many"] true 1 D_law_draw) (pm_law_version : Pm 0 D_law_version) (c_law_version : Okd P w K mg base 3 "_law_version" ["state"] true 0 D_law_version) (pm_law_plain : Pm 0 D_law_plain) (c_law_plain : Okd P w K mg base 3 "_law_plain" ["state"] true 0 D_law_plain) (pm_law_parts : Pm 1 D_law_parts) (c_law_parts : Okd P w K mg base 1 "_law_parts" ["text"] false 1 D_law_parts) (pm_law_text : Pm 5 D_law_text) (c_law_text : Okd P w K mg base 1 "_law_text" ["epoch", "numbers", "fore", "post", "dev"] false 5 D_law_text) {D : DX} (hw : ∀ ds n Q, D ds n Q → td_law_clause D_law_draw D_law_version D_law_plain D_law_parts D_law_text (ends Q) (entry true N_law_clause ds n)) : Okd P w K mg base 4 "_law_clause" ["state"] true 0 D := by
  obtain ⟨hm, fd, Fd⟩ := T.fn 61 "_law_clause" Hd.s_law_clause rfl
  refine ⟨fd, hm, Fd.kp, Fd.bindsN (fun _ _ _ _ _ _ us hl => match us, hl with | [_], _ => rfl), ?_⟩
  refine fnD Fd sc_law_clause rfl (fun cdv A outer s H E hr => ?_)
  have nd := sc_law_clause.nd
  have hu : (A.deeper (envOfC "_law_clause" (defScope Hd.s_law_clause) s.heap.objs.size (He.ga K "_law_clause") cdv)).units + 64 < cLine := hr.units
  have hu5 : (A.deeper (envOfC "_law_clause" (defScope Hd.s_law_clause) s.heap.objs.size (He.ga K "_law_clause") cdv)).units + 65 < cLine := by have := hr.un; omega
  have hu1 : (A.deeper (envOfC "_law_clause" (defScope Hd.s_law_clause) s.heap.objs.size (He.ga K "_law_clause") cdv)).units + 1 < cLine := by have := hr.un; omega
  exact ⟨_, td_law_clause D_law_draw D_law_version D_law_plain D_law_parts D_law_text, (dss_cons (ds_set (i := 1) nd rfl (.inl rfl) (de_callOS c_law_draw pm_law_draw (hr.mono (by decide)) (by rfl) (pv 0) (da_cons de_int da_nil)))
      (dss_cons (ds_if (dt_cmp (ob_lt hu) (de_var (pv 1)) de_int (nomark _)) (dss_one (ds_ret (de_tup (da_cons (de_ix (de_lst (da_cons de_str (da_cons de_str da_nil))) (de_callOS c_law_draw pm_law_draw (hr.mono (by decide)) (by rfl) (pv 0) (da_cons de_int da_nil)) (fun _ _ => rfl)) (da_cons (de_callOS c_law_version pm_law_version (hr.mono (by decide)) (by rfl) (pv 0) da_nil) da_nil))))) dss_nil)
      (dss_cons (ds_if (dt_cmp (ob_lt hu) (de_var (pv 1)) de_int (nomark _)) (dss_one (ds_ret (de_tup (da_cons (de_ix (de_lst (da_cons de_str (da_cons de_str da_nil))) (de_op ob_sub (de_var (pv 1)) de_int) (fun _ _ => rfl)) (da_cons (de_callOS c_law_plain pm_law_plain (hr.mono (by decide)) (by rfl) (pv 0) da_nil) da_nil))))) dss_nil)
      (dss_cons (ds_if (dt_cmp (ob_lt hu) (de_var (pv 1)) de_int (nomark _)) (dss_one (ds_ret (de_tup (da_cons (de_ix (de_lst (da_cons de_str (da_cons de_str (da_cons de_str da_nil)))) (de_op ob_sub (de_var (pv 1)) de_int) (fun _ _ => rfl)) (da_cons (de_op ob_add (de_callOS c_law_plain pm_law_plain (hr.mono (by decide)) (by rfl) (pv 0) da_nil) de_str) da_nil))))) dss_nil)
      (dss_cons (ds_if (dt_cmp (ob_lt hu) (de_var (pv 1)) de_int (nomark _)) (dss_one (ds_ret (de_tup (da_cons (de_ix (de_lst (da_cons de_str (da_cons de_str da_nil))) (de_op ob_sub (de_var (pv 1)) de_int) (fun _ _ => rfl)) (da_cons (de_callOS c_law_version pm_law_version (hr.mono (by decide)) (by rfl) (pv 0) da_nil) da_nil))))) dss_nil)
      (dss_cons (ds_asg (de_callO c_law_parts pm_law_parts (hr.mono (by decide)) (by rfl) (da_cons (de_callOS c_law_version pm_law_version (hr.mono (by decide)) (by rfl) (pv 0) da_nil) da_nil)) (dg_tup (n := 5) rfl (dgs_cons (dg_name (i := 2) nd rfl (.inl rfl)) (dgs_cons (dg_name (i := 3) nd rfl (.inl rfl)) (dgs_cons (dg_name (i := 4) nd rfl (.inl rfl)) (dgs_cons (dg_name (i := 5) nd rfl (.inl rfl)) (dgs_cons (dg_name (i := 6) nd rfl (.inl rfl)) dgs_nil))))) (gl_cons (gl_cons (gl_cons (gl_cons (gl_cons gl_nil)))))))
      (dss_one (ds_ret (de_tup (da_cons de_str (da_cons (de_callO c_law_text pm_law_text (hr.mono (by decide)) (by rfl) (da_cons (de_var (pv 2)) (da_cons (de_sl (de_op ob_add (de_var (pv 3)) (de_lst (da_cons (de_callOS c_law_draw pm_law_draw (hr.mono (by decide)) (by rfl) (pv 0) (da_cons de_int da_nil)) da_nil))) do_none (do_some de_int)) (da_cons (de_var (pv 4)) (da_cons (de_var (pv 5)) (da_cons (de_var (pv 6)) da_nil)))))) da_nil))))))))))), hw⟩
/-! _law_requirement -/
def N_law_requirement : List Str := ["state", "most", "k"]
theorem sc_law_requirement : FnScope N_law_requirement ["state", "most"] (defScope Hd.s_law_requirement) := ⟨rfl, rfl, rfl, by decide +kernel, rfl, by decide +kernel, by decide +kernel⟩
def td_law_requirement (D_law_draw D_law_clause : DX) : TDS := (dRet (dCB tupR1 (dCons (dFrz (dLc (diRng (dCons (dCallS 0 D_law_draw (dCons (dOp addR (dVar 1) (dC (.int 1))) dNil)) dNil)) (gdName 2) dYes (dCallS 0 D_law_clause dNil) [2])) dNil)))
theorem ok_law_requirement (T : Txt K mg) {D_law_draw D_law_clause : DX} (pm_law_draw : Pm 1 D_law_draw) (c_law_draw : Okd P w K mg base 2 "_law_draw" ["state", "many"] true 1 D_law_draw) (pm_law_clause : Pm 0 D_law_clause) (c_law_clause : Okd P w K mg base 4 "_law_clause" ["state"] true 0 D_law_clause) {D : DX} (hw : ∀ ds n Q, D ds n Q → td_law_requirement D_law_draw D_law_clause (ends Q) (entry true N_law_requirement ds n)) : Okd P w K mg base 5 "_law_requirement" ["state", "most"] true 1 D := by
  obtain ⟨hm, fd, Fd⟩ := T.fn 62 "_law_requirement" Hd.s_law_requirement rfl
  refine ⟨fd, hm, Fd.kp, Fd.bindsN (fun _ _ _ _ _ _ us hl => match us, hl with | [_, _], _ => rfl), ?_⟩
  refine fnD Fd sc_law_requirement rfl (fun cdv A outer s H E hr => ?_)
  have nd := sc_law_requirement.nd
  have hu : (A.deeper (envOfC "_law_requirement" (defScope Hd.s_law_requirement) s.heap.objs.size (He.ga K "_law_requirement") cdv)).units + 64 < cLine := hr.units
  have hu5 : (A.deeper (envOfC "_law_requirement" (defScope Hd.s_law_requirement) s.heap.objs.size (He.ga K "_law_requirement") cdv)).units + 65 < cLine := by have := hr.un; omega
  have hu1 : (A.deeper (envOfC "_law_requirement" (defScope Hd.s_law_requirement) s.heap.objs.size (He.ga K "_law_requirement") cdv)).units + 1 < cLine := by have := hr.un; omega
  exact ⟨_, td_law_requirement D_law_draw D_law_clause, (dss_one (ds_ret (de_callTy (db_tuple rfl) (by rfl) (T.fr "tuple" (by decide +kernel)) bb_tuple (da_cons (DF.frz (df_lc (own := [("k", 2)]) (te := (tCall (spD K true 0 D_law_clause) [] E0 (tCons (tVar 0) tNil))) (tt := tYes) (g := (gName 2)) rfl nd (di_range (by rfl) (T.fr "range" (by decide +kernel)) (da_cons (de_callOS c_law_draw pm_law_draw (hr.mono (by decide)) (by rfl) (pv 0) (da_cons (de_op ob_add (de_var (pv 1)) de_int) da_nil)) da_nil)) (blkOk_by (own := [("k", 2)]) (by kernel_rfl)) (fun _ _ _ _ _ => (dg_name (i := 2) nd rfl (.inl rfl))) (fun _ _ _ _ _ => dts_nil) (fun _ _ _ _ _ => (de_callOS c_law_clause pm_law_clause (hr.mono (by decide)) (by rfl) (pv 0) da_nil)) (by decide))) da_nil)))), hw⟩
/-! _law_releases -/
def N_law_releases : List Str := ["state", "most", "some", "found", "keys", "k", "version"]
theorem sc_law_releases : FnScope N_law_releases ["state", "most", "some"] (defScope Hd.s_law_releases) := ⟨rfl, rfl, rfl, by decide +kernel, rfl, by decide +kernel, by decide +kernel⟩
def td_law_releases (D_law_draw D_law_version D_law_key : DX) : TDS := (dSeq (dParOwn2 3 4)
  (dSeq (dFor (diRng (dCons (dCallS 0 D_law_draw (dCons (dOp addR (dVar 1) (dC (.int 1))) dNil)) dNil)) (gdName 5) (dSeq (dAsg (dIf (dTest (dOp eqR (dCallS 0 D_law_draw (dCons (dC (.int 2)) dNil)) (dC (.int 0)))) (dCallS 0 D_law_version dNil) (dOp ixR (dVar 2) (dCallS 0 D_law_draw (dCons (dCB lenR (dCons (dVar 2) dNil)) dNil)))) (gdName 6))
  (dIfS (dTest (dInOwn true 4 (dCall D_law_key (dCons (dVar 6) dNil)))) (dSeq (dDrop (dApp 4 (dCall D_law_key (dCons (dVar 6) dNil))))
  (dDrop (dApp 3 (dTup (dCons (dVar 6) (dCons (dOp eqR (dCallS 0 D_law_draw (dCons (dC (.int 5)) dNil)) (dC (.int 0))) dNil)))))) dNext)))
  (dRet (dCB tupR1 (dCons (dGive 3) dNil)))))
theorem ok_law_releases (T : Txt K mg) {D_law_draw D_law_version D_law_key : DX} (pm_law_draw : Pm 1 D_law_draw) (c_law_draw : Okd P w K mg base 2 "_law_draw" ["state", "many"] true 1 D_law_draw) (pm_law_version : Pm 0 D_law_version) (c_law_version : Okd P w K mg base 3 "_law_version" ["state"] true 0 D_law_version) (pm_law_key : Pm 1 D_law_key) (c_law_key : Okd P w K mg base 2 "_law_key" ["text"] false 1 D_law_key) {D : DX} (hw : ∀ ds n Q, D ds n Q → td_law_releases D_law_draw D_law_version D_law_key (ends Q) (entry true N_law_releases ds n)) : Okd P w K mg base 4 "_law_releases" ["state", "most", "some"] true 2 D := by
  obtain ⟨hm, fd, Fd⟩ := T.fn 63 "_law_releases" Hd.s_law_releases rfl
  refine ⟨fd, hm, Fd.kp, Fd.bindsN (fun _ _ _ _ _ _ us hl => match us, hl with | [_, _, _], _ => rfl), ?_⟩
  refine fnD Fd sc_law_releases rfl (fun cdv A outer s H E hr => ?_)
  have nd := sc_law_releases.nd
  have hu : (A.deeper (envOfC "_law_releases" (defScope Hd.s_law_releases) s.heap.objs.size (He.ga K "_law_releases") cdv)).units + 64 < cLine := hr.units
  have hu5 : (A.deeper (envOfC "_law_releases" (defScope Hd.s_law_releases) s.heap.objs.size (He.ga K "_law_releases") cdv)).units + 65 < cLine := by have := hr.un; omega
  have hu1 : (A.deeper (envOfC "_law_releases" (defScope Hd.s_law_releases) s.heap.objs.size (He.ga K "_law_releases") cdv)).units + 1 < cLine := by have := hr.un; omega
  exact ⟨_, td_law_releases D_law_draw D_law_version D_law_key, (dss_cons (ds_parOwn2 (i := 3) (j := 4) rfl nd rfl rfl (by decide) rfl rfl)
      (dss_cons (ds_for PassesOwn.never rfl (di_range (by rfl) (T.fr "range" (by decide +kernel)) (da_cons (de_callOS c_law_draw pm_law_draw (hr.mono (by decide)) (by rfl) (pv 0) (da_cons (de_op ob_add (de_var (pv 1)) de_int) da_nil)) da_nil)) (dg_name (i := 5) nd rfl (.inl rfl)) (dss_cons (ds_set (i := 6) nd rfl (.inl rfl) (de_if (dt_cmp (ob_eq hu) (de_callOS c_law_draw pm_law_draw (hr.mono (by decide)) (by rfl) (pv 0) (da_cons de_int da_nil)) de_int (nomark _)) (de_callOS c_law_version pm_law_version (hr.mono (by decide)) (by rfl) (pv 0) da_nil) (de_ix (de_var (pv 2)) (de_callOS c_law_draw pm_law_draw (hr.mono (by decide)) (by rfl) (pv 0) (da_cons (de_callB db_len (by rfl) (T.fr "len" (by decide +kernel)) bb_len (da_cons (de_var (pv 2)) da_nil)) da_nil)) (fun _ _ => rfl))))
      (dss_one (ds_if (dt_notinOwn hu5 (pv 4) (de_callO c_law_key pm_law_key (hr.mono (by decide)) (by rfl) (da_cons (de_var (pv 6)) da_nil))) (dss_cons (ds_expr (de_app (pv 4) (de_callO c_law_key pm_law_key (hr.mono (by decide)) (by rfl) (da_cons (de_var (pv 6)) da_nil))))
      (dss_one (ds_expr (de_app (pv 3) (de_tup (da_cons (de_var (pv 6)) (da_cons (de_cmp (ob_eq hu) (de_callOS c_law_draw pm_law_draw (hr.mono (by decide)) (by rfl) (pv 0) (da_cons de_int da_nil)) de_int (nomark _)) da_nil))))))) dss_nil))))
      (dss_one (ds_ret (de_callTy (db_tuple rfl) (by rfl) (T.fr "tuple" (by decide +kernel)) bb_tuple (da_cons (de_give (pv 3)) da_nil)))))), hw⟩
/-! _law_around -/
def N_law_around : List Str := ["clause", "text", "epoch", "numbers", "fore", "post", "dev", "more", "less", "rows", "row"]
theorem sc_law_around : FnScope N_law_around ["clause"] (defScope Hd.s_law_around) := ⟨rfl, rfl, rfl, by decide +kernel, rfl, by decide +kernel, by decide +kernel⟩
def td_law_around (D_law_parts D_law_text : DX) : TDS := (dSeq (dAsg (dIf (dTest (dOp eqR (dSl (dOp ixR (dVar 0) (dC (.int 1))) (dPart (dNeg (dC (.int 2)))) dNoPart) (dC (.str ".*")))) (dSl (dOp ixR (dVar 0) (dC (.int 1))) dNoPart (dPart (dNeg (dC (.int 2))))) (dOp ixR (dVar 0) (dC (.int 1)))) (gdName 1))
  (dSeq (dAsg (dCall D_law_parts (dCons (dVar 1) dNil)) (gdTup (gdCons (gdName 2) (gdCons (gdName 3) (gdCons (gdName 4) (gdCons (gdName 5) (gdCons (gdName 6) gdNil)))))))
  (dSeq (dPar 7 8 (dOp addR (dSl (dVar 3) dNoPart (dPart (dNeg (dC (.int 1))))) (dLst (dCons (dOp addR (dOp ixR (dVar 3) (dNeg (dC (.int 1)))) (dC (.int 1))) dNil))) (dSl (dVar 3) dNoPart (dPart (dNeg (dC (.int 1))))))
  (dSeq (dSetOwn 9 (dfLst (dCons (dTup (dCons (dVar 3) (dCons (dVar 4) (dCons (dVar 5) (dCons (dVar 6) dNil))))) (dCons (dTup (dCons (dVar 3) (dCons (dVar 4) (dCons (dVar 5) (dCons (dLst (dCons (dC (.int 0)) dNil)) dNil))))) (dCons (dTup (dCons (dVar 3) (dCons (dVar 4) (dCons (dLst (dCons (dC (.int 9)) dNil)) (dCons (dLst dNil) dNil))))) (dCons (dTup (dCons (dVar 3) (dCons (dLst dNil) (dCons (dLst dNil) (dCons (dLst dNil) dNil))))) dNil))))))
  (dSeq (dSetOwn 9 (dfCat (dGive 9) (dLst (dCons (dTup (dCons (dVar 3) (dCons (dLst (dCons (dC (.str "rc")) (dCons (dC (.int 4)) dNil))) (dCons (dLst dNil) (dCons (dLst dNil) dNil))))) (dCons (dTup (dCons (dVar 3) (dCons (dLst dNil) (dCons (dLst (dCons (dC (.int 0)) dNil)) (dCons (dLst (dCons (dC (.int 0)) dNil)) dNil))))) (dCons (dTup (dCons (dOp addR (dVar 3) (dLst (dCons (dC (.int 0)) (dCons (dC (.int 1)) dNil)))) (dCons (dLst dNil) (dCons (dLst dNil) (dCons (dLst dNil) dNil))))) dNil))))))
  (dSeq (dSetOwn 9 (dfCat (dGive 9) (dLst (dCons (dTup (dCons (dOp addR (dVar 3) (dLst (dCons (dC (.int 5)) dNil))) (dCons (dLst (dCons (dC (.str "b")) (dCons (dC (.int 1)) dNil))) (dCons (dLst dNil) (dCons (dLst dNil) dNil))))) (dCons (dTup (dCons (dVar 7) (dCons (dLst dNil) (dCons (dLst dNil) (dCons (dLst (dCons (dC (.int 0)) dNil)) dNil))))) (dCons (dTup (dCons (dVar 7) (dCons (dLst dNil) (dCons (dLst dNil) (dCons (dLst dNil) dNil))))) dNil))))))
  (dSeq (dDrop (dApp 9 (dTup (dCons (dOp addR (dVar 7) (dLst (dCons (dC (.int 0)) dNil))) (dCons (dLst dNil) (dCons (dLst (dCons (dC (.int 2)) dNil)) (dCons (dLst dNil) dNil)))))))
  (dSeq (dSetOwn 9 (dfCat (dGive 9) (dIf (dTest (dOp neR (dVar 8) (dLst dNil))) (dLst (dCons (dTup (dCons (dOp addR (dVar 8) (dLst (dCons (dC (.int 0)) (dCons (dC (.int 0)) (dCons (dC (.int 3)) dNil))))) (dCons (dLst dNil) (dCons (dLst dNil) (dCons (dLst dNil) dNil))))) (dCons (dTup (dCons (dVar 8) (dCons (dLst dNil) (dCons (dLst dNil) (dCons (dLst (dCons (dC (.int 1)) dNil)) dNil))))) dNil))) (dLst dNil))))
  (dRet (dFrz (dLc (diL (dGive 9)) (gdName 10) dYes (dCall D_law_text (dCons (dVar 2) (dCons (dOp ixR (dVar 10) (dC (.int 0))) (dCons (dOp ixR (dVar 10) (dC (.int 1))) (dCons (dOp ixR (dVar 10) (dC (.int 2))) (dCons (dOp ixR (dVar 10) (dC (.int 3))) dNil)))))) [10])))))))))))
theorem ok_law_around (T : Txt K mg) {D_law_parts D_law_text : DX} (pm_law_parts : Pm 1 D_law_parts) (c_law_parts : Okd P w K mg base 1 "_law_parts" ["text"] false 1 D_law_parts) (pm_law_text : Pm 5 D_law_text) (c_law_text : Okd P w K mg base 1 "_law_text" ["epoch", "numbers", "fore", "post", "dev"] false 5 D_law_text) {D : DX} (hw : ∀ ds n Q, D ds n Q → td_law_around D_law_parts D_law_text (ends Q) (entry false N_law_around ds n)) : Okd P w K mg base 2 "_law_around" ["clause"] false 1 D := by
  obtain ⟨hm, fd, Fd⟩ := T.fn 64 "_law_around" Hd.s_law_around rfl
  refine ⟨fd, hm, Fd.kp, Fd.bindsN (fun _ _ _ _ _ _ us hl => match us, hl with | [_], _ => rfl), ?_⟩
  refine fnD Fd sc_law_around rfl (fun cdv A outer s H E hr => ?_)
  have nd := sc_law_around.nd
  have hu : (A.deeper (envOfC "_law_around" (defScope Hd.s_law_around) s.heap.objs.size (He.ga K "_law_around") cdv)).units + 64 < cLine := hr.units
  have hu5 : (A.deeper (envOfC "_law_around" (defScope Hd.s_law_around) s.heap.objs.size (He.ga K "_law_around") cdv)).units + 65 < cLine := by have := hr.un; omega
  have hu1 : (A.deeper (envOfC "_law_around" (defScope Hd.s_law_around) s.heap.objs.size (He.ga K "_law_around") cdv)).units + 1 < cLine := by have := hr.un; omega
  exact ⟨_, td_law_around D_law_parts D_law_text, (dss_cons (ds_set (i := 1) nd rfl (.inl rfl) (de_if (dt_cmp (ob_eq hu) (de_sl (de_ix (de_var (pv 0)) de_int (fun _ _ => rfl)) (do_some (de_neg de_int)) do_none) de_str (nomark _)) (de_sl (de_ix (de_var (pv 0)) de_int (fun _ _ => rfl)) do_none (do_some (de_neg de_int))) (de_ix (de_var (pv 0)) de_int (fun _ _ => rfl))))
      (dss_cons (ds_asg (de_callO c_law_parts pm_law_parts (hr.mono (by decide)) (by rfl) (da_cons (de_var (pv 1)) da_nil)) (dg_tup (n := 5) rfl (dgs_cons (dg_name (i := 2) nd rfl (.inr rfl)) (dgs_cons (dg_name (i := 3) nd rfl (.inl rfl)) (dgs_cons (dg_name (i := 4) nd rfl (.inl rfl)) (dgs_cons (dg_name (i := 5) nd rfl (.inl rfl)) (dgs_cons (dg_name (i := 6) nd rfl (.inl rfl)) dgs_nil))))) (gl_cons (gl_cons (gl_cons (gl_cons (gl_cons gl_nil)))))))
      (dss_cons (ds_par (i := 7) (j := 8) rfl nd rfl rfl (by decide) rfl rfl (de_op ob_add (de_sl (de_var (pv 3)) do_none (do_some (de_neg de_int))) (de_lst (da_cons (de_op ob_add (de_ix (de_var (pv 3)) (de_neg de_int) (fun _ _ => rfl)) de_int) da_nil))) (de_sl (de_var (pv 3)) do_none (do_some (de_neg de_int))))
      (dss_cons (ds_setOwn (i := 9) nd rfl (.inl rfl) (df_lst (da_cons (de_tup (da_cons (de_var (pv 3)) (da_cons (de_var (pv 4)) (da_cons (de_var (pv 5)) (da_cons (de_var (pv 6)) da_nil))))) (da_cons (de_tup (da_cons (de_var (pv 3)) (da_cons (de_var (pv 4)) (da_cons (de_var (pv 5)) (da_cons (de_lst (da_cons de_int da_nil)) da_nil))))) (da_cons (de_tup (da_cons (de_var (pv 3)) (da_cons (de_var (pv 4)) (da_cons (de_lst (da_cons de_int da_nil)) (da_cons (de_lst da_nil) da_nil))))) (da_cons (de_tup (da_cons (de_var (pv 3)) (da_cons (de_lst da_nil) (da_cons (de_lst da_nil) (da_cons (de_lst da_nil) da_nil))))) da_nil))))))
      (dss_cons (ds_setOwn (i := 9) nd rfl (.inl rfl) (df_cat (de_give (pv 9)) (de_lst (da_cons (de_tup (da_cons (de_var (pv 3)) (da_cons (de_lst (da_cons de_str (da_cons de_int da_nil))) (da_cons (de_lst da_nil) (da_cons (de_lst da_nil) da_nil))))) (da_cons (de_tup (da_cons (de_var (pv 3)) (da_cons (de_lst da_nil) (da_cons (de_lst (da_cons de_int da_nil)) (da_cons (de_lst (da_cons de_int da_nil)) da_nil))))) (da_cons (de_tup (da_cons (de_op ob_add (de_var (pv 3)) (de_lst (da_cons de_int (da_cons de_int da_nil)))) (da_cons (de_lst da_nil) (da_cons (de_lst da_nil) (da_cons (de_lst da_nil) da_nil))))) da_nil))))))
      (dss_cons (ds_setOwn (i := 9) nd rfl (.inl rfl) (df_cat (de_give (pv 9)) (de_lst (da_cons (de_tup (da_cons (de_op ob_add (de_var (pv 3)) (de_lst (da_cons de_int da_nil))) (da_cons (de_lst (da_cons de_str (da_cons de_int da_nil))) (da_cons (de_lst da_nil) (da_cons (de_lst da_nil) da_nil))))) (da_cons (de_tup (da_cons (de_var (pv 7)) (da_cons (de_lst da_nil) (da_cons (de_lst da_nil) (da_cons (de_lst (da_cons de_int da_nil)) da_nil))))) (da_cons (de_tup (da_cons (de_var (pv 7)) (da_cons (de_lst da_nil) (da_cons (de_lst da_nil) (da_cons (de_lst da_nil) da_nil))))) da_nil))))))
      (dss_cons (ds_expr (de_app (pv 9) (de_tup (da_cons (de_op ob_add (de_var (pv 7)) (de_lst (da_cons de_int da_nil))) (da_cons (de_lst da_nil) (da_cons (de_lst (da_cons de_int da_nil)) (da_cons (de_lst da_nil) da_nil)))))))
      (dss_cons (ds_setOwn (i := 9) nd rfl (.inl rfl) (df_cat (de_give (pv 9)) (de_if (dt_cmp (ob_ne hu) (de_var (pv 8)) (de_lst da_nil) (nomark _)) (de_lst (da_cons (de_tup (da_cons (de_op ob_add (de_var (pv 8)) (de_lst (da_cons de_int (da_cons de_int (da_cons de_int da_nil))))) (da_cons (de_lst da_nil) (da_cons (de_lst da_nil) (da_cons (de_lst da_nil) da_nil))))) (da_cons (de_tup (da_cons (de_var (pv 8)) (da_cons (de_lst da_nil) (da_cons (de_lst da_nil) (da_cons (de_lst (da_cons de_int da_nil)) da_nil))))) da_nil))) (de_lst da_nil))))
      (dss_one (ds_ret (DF.frz (df_lc (own := [("row", 10)]) (te := (tCall (spD K false 5 D_law_text) [] E0 (tCons (tVar 2) (tCons (tOp (rIxA K) (tVar 10) (tC (.int 0))) (tCons (tOp (rIxA K) (tVar 10) (tC (.int 1))) (tCons (tOp (rIxA K) (tVar 10) (tC (.int 2))) (tCons (tOp (rIxA K) (tVar 10) (tC (.int 3))) tNil))))))) (tt := tYes) (g := (gName 10)) rfl nd (di_list (de_give (pv 9))) (blkOk_by (own := [("row", 10)]) (by kernel_rfl)) (fun _ _ _ _ _ => (dg_name (i := 10) nd rfl (.inl rfl))) (fun _ _ _ _ _ => dts_nil) (fun _ _ _ _ _ => (de_callO c_law_text pm_law_text (hr.mono (by decide)) (by rfl) (da_cons (de_var (pv 2)) (da_cons (de_ix (de_var (pv 10)) de_int (fun _ _ => rfl)) (da_cons (de_ix (de_var (pv 10)) de_int (fun _ _ => rfl)) (da_cons (de_ix (de_var (pv 10)) de_int (fun _ _ => rfl)) (da_cons (de_ix (de_var (pv 10)) de_int (fun _ _ => rfl)) da_nil))))))) (by decide))))))))))))), hw⟩
/-! _law_pool -/
def N_law_pool : List Str := ["state", "requirements", "most", "some", "requirement", "clause", "found", "k", "rows", "version", "word"]
theorem sc_law_pool : FnScope N_law_pool ["state", "requirements", "most"] (defScope Hd.s_law_pool) := ⟨rfl, rfl, rfl, by decide +kernel, rfl, by decide +kernel, by decide +kernel⟩
def td_law_pool (D_law_key D_law_draw D_law_version D_law_around : DX) : TDS := (dSeq (dSetOwn 3 (dfLst (dCons (dC (.str "0.dev0")) (dCons (dC (.str "1")) (dCons (dC (.str "2.0a1")) (dCons (dC (.str "1!0")) dNil))))))
  (dSeq (dFor (diL (dVar 1)) (gdName 4) (dFor (diT (dVar 4)) (gdName 5) (dDrop (dExt 3 (dCall D_law_around (dCons (dVar 5) dNil))))))
  (dSeq (dSetOwn 6 (dLc (diRng (dCons (dC (.int 3)) dNil)) (gdName 7) dYes (dCallS 0 D_law_version dNil) [7]))
  (dSeq (dFor (diRng (dCons (dCB min2R (dCons (dVar 2) (dCons (dLenOwn 3) dNil))) dNil)) (gdName 7) (dDrop (dApp 6 (dPopAt 3 (dCallS 0 D_law_draw (dCons (dLenOwn 3) dNil))))))
  (dPoolEnd 8 10 D_law_key (dCons (dFrz (dLc (diL (dGive 6)) (gdName 9) dYes (dTup (dCons (dCB reprR (dCons (dCall D_law_key (dCons (dVar 9) dNil)) dNil)) (dCons (dVar 9) dNil))) [9])) dNil))))))
theorem ok_law_pool (T : Txt K mg) {D_law_key D_law_draw D_law_version D_law_around : DX} (pm_law_key : Pm 1 D_law_key) (c_law_key : Okd P w K mg base 2 "_law_key" ["text"] false 1 D_law_key) (pm_law_draw : Pm 1 D_law_draw) (c_law_draw : Okd P w K mg base 2 "_law_draw" ["state", "many"] true 1 D_law_draw) (pm_law_version : Pm 0 D_law_version) (c_law_version : Okd P w K mg base 3 "_law_version" ["state"] true 0 D_law_version) (pm_law_around : Pm 1 D_law_around) (c_law_around : Okd P w K mg base 2 "_law_around" ["clause"] false 1 D_law_around) {D : DX} (hw : ∀ ds n Q, D ds n Q → td_law_pool D_law_key D_law_draw D_law_version D_law_around (ends Q) (entry true N_law_pool ds n)) : OkdG P w K mg base 5 "_law_pool" ["state", "requirements", "most"] true 2 D := by
  obtain ⟨hm, fd, Fd⟩ := T.fn 65 "_law_pool" Hd.s_law_pool rfl
  refine ⟨fd, hm, Fd.kp, Fd.bindsN (fun _ _ _ _ _ _ us hl => match us, hl with | [_, _, _], _ => rfl), ?_⟩
  refine fnDG Fd sc_law_pool rfl (fun cdv A outer s H E hr hgs => ?_)
  have nd := sc_law_pool.nd
  have hu : (A.deeper (envOfC "_law_pool" (defScope Hd.s_law_pool) s.heap.objs.size (He.ga K "_law_pool") cdv)).units + 64 < cLine := hr.units
  have hu5 : (A.deeper (envOfC "_law_pool" (defScope Hd.s_law_pool) s.heap.objs.size (He.ga K "_law_pool") cdv)).units + 65 < cLine := by have := hr.un; omega
  have hu1 : (A.deeper (envOfC "_law_pool" (defScope Hd.s_law_pool) s.heap.objs.size (He.ga K "_law_pool") cdv)).units + 1 < cLine := by have := hr.un; omega
  exact ⟨_, td_law_pool D_law_key D_law_draw D_law_version D_law_around, (dss_cons (ds_setOwn (i := 3) nd rfl (.inl rfl) (df_lst (da_cons de_str (da_cons de_str (da_cons de_str (da_cons de_str da_nil))))))
      (dss_cons (ds_for PassesOwn.never rfl (di_list (de_var (pv 1))) (dg_name (i := 4) nd rfl (.inl rfl)) (dss_one (ds_for PassesOwn.never rfl (di_tup (de_var (pv 4))) (dg_name (i := 5) nd rfl (.inl rfl)) (dss_one (ds_expr (de_ext (pv 3) (de_callO c_law_around pm_law_around (hr.mono (by decide)) (by rfl) (da_cons (de_var (pv 5)) da_nil))))))))
      (dss_cons (ds_setOwnLc (i := 6) (own := [("k", 7)]) (te := (tCall (spD K true 0 D_law_version) [] E0 (tCons (tVar 0) tNil))) (tt := tYes) (g := (gName 7)) rfl nd rfl rfl (sw_true rfl rfl rfl (by kernel_rfl)) (di_range (by rfl) (T.fr "range" (by decide +kernel)) (da_cons de_int da_nil)) (blkOk_by (own := [("k", 7)]) (by kernel_rfl)) (fun _ _ _ _ _ => (dg_name (i := 7) nd rfl (.inl rfl))) (fun _ _ _ _ _ => dts_nil) (fun _ _ _ _ _ => (de_callOS c_law_version pm_law_version (hr.mono (by decide)) (by rfl) (pv 0) da_nil)) (by decide))
      (dss_cons (ds_for PassesOwn.never rfl (di_range (by rfl) (T.fr "range" (by decide +kernel)) (da_cons (de_callB (db_min2 rfl hu) (by rfl) (T.fr "min" (by decide +kernel)) bb_min (da_cons (de_var (pv 2)) (da_cons (de_lenOwn (pv 3) (by rfl) (T.fr "len" (by decide +kernel)) bb_len) da_nil))) da_nil)) (dg_name (i := 7) nd rfl (.inl rfl)) (dss_one (ds_expr (de_app (pv 6) (de_popAt (pv 3) (de_callOS c_law_draw pm_law_draw (hr.mono (by decide)) (by rfl) (pv 0) (da_cons (de_lenOwn (pv 3) (by rfl) (T.fr "len" (by decide +kernel)) bb_len) da_nil)))))))
      (dss_pool (i := 8) (j := 10) c_law_key pm_law_key (hr.mono (by decide)) hu (by rfl) (by rfl) (T.fr "sorted" (by decide +kernel)) bb_sorted (by rfl) (T.fr "dict" (by decide +kernel)) bb_dict rfl (da_cons (DF.frz (df_lc (own := [("version", 9)]) (te := (tTup (tCons (tCB (rRepr K) (tCons (tCall (spD K false 1 D_law_key) [] E0 (tCons (tVar 9) tNil)) tNil)) (tCons (tVar 9) tNil)))) (tt := tYes) (g := (gName 9)) rfl nd (di_list (de_give (pv 6))) (blkOk_by (own := [("version", 9)]) (by kernel_rfl)) (fun _ _ _ _ _ => (dg_name (i := 9) nd rfl (.inl rfl))) (fun _ _ _ _ _ => dts_nil) (fun _ _ _ _ _ => (de_tup (da_cons (de_callB (db_repr hgs hu) (by rfl) (T.fr "repr" (by decide +kernel)) bb_repr (da_cons (de_callO c_law_key pm_law_key (hr.mono (by decide)) (by rfl) (da_cons (de_var (pv 9)) da_nil)) da_nil)) (da_cons (de_var (pv 9)) da_nil)))) (by decide))) da_nil) nd rfl rfl (by decide) (.inr rfl) (.inl rfl) (pv 8) (blkOk_by (by kernel_rfl)) (fun _ _ _ _ _ => pg_name nd rfl (.inl rfl)) (fun _ _ _ _ _ => pv 8) (fun _ _ _ _ _ => pv 10) (fun _ _ => rfl) (fun _ _ _ _ _ => hu1) (by decide) rfl rfl rfl (fun _ => rfl) rfl rfl rfl))))), hw⟩
end
end V

set_option Elab.async false
set_option linter.all false
set_option maxRecDepth 100000
set_option maxHeartbeats 8000000
namespace V
open PySem PySem.Spec PyProof.Rows L2 DL
section
variable {P : Program} {w : World} {K : PySem.W.Frag} {mg : Str → Option Value} {base : Heap}
/-! _law_falls -/
def N_law_falls : List Str := ["requirement", "releases", "longer", "first", "second"]
theorem sc_law_falls : FnScope N_law_falls ["requirement", "releases", "longer"] (defScope Hd.s_law_falls) := ⟨rfl, rfl, rfl, by decide +kernel, rfl, by decide +kernel, by decide +kernel⟩
def td_law_falls (D_law_pick D_law_key : DX) : TDS := (dSeq (dPar 3 4 (dCall D_law_pick (dCons (dVar 0) (dCons (dVar 1) dNil))) (dCall D_law_pick (dCons (dVar 0) (dCons (dVar 2) dNil))))
  (dSeq (dIfS (dTest (dOp eqR (dVar 3) (dLst dNil))) (dRet (dC (.bool false))) dNext)
  (dRet (dOrV (dOp eqR (dVar 4) (dLst dNil)) (dOp ltR (dCall D_law_key (dCons (dOp ixR (dVar 4) (dC (.int 0))) dNil)) (dCall D_law_key (dCons (dOp ixR (dVar 3) (dC (.int 0))) dNil)))))))
theorem ok_law_falls (T : Txt K mg) {D_law_pick D_law_key : DX} (pm_law_pick : Pm 2 D_law_pick) (c_law_pick : Okd P w K mg base 5 "_law_pick" ["requirement", "releases"] false 2 D_law_pick) (pm_law_key : Pm 1 D_law_key) (c_law_key : Okd P w K mg base 2 "_law_key" ["text"] false 1 D_law_key) {D : DX} (hw : ∀ ds n Q, D ds n Q → td_law_falls D_law_pick D_law_key (ends Q) (entry false N_law_falls ds n)) : Okd P w K mg base 6 "_law_falls" ["requirement", "releases", "longer"] false 3 D := by
  obtain ⟨hm, fd, Fd⟩ := T.fn 66 "_law_falls" Hd.s_law_falls rfl
  refine ⟨fd, hm, Fd.kp, Fd.bindsN (fun _ _ _ _ _ _ us hl => match us, hl with | [_, _, _], _ => rfl), ?_⟩
  refine fnD Fd sc_law_falls rfl (fun cdv A outer s H E hr => ?_)
  have nd := sc_law_falls.nd
  have hu : (A.deeper (envOfC "_law_falls" (defScope Hd.s_law_falls) s.heap.objs.size (He.ga K "_law_falls") cdv)).units + 64 < cLine := hr.units
  have hu5 : (A.deeper (envOfC "_law_falls" (defScope Hd.s_law_falls) s.heap.objs.size (He.ga K "_law_falls") cdv)).units + 65 < cLine := by have := hr.un; omega
  have hu1 : (A.deeper (envOfC "_law_falls" (defScope Hd.s_law_falls) s.heap.objs.size (He.ga K "_law_falls") cdv)).units + 1 < cLine := by have := hr.un; omega
  exact ⟨_, td_law_falls D_law_pick D_law_key, (dss_cons (ds_par (i := 3) (j := 4) rfl nd rfl rfl (by decide) rfl rfl (de_callO c_law_pick pm_law_pick (hr.mono (by decide)) (by rfl) (da_cons (de_var (pv 0)) (da_cons (de_var (pv 1)) da_nil))) (de_callO c_law_pick pm_law_pick (hr.mono (by decide)) (by rfl) (da_cons (de_var (pv 0)) (da_cons (de_var (pv 2)) da_nil))))
      (dss_cons (ds_if (dt_cmp (ob_eq hu) (de_var (pv 3)) (de_lst da_nil) (nomark _)) (dss_one (ds_ret de_bl)) dss_nil)
      (dss_one (ds_ret (de_or (de_cmp (ob_eq hu) (de_var (pv 4)) (de_lst da_nil) (nomark _)) (de_one (de_cmp (ob_lt hu) (de_callO c_law_key pm_law_key (hr.mono (by decide)) (by rfl) (da_cons (de_ix (de_var (pv 4)) de_int (fun _ _ => rfl)) da_nil)) (de_callO c_law_key pm_law_key (hr.mono (by decide)) (by rfl) (da_cons (de_ix (de_var (pv 3)) de_int (fun _ _ => rfl)) da_nil)) (nomark _)))))))), hw⟩
/-! _law_pair_right -/
def N_law_pair_right : List Str := ["requirement", "found"]
theorem sc_law_pair_right : FnScope N_law_pair_right ["requirement", "found"] (defScope Hd.s_law_pair_right) := ⟨rfl, rfl, rfl, by decide +kernel, rfl, by decide +kernel, by decide +kernel⟩
def td_law_pair_right (D_need_releases D_falling D_law_falls : DX) : TDS := (dSeq (dIfS (dOr (dNot (dTest (dIsi (fun t => t == "tuple") (dVar 1)))) (dOr (dTest (dOp neR (dCB lenR (dCons (dVar 1) dNil)) (dC (.int 2)))) (dTest (dOp neR (dSl (dOp ixR (dVar 1) (dC (.int 1))) dNoPart (dPart (dCB lenR (dCons (dOp ixR (dVar 1) (dC (.int 0))) dNil)))) (dOp ixR (dVar 1) (dC (.int 0))))))) (dRet (dC (.bool false))) dNext)
  (dSeq (dIfS (dOr (dTest (dOp neR (dCall D_need_releases (dCons (dOp ixR (dVar 1) (dC (.int 1))) dNil)) (dOp ixR (dVar 1) (dC (.int 1))))) (dTest (dOp neR (dCB reprR (dCons (dCall D_falling (dCons (dVar 0) dNil)) dNil)) (dCB reprR (dCons (dVar 1) dNil))))) (dRet (dC (.bool false))) dNext)
  (dRet (dAndV (dOp eqR (dCB lenR (dCons (dOp ixR (dVar 1) (dC (.int 1))) dNil)) (dOp addR (dCB lenR (dCons (dOp ixR (dVar 1) (dC (.int 0))) dNil)) (dC (.int 1)))) (dCall D_law_falls (dCons (dVar 0) (dCons (dOp ixR (dVar 1) (dC (.int 0))) (dCons (dOp ixR (dVar 1) (dC (.int 1))) dNil))))))))
theorem ok_law_pair_right (T : Txt K mg) {D_need_releases D_falling D_law_falls : DX} (pm_need_releases : Pm 1 D_need_releases) (c_need_releases : Okd P w K mg base 7 "need_releases" ["thing"] false 1 D_need_releases) (pm_falling : Pm 1 D_falling) (c_falling : Okd P w K mg base 9 "falling" ["requirement"] false 1 D_falling) (pm_law_falls : Pm 3 D_law_falls) (c_law_falls : Okd P w K mg base 6 "_law_falls" ["requirement", "releases", "longer"] false 3 D_law_falls) {D : DX} (hw : ∀ ds n Q, D ds n Q → td_law_pair_right D_need_releases D_falling D_law_falls (ends Q) (entry false N_law_pair_right ds n)) : OkdG P w K mg base 10 "_law_pair_right" ["requirement", "found"] false 2 D := by
  obtain ⟨hm, fd, Fd⟩ := T.fn 67 "_law_pair_right" Hd.s_law_pair_right rfl
  refine ⟨fd, hm, Fd.kp, Fd.bindsN (fun _ _ _ _ _ _ us hl => match us, hl with | [_, _], _ => rfl), ?_⟩
  refine fnDG Fd sc_law_pair_right rfl (fun cdv A outer s H E hr hgs => ?_)
  have nd := sc_law_pair_right.nd
  have hu : (A.deeper (envOfC "_law_pair_right" (defScope Hd.s_law_pair_right) s.heap.objs.size (He.ga K "_law_pair_right") cdv)).units + 64 < cLine := hr.units
  have hu5 : (A.deeper (envOfC "_law_pair_right" (defScope Hd.s_law_pair_right) s.heap.objs.size (He.ga K "_law_pair_right") cdv)).units + 65 < cLine := by have := hr.un; omega
  have hu1 : (A.deeper (envOfC "_law_pair_right" (defScope Hd.s_law_pair_right) s.heap.objs.size (He.ga K "_law_pair_right") cdv)).units + 1 < cLine := by have := hr.un; omega
  exact ⟨_, td_law_pair_right D_need_releases D_falling D_law_falls, (dss_cons (ds_if (DW.dt (dw_or (dt_not (dt_val (de_isi isTuple (de_var (pv 1)) (by rfl) (T.fr "isinstance" (by decide +kernel)) bb_isi (by rfl) (T.fr "tuple" (by decide +kernel)) bb_tuple))) (dw_or (dt_cmp (ob_ne hu) (de_callB db_len (by rfl) (T.fr "len" (by decide +kernel)) bb_len (da_cons (de_var (pv 1)) da_nil)) de_int (nomark _)) (dw_or1 (dt_cmp (ob_ne hu) (de_sl (de_ix (de_var (pv 1)) de_int (fun _ _ => rfl)) do_none (do_some (de_callB db_len (by rfl) (T.fr "len" (by decide +kernel)) bb_len (da_cons (de_ix (de_var (pv 1)) de_int (fun _ _ => rfl)) da_nil)))) (de_ix (de_var (pv 1)) de_int (fun _ _ => rfl)) (nomark _)))))) (dss_one (ds_ret de_bl)) dss_nil)
      (dss_cons (ds_if (DW.dt (dw_or (dt_cmp (ob_ne hu) (de_callO c_need_releases pm_need_releases (hr.mono (by decide)) (by rfl) (da_cons (de_ix (de_var (pv 1)) de_int (fun _ _ => rfl)) da_nil)) (de_ix (de_var (pv 1)) de_int (fun _ _ => rfl)) (nomark _)) (dw_or1 (dt_cmp (ob_ne hu) (de_callB (db_repr hgs hu) (by rfl) (T.fr "repr" (by decide +kernel)) bb_repr (da_cons (de_callO c_falling pm_falling (hr.mono (by decide)) (by rfl) (da_cons (de_var (pv 0)) da_nil)) da_nil)) (de_callB (db_repr hgs hu) (by rfl) (T.fr "repr" (by decide +kernel)) bb_repr (da_cons (de_var (pv 1)) da_nil)) (nomark _))))) (dss_one (ds_ret de_bl)) dss_nil)
      (dss_one (ds_ret (de_and (de_cmp (ob_eq hu) (de_callB db_len (by rfl) (T.fr "len" (by decide +kernel)) bb_len (da_cons (de_ix (de_var (pv 1)) de_int (fun _ _ => rfl)) da_nil)) (de_op ob_add (de_callB db_len (by rfl) (T.fr "len" (by decide +kernel)) bb_len (da_cons (de_ix (de_var (pv 1)) de_int (fun _ _ => rfl)) da_nil)) de_int) (nomark _)) (de_one (de_callO c_law_falls pm_law_falls (hr.mono (by decide)) (by rfl) (da_cons (de_var (pv 0)) (da_cons (de_ix (de_var (pv 1)) de_int (fun _ _ => rfl)) (da_cons (de_ix (de_var (pv 1)) de_int (fun _ _ => rfl)) da_nil)))))))))), hw⟩
end
end V

set_option Elab.async false
set_option linter.all false
set_option maxRecDepth 100000
set_option maxHeartbeats 8000000
namespace V
open PySem PySem.Spec PyProof.Rows L2 DL
section
variable {P : Program} {w : World} {K : PySem.W.Frag} {mg : Str → Option Value} {base : Heap}

/-! _law_draw -/
def N_law_draw : List Str := ["state", "many", "at", "place", "left", "number"]
theorem sc_law_draw : FnScope N_law_draw ["state", "many"] (defScope Hd.s_law_draw) := ⟨rfl, rfl, rfl, by decide +kernel, rfl, by decide +kernel, by decide +kernel⟩
def D_law_draw : DX := anyD (fun many : Int => [.int many]) (fun many n => 0 < many ∧ many < 2 ^ 30 ∧ n < 2 ^ 60) (fun many n d n' => n' = n + 1 ∧ ∃ m : Int, d = .int m ∧ 0 ≤ m ∧ m < many)
theorem pm_law_draw : Pm 1 D_law_draw := pm_any fun _ => rfl
theorem wp_law_draw (ds : List PyData) (n : Nat) (Q : QN) (h : D_law_draw ds n Q) : dDraw (ends Q) (entry true N_law_draw ds n) := by
  obtain ⟨many, rfl, ⟨h1, h2, h3⟩, h4⟩ := h
  exact ⟨many, rfl, rfl, rfl, h1, h2, h3, fun m r a b => h4 _ _ ⟨rfl, m, rfl, a, b⟩⟩
theorem ok_law_draw (T : Txt K mg) (c_law_mixed : Okd P w K mg base 1 "_law_mixed" ["cell", "k"] false 2 D_mixed) : Okd P w K mg base 2 "_law_draw" ["state", "many"] true 1 D_law_draw := by
  obtain ⟨hm, fd, Fd⟩ := T.fn 46 "_law_draw" Hd.s_law_draw rfl
  obtain ⟨fdm, m1, m2, m3, m4⟩ := c_law_mixed.ex
  refine ⟨fd, hm, Fd.kp, Fd.bindsN (fun _ _ _ _ _ _ us hl => match us, hl with | [_, _], _ => rfl), ?_⟩
  refine fnD Fd sc_law_draw rfl (fun cdv A outer s H E hr => ?_)
  have nd := sc_law_draw.nd
  have hu1 : (A.deeper (envOfC "_law_draw" (defScope Hd.s_law_draw) s.heap.objs.size (He.ga K "_law_draw") cdv)).units + 1 < cLine := by have := hr.un; omega
  refine ⟨tDraw K, dDraw, ⟨?_, sn_draw K⟩, wp_law_draw⟩
  exact pss_cons (ps_set (i := 2) nd rfl (.inl rfl) (pe_dget hu1 (pv 0) pe_str (fun _ _ => rfl)))
    (pss_cons (ps_dput hu1 (pv 0) pe_str (pe_op op_add (pv 2) pe_int) rfl)
    (pss_cons (ps_set (i := 3) nd rfl (.inl rfl) (pe_op op_mod (pe_callTy call_int1 (by rfl) (T.fr "int" (by decide +kernel)) bb_int (pa_cons (pv 2) pa_nil)) (pe_callB call_len (by rfl) (T.fr "len" (by decide +kernel)) bb_len (pa_cons (pe_dget hu1 (pv 0) pe_str (fun _ _ => rfl)) pa_nil))))
    (pss_cons (ps_set (i := 4) nd rfl (.inl rfl) (pe_ix ix_list (pe_dget hu1 (pv 0) pe_str (fun _ _ => rfl)) (pv 3) (fun _ _ => rfl)))
    (pss_cons (ps_if (pt_cmpR op_gt (pv 4) pe_int (nomark _)) (pss_cons (ps_asg (pe_op op_fdivN (pv 4) (pv 1)) (pg_sub (pe_dget hu1 (pv 0) pe_str (fun _ _ => rfl)) (pv 3) set_list)) (pss_one (ps_ret (pe_op op_mod (pe_callTy call_int1 (by rfl) (T.fr "int" (by decide +kernel)) bb_int (pa_cons (pv 4) pa_nil)) (pv 1))))) pss_nil)
    (pss_cons (ps_set (i := 5) nd rfl (.inl rfl) (pe_call m4 (hr.mono (by decide)) (by rfl) m1 m2 m3 .nil pass0 (pa_cons (pe_call m4 (hr.mono (by decide)) (by rfl) m1 m2 m3 .nil pass0 (pa_cons (pe_ix ix_list (pe_dget hu1 (pv 0) pe_str (fun _ _ => rfl)) (pv 3) (fun _ _ => rfl)) (pa_cons (pv 2) pa_nil))) (pa_cons (pe_op op_add pe_int (pv 2)) pa_nil))))
    (pss_one (ps_ret (pe_op op_mod (pe_op op_fdivN (pe_callTy call_int1 (by rfl) (T.fr "int" (by decide +kernel)) bb_int (pa_cons (pe_op op_add (pe_op op_mul (pv 5) pe_int) (pe_call m4 (hr.mono (by decide)) (by rfl) m1 m2 m3 .nil pass0 (pa_cons (pv 5) (pa_cons (pe_op op_add pe_int (pv 2)) pa_nil)))) pa_nil)) pe_int) (pv 1)))))))))
/-! _law_begin -/
def N_law_begin : List Str := ["script", "cells", "cell"]
theorem sc_law_begin : FnScope N_law_begin ["script"] (defScope Hd.s_law_begin) := ⟨rfl, rfl, rfl, by decide +kernel, rfl, by decide +kernel, by decide +kernel⟩
theorem ok_law_begin (T : Txt K mg) : ∃ fd, mg "_law_begin" = some (.ref (He.ga K "_law_begin")) ∧ PySem.W.keepIn K (.ref (He.ga K "_law_begin")) = true ∧ Binds K fd ["script"] [] ∧ FnOk P w K mg base CX0 1 (He.ga K "_law_begin") fd ["script"] (spBegin K) := by
  obtain ⟨hm, fd, Fd⟩ := T.fn 45 "_law_begin" Hd.s_law_begin rfl
  refine ⟨fd, hm, Fd.kp, Fd.bindsN (fun _ _ _ _ _ _ us hl => match us, hl with | [_], _ => rfl), ?_⟩
  refine Fd.ok sc_law_begin (fun vs H Q E h => ?_) (fun cdv A outer s H vs Q E hr h => ⟨tBegin K, PSs.nox ?_, begin_run h⟩)
  · obtain ⟨a, ns, rfl, _⟩ := h
    rfl
  · have nd := sc_law_begin.nd
    have hu : (A.deeper (envOfC "_law_begin" (defScope Hd.s_law_begin) s.heap.objs.size (He.ga K "_law_begin") cdv)).units + 64 < cLine := hr.units
    exact pss_cons (ps_set (i := 1) nd rfl (.inl rfl) (pe_ifExp (pt_cmpR (op_neD hu) (pv 0) (pe_lst pa_nil) (nomark _)) (pe_callTy call_list_of (by rfl) (T.fr "list" (by decide +kernel)) bb_list (pa_cons (pv 0) pa_nil)) (pe_lst (pa_cons pe_int pa_nil))))
      (pss_one (ps_ret (pe_disp (pps_cons pe_str (pv 1) (pps_cons pe_str (pe_lc (own := [("cell", 2)]) rfl nd (pi_list (pv 1)) (blkOk_by (by kernel_rfl)) (fun _ _ _ _ _ => pg_name nd rfl (.inl rfl)) (fun _ _ _ _ _ => pts_nil) (fun _ _ _ _ _ => pe_ifExp (pt_cmpR op_ge (pv 2) (pe_op op_pow pe_int pe_int) (nomark _)) (pv 2) pe_int) (fun _ => rfl)) (pps_cons pe_str pe_int (pps_cons pe_str pe_int pps_nil)))) rfl rfl (by simp) (show 4 ≤ 15 by decide))))
/-! law -/
def N_law : List Str := ["script", "state", "turn", "requirement", "tells", "found", "longest", "k"]
theorem sc_law : FnScope N_law ["script"] (defScope Hd.s_law) := ⟨rfl, rfl, rfl, by decide +kernel, rfl, by decide +kernel, by decide +kernel⟩
def td_law (D_law_requirement D_is_rising D_falling D_law_names D_law_pair_right D_law_releases D_law_pool D_law_falls : DX) : TDS := (dSeq (dFor (diRng (dCons (dC (.int 3)) dNil)) (gdName 2) (dSeq (dAsg (dCallS 1 D_law_requirement (dCons (dC (.int 4)) dNil)) (gdName 3))
  (dSeq (dPar 4 5 (dCall D_is_rising (dCons (dVar 3) dNil)) (dCall D_falling (dCons (dVar 3) dNil)))
  (dSeq (dIfS (dOr (dTest (dOp neR (dCB reprR (dCons (dVar 4) dNil)) (dCB reprR (dCons (dOp isR (dVar 5) (dC .none)) dNil)))) (dAnd (dTest (dCall D_law_names (dCons (dVar 3) dNil))) (dNot (dTest (dVar 4))))) (dRet (dC (.bool false))) dNext)
  (dSeq (dIfS (dAnd (dTest (dOp isntR (dVar 5) (dC .none))) (dNot (dTest (dCall D_law_pair_right (dCons (dVar 3) (dCons (dVar 5) dNil)))))) (dRet (dC (.bool false))) dNext)
  (dSeq (dAsg (dCallS 1 D_law_releases (dCons (dC (.int 25)) (dCons (dCallS 1 D_law_pool (dCons (dLst (dCons (dVar 3) dNil)) (dCons (dC (.int 25)) dNil))) dNil))) (gdName 6))
  (dFor (diRng (dCons (dCB lenR (dCons (dVar 6) dNil)) dNil)) (gdName 7) (dIfS (dAnd (dTest (dVar 4)) (dTest (dCall D_law_falls (dCons (dVar 3) (dCons (dSl (dVar 6) dNoPart (dPart (dVar 7))) (dCons (dSl (dVar 6) dNoPart (dPart (dOp addR (dVar 7) (dC (.int 1))))) dNil)))))) (dRet (dC (.bool false))) dNext))))))))
  (dRet (dC (.bool true))))
def spLaw (K : PySem.W.Frag) : Sp := fun vs H Q _ => ∃ (a : Addr) (ns : List Int), vs = [.ref a] ∧ SqL K H a (ns.map V.int) ∧ ns.length ≤ 63 ∧ ∀ H', Q (.bl true) H'
def lawEnds : DEnds := { nx := fun _ => False, rt := fun d _ => d = .bool true }
def lawEntry : DS := ⟨[.un, .st, .un, .un, .un, .un, .un, .un], 0⟩
theorem ok_law (T : Txt K mg) {D_law_requirement D_is_rising D_falling D_law_names D_law_pair_right D_law_releases D_law_pool D_law_falls : DX} (pm_law_requirement : Pm 1 D_law_requirement) (c_law_requirement : Okd P w K mg base 5 "_law_requirement" ["state", "most"] true 1 D_law_requirement) (pm_is_rising : Pm 1 D_is_rising) (c_is_rising : Okd P w K mg base 10 "is_rising" ["requirement"] false 1 D_is_rising) (pm_falling : Pm 1 D_falling) (c_falling : Okd P w K mg base 9 "falling" ["requirement"] false 1 D_falling) (pm_law_names : Pm 1 D_law_names) (c_law_names : Okd P w K mg base 3 "_law_names" ["requirement"] false 1 D_law_names) (pm_law_pair_right : Pm 2 D_law_pair_right) (c_law_pair_right : OkdG P w K mg base 10 "_law_pair_right" ["requirement", "found"] false 2 D_law_pair_right) (pm_law_releases : Pm 2 D_law_releases) (c_law_releases : Okd P w K mg base 4 "_law_releases" ["state", "most", "some"] true 2 D_law_releases) (pm_law_pool : Pm 2 D_law_pool) (c_law_pool : OkdG P w K mg base 5 "_law_pool" ["state", "requirements", "most"] true 2 D_law_pool) (pm_law_falls : Pm 3 D_law_falls) (c_law_falls : Okd P w K mg base 6 "_law_falls" ["requirement", "releases", "longer"] false 3 D_law_falls)
    (hw : td_law D_law_requirement D_is_rising D_falling D_law_names D_law_pair_right D_law_releases D_law_pool D_law_falls lawEnds lawEntry) {fd : FuncData} (Fd : FnP K "law" Hd.s_law (He.ga K "law") fd) : FnG P w K mg base CX0 11 (He.ga K "law") fd ["script"] (spLaw K) := by
  obtain ⟨fdb, b1, b2, b3, b4⟩ := ok_law_begin (P := P) (w := w) (base := base) T
  refine Fd.okG sc_law (fun vs H Q E h => ?_) (fun cdv A outer s H vs Q E hr hgs h => ?_)
  · obtain ⟨a, ns, rfl, _⟩ := h
    rfl
  have nd := sc_law.nd
  have hu : (A.deeper (envOfC "law" (defScope Hd.s_law) s.heap.objs.size (He.ga K "law") cdv)).units + 64 < cLine := hr.units
  have rest : ∃ t, DSs (cxOf CX0 P w K mg base N_law "law" (defScope Hd.s_law) (He.ga K "law") cdv A outer s H E).nox (defBody Hd.s_law).tail t (td_law D_law_requirement D_is_rising D_falling D_law_names D_law_pair_right D_law_releases D_law_pool D_law_falls) :=
    ⟨_, (dss_cons (ds_for PassesOwn.never rfl (di_range (by rfl) (T.fr "range" (by decide +kernel)) (da_cons de_int da_nil)) (dg_name (i := 2) nd rfl (.inl rfl)) (dss_cons (ds_set (i := 3) nd rfl (.inl rfl) (de_callOS c_law_requirement pm_law_requirement (hr.mono (by decide)) (by rfl) (pv 1) (da_cons de_int da_nil)))
      (dss_cons (ds_par (i := 4) (j := 5) rfl nd rfl rfl (by decide) rfl rfl (de_callO c_is_rising pm_is_rising (hr.mono (by decide)) (by rfl) (da_cons (de_var (pv 3)) da_nil)) (de_callO c_falling pm_falling (hr.mono (by decide)) (by rfl) (da_cons (de_var (pv 3)) da_nil)))
      (dss_cons (ds_if (DW.dt (dw_or (dt_cmp (ob_ne hu) (de_callB (db_repr hgs hu) (by rfl) (T.fr "repr" (by decide +kernel)) bb_repr (da_cons (de_var (pv 4)) da_nil)) (de_callB (db_repr hgs hu) (by rfl) (T.fr "repr" (by decide +kernel)) bb_repr (da_cons (de_cmp ob_is (de_var (pv 5)) de_non (nomark _)) da_nil)) (nomark _)) (dw_or1 (DW.dt (dw_and (dt_val (de_callO c_law_names pm_law_names (hr.mono (by decide)) (by rfl) (da_cons (de_var (pv 3)) da_nil))) (dw_and1 (dt_not (dt_val (de_var (pv 4)))))))))) (dss_one (ds_ret de_bl)) dss_nil)
      (dss_cons (ds_if (DW.dt (dw_and (dt_cmp ob_isnt (de_var (pv 5)) de_non (nomark _)) (dw_and1 (dt_not (dt_val (de_callG c_law_pair_right pm_law_pair_right hgs (hr.mono (by decide)) (by rfl) (da_cons (de_var (pv 3)) (da_cons (de_var (pv 5)) da_nil)))))))) (dss_one (ds_ret de_bl)) dss_nil)
      (dss_cons (ds_set (i := 6) nd rfl (.inl rfl) (de_callOS c_law_releases pm_law_releases (hr.mono (by decide)) (by rfl) (pv 1) (da_cons de_int (da_cons (de_callGS c_law_pool pm_law_pool hgs (hr.mono (by decide)) (by rfl) (pv 1) (da_cons (de_lst (da_cons (de_var (pv 3)) da_nil)) (da_cons de_int da_nil))) da_nil))))
      (dss_one (ds_for PassesOwn.never rfl (di_range (by rfl) (T.fr "range" (by decide +kernel)) (da_cons (de_callB db_len (by rfl) (T.fr "len" (by decide +kernel)) bb_len (da_cons (de_var (pv 6)) da_nil)) da_nil)) (dg_name (i := 7) nd rfl (.inl rfl)) (dss_one (ds_if (DW.dt (dw_and (dt_val (de_var (pv 4))) (dw_and1 (dt_val (de_callO c_law_falls pm_law_falls (hr.mono (by decide)) (by rfl) (da_cons (de_var (pv 3)) (da_cons (de_sl (de_var (pv 6)) do_none (do_some (de_var (pv 7)))) (da_cons (de_sl (de_var (pv 6)) do_none (do_some (de_op ob_add (de_var (pv 7)) de_int))) da_nil)))))))) (dss_one (ds_ret de_bl)) dss_nil))))))))))
      (dss_one (ds_ret de_bl)))⟩
  obtain ⟨t, hd⟩ := rest
  have first : PS (cxOf CX0 P w K mg base N_law "law" (defScope Hd.s_law) (He.ga K "law") cdv A outer s H E).nox ((defBody Hd.s_law).head (by decide +kernel)) (tAsg (tCall (spBegin K) [] E0 (tCons (tVar 0) tNil)) (gName 1)) :=
    ps_set (i := 1) nd rfl (.inl rfl) (pe_call b4 (hr.mono (by decide)) (by rfl) b1 b2 b3 .nil pass0 (pa_cons (pv 0) pa_nil))
  refine ⟨tSeq (tAsg (tCall (spBegin K) [] E0 (tCons (tVar 0) tNil)) (gName 1)) t, PSs.nox ?_, ?_⟩
  · have e : defBody Hd.s_law = (defBody Hd.s_law).head (by decide +kernel) :: (defBody Hd.s_law).tail := by rfl
    rw [e]
    exact pss_cons first hd.ps
  · obtain ⟨a, ns, rfl, hs, hl, hq⟩ := h
    refine ⟨.ref a, rfl, a, ns, rfl, hs, by omega, fun H' p l pc cs ls h1 h2 h3 n1 n2 n3 hcl hc => ?_⟩
    refine hd.sn ⟨some (p, l), fun b => if b = pc then some (.lst (cs.map V.int)) else none, fun _ => none⟩ (fun b => if b = pc then some (.lst (cs.map V.int)) else none) H' _ lawEntry lawEnds _ ?_ hw ?_
    · refine ⟨fun b o e => ?_, Same.refl _, fun _ _ e => .inl e, fun _ _ e => (nomatch e), fun p' l' e => ?_, rfl, fun i x e => ?_, fun i j q xs ys e1 _ _ _ => ?_⟩
      · by_cases hb : b = pc
        · rw [if_pos hb] at e
          rw [hb, ← e]
          exact h3
        · rw [if_neg hb] at e
          cases e
      · cases e
        exact ⟨n1, if_neg (Ne.symm n2), if_neg (Ne.symm n3), pc, cs, ls, h1, h2, if_pos rfl, hcl, hc⟩
      · match i, e with
        | 0, e => cases e; trivial
        | 1, e => cases e; exact ⟨p, l, rfl, rfl⟩
        | 2, e => cases e; trivial
        | 3, e => cases e; trivial
        | 4, e => cases e; trivial
        | 5, e => cases e; trivial
        | 6, e => cases e; trivial
        | 7, e => cases e; trivial
        | i + 8, e => cases e
      · match i, e1 with
        | 0, e => cases e
        | 1, e => cases e
        | 2, e => cases e
        | 3, e => cases e
        | 4, e => cases e
        | 5, e => cases e
        | 6, e => cases e
        | 7, e => cases e
        | i + 8, e => cases e
    · refine ⟨fun _ _ _ _ _ _ z => z.elim, fun v d F2 H2 _ _ _ _ hv e => ?_, fun _ _ _ _ _ _ z => z.elim, fun _ _ _ _ _ _ z => z.elim⟩
      have e' : d = .bool true := e
      subst e'
      cases hv
      exact hq H2
end
end V

set_option Elab.async false
set_option linter.all false
set_option maxRecDepth 100000
set_option maxHeartbeats 4000000
namespace V
open PySem PySem.Spec PyProof.Rows L2 DL
open TL (numL joinL tl)
/-! ### versions, keys, cuts -/
/-- what stands behind the numbers -/
structure Tl where
  fo : Option (Nat × Nat)
  po : Option Nat
  de : Option Nat
deriving DecidableEq
structure Pt where
  ep : Nat
  ns : List Nat
  t : Tl
deriving DecidableEq
structure Ky where
  ep : Nat
  b : List Nat
  t : Tl
deriving DecidableEq
structure Cut where
  ep : Nat
  b : List Nat
  t : Option Tl
deriving DecidableEq
abbrev Span := Cut × Option Cut
def Ky.cut (k : Ky) : Cut := ⟨k.ep, k.b, some k.t⟩
def strip : List Nat → List Nat
  | [] => []
  | x :: xs => match strip xs with
    | [] => if x = 0 then [] else [x]
    | y :: ys => x :: y :: ys
def Pt.key (p : Pt) : Ky := ⟨p.ep, strip p.ns, p.t⟩
def Ky.pt (k : Ky) : Pt := ⟨k.ep, if k.b = [] then [0] else k.b, k.t⟩
def wordS (i : Nat) : Str := match i with
  | 0 => "a"
  | 1 => "b"
  | _ => "rc"
def ownL : Option Nat → List Nat
  | none => [1]
  | some d => [0, d]
def Tl.l (t : Tl) : List Nat := match t.fo, t.po with
  | some (i, n), none => 1 :: i :: n :: ownL t.de
  | some (i, n), some p => 1 :: i :: n :: 2 :: p :: ownL t.de
  | none, some p => 3 :: p :: ownL t.de
  | none, none => match t.de with
    | none => [2]
    | some d => [0, d]
def Cut.l (c : Cut) : List Nat := match c.t with
  | none => [4]
  | some t => t.l
/-! ### as data -/
def natsD (ns : List Nat) : List PyData := ns.map fun n : Nat => PyData.int (n : Int)
def optD : Option Nat → PyData
  | none => .none
  | some n => .int (n : Int)
def foD : Option (Nat × Nat) → PyData
  | none => .none
  | some (i, n) => .tuple [.str (wordS i), .int (n : Int)]
def Pt.d (p : Pt) : PyData := .tuple [.int (p.ep : Int), .tuple (natsD p.ns), foD p.t.fo, optD p.t.po, optD p.t.de]
def keyD (e : Nat) (b l : List Nat) : PyData := .tuple [.int (e : Int), .tuple (natsD b), .tuple (natsD l)]
def Ky.d (k : Ky) : PyData := keyD k.ep k.b k.t.l
def Cut.d (c : Cut) : PyData := keyD c.ep c.b c.l
def endD : Option Cut → PyData
  | none => .none
  | some c => c.d
def Span.d (s : Span) : PyData := .tuple [s.1.d, endD s.2]
def okD : Option Ky → PyData
  | none => .none
  | some k => k.d
theorem Ky.cut_d (k : Ky) : k.cut.d = k.d := rfl
/-! ### as texts -/
def tx (l : List Nat) : Str := ⟨l.toArray⟩
theorem tl_tx (l : List Nat) : tl (tx l) = l := rfl
theorem tx_len (l : List Nat) : (tx l).length = l.length := by rw [TL.len_tl, tl_tx]
def wordL (i : Nat) : List Nat := match i with
  | 0 => [97]
  | 1 => [98]
  | _ => [114, 99]
def joinN (ns : List Nat) : List Nat := joinL [46] (ns.map numL)
def foL : Option (Nat × Nat) → List Nat
  | none => []
  | some (i, n) => wordL i ++ numL n
def poL : Option Nat → List Nat
  | none => []
  | some n => [46, 112, 111, 115, 116] ++ numL n
def deL : Option Nat → List Nat
  | none => []
  | some n => [46, 100, 101, 118] ++ numL n
def epL (e : Nat) : List Nat := if e = 0 then [] else numL e ++ [33]
def tlL (t : Tl) : List Nat := foL t.fo ++ (poL t.po ++ deL t.de)
def ren (p : Pt) : List Nat := epL p.ep ++ (joinN p.ns ++ tlL p.t)
def Pt.tx (p : Pt) : Str := V.tx (ren p)
/-! ### what may be read -/
def Tl.G (t : Tl) : Prop := (∀ i n, t.fo = some (i, n) → i < 3 ∧ n < 10 ^ 24) ∧ (∀ n, t.po = some n → n < 10 ^ 24) ∧ ∀ n, t.de = some n → n < 10 ^ 24
def Tl.ok (t : Tl) : Prop := ∀ i n, t.fo = some (i, n) → i < 3
theorem Tl.G.ok {t : Tl} (h : t.G) : t.ok := fun i n e => (h.1 i n e).1
structure Pt.G (p : Pt) : Prop where
  ne : p.ns ≠ []
  ln : p.ns.length ≤ 60
  nb : ∀ n ∈ p.ns, n < 10 ^ 24
  eb : p.ep < 10 ^ 24
  t : p.t.G
/-- small, as a clause's version must be -/
structure Pt.Sm (p : Pt) : Prop where
  ne : p.ns ≠ []
  ln : p.ns.length ≤ 8
  nb : ∀ n ∈ p.ns, n ≤ 10 ^ 9
  eb : p.ep ≤ 10 ^ 9
  fo : ∀ i n, p.t.fo = some (i, n) → i < 3 ∧ n ≤ 10 ^ 9
  po : ∀ n, p.t.po = some n → n ≤ 10 ^ 9
  de : ∀ n, p.t.de = some n → n ≤ 10 ^ 9
theorem Pt.Sm.G {p : Pt} (h : p.Sm) : p.G :=
  ⟨h.ne, Nat.le_trans h.ln (by decide), fun n hn => Nat.lt_of_le_of_lt (h.nb n hn) (by decide), Nat.lt_of_le_of_lt h.eb (by decide),
    fun i n e => ⟨(h.fo i n e).1, Nat.lt_of_le_of_lt (h.fo i n e).2 (by decide)⟩, fun n e => Nat.lt_of_le_of_lt (h.po n e) (by decide), fun n e => Nat.lt_of_le_of_lt (h.de n e) (by decide)⟩
def plain : Tl := ⟨none, none, none⟩
/-! ### the order of cuts -/
def ltL : List Nat → List Nat → Bool
  | _, [] => false
  | [], _ :: _ => true
  | x :: xs, y :: ys => if x = y then ltL xs ys else decide (x < y)
def Cut.lt (c c' : Cut) : Bool := if c.ep = c'.ep then (if c.b = c'.b then ltL c.l c'.l else ltL c.b c'.b) else decide (c.ep < c'.ep)
/-! ### keys -/
def Tl.fol (t : Tl) : Tl := match t.de with
  | some d => ⟨t.fo, t.po, some (d + 1)⟩
  | none => ⟨t.fo, some (match t.po with
    | none => 0
    | some p => p + 1), some 0⟩
def Ky.fol (k : Ky) : Ky := ⟨k.ep, k.b, k.t.fol⟩
def Tl.fin (t : Tl) : Bool := t.fo.isNone && t.de.isNone
def Ky.fin (k : Ky) : Bool := k.t.fin
def firstT : Tl := ⟨none, none, some 0⟩
def least : Cut := ⟨0, [], some firstT⟩
theorem least_d : least.d = c_LEAST := rfl
/-! ### spans -/
def bump (ns : List Nat) : List Nat := ns.dropLast ++ [ns.getLastD 0 + 1]
def blk (e : Nat) (ns : List Nat) : Cut × Cut := (⟨e, strip ns, some firstT⟩, ⟨e, strip (bump ns), some firstT⟩)
def outs (lo hi : Cut) : List Span := (if least.lt lo then [(least, some lo)] else []) ++ [(hi, none)]
structure Cl where
  sg : Nat
  st : Bool
  p : Pt
def signS (i : Nat) : Str := match i with
  | 0 => "=="
  | 1 => "!="
  | 2 => "<="
  | 3 => ">="
  | 4 => "<"
  | 5 => ">"
  | _ => "~="
def starL (b : Bool) : List Nat := if b = true then [46, 42] else []
def Cl.tx (c : Cl) : Str := V.tx (ren c.p ++ starL c.st)
def Cl.d (c : Cl) : PyData := .tuple [.str (signS c.sg), .str c.tx]
structure Cl.G (c : Cl) : Prop where
  sg : c.sg < 7
  sm : c.p.Sm
  star : c.st = true → c.sg < 2 ∧ c.p.t = plain
  lt : c.sg = 4 ∨ c.sg = 5 → c.st = false ∧ c.p.t = plain
  tl : c.sg = 6 → c.st = false ∧ 1 < c.p.ns.length
def Cl.spans (c : Cl) : List Span :=
  if c.st = true then (if c.sg = 0 then [((blk c.p.ep c.p.ns).1, some (blk c.p.ep c.p.ns).2)] else outs (blk c.p.ep c.p.ns).1 (blk c.p.ep c.p.ns).2)
  else match c.sg with
    | 4 => if least.lt ⟨c.p.ep, strip c.p.ns, some firstT⟩ then [(least, some ⟨c.p.ep, strip c.p.ns, some firstT⟩)] else []
    | 5 => [(⟨c.p.ep, strip c.p.ns, none⟩, none)]
    | 3 => [(c.p.key.cut, none)]
    | 6 => [(c.p.key.cut, some (blk c.p.ep c.p.ns.dropLast).2)]
    | 1 => outs c.p.key.cut c.p.key.fol.cut
    | 0 => [(c.p.key.cut, some c.p.key.fol.cut)]
    | _ => [(least, some c.p.key.fol.cut)]
def lesser : Option Cut → Option Cut → Option Cut
  | none, o => o
  | some c, none => some c
  | some c, some c' => some (if c'.lt c then c' else c)
def cmax (c c' : Cut) : Cut := if c.lt c' then c' else c
def meet1 (s s' : Span) : List Span := match lesser s.2 s'.2 with
  | none => [(cmax s.1 s'.1, none)]
  | some h => if (cmax s.1 s'.1).lt h then [(cmax s.1 s'.1, some h)] else []
def meet (a b : List Span) : List Span := a.flatMap fun s => b.flatMap fun s' => meet1 s s'
def spansOf (cs : List Cl) : List Span := cs.foldl (fun a c => meet a c.spans) [(least, none)]
/-! ### pairs -/
def Ky.nf (k : Ky) : Ky := if k.fin then k else match k.t.fo, k.t.po with
  | none, some p => ⟨k.ep, k.b, ⟨none, some p, none⟩⟩
  | _, _ => ⟨k.ep, k.b, plain⟩
def Ky.nfo (k : Ky) : Ky := if k.fin then k.fol else k
def nearer (c : Cut) (h : Option Cut) : Ky := ⟨c.ep, c.b ++ List.replicate (match h with
  | none => 0
  | some h => h.b.length - c.b.length) 0 ++ [1], plain⟩
def below (k : Ky) : Option Cut → Bool
  | none => true
  | some h => k.cut.lt h
def firstIn (s : Span) (f : Bool) : Option Ky := match s.1.t with
  | none => some (if f = true then nearer s.1 s.2 else (nearer s.1 s.2).fol)
  | some t => if below (if f = true then (Ky.mk s.1.ep s.1.b t).nf else (Ky.mk s.1.ep s.1.b t).nfo) s.2 then some (if f = true then (Ky.mk s.1.ep s.1.b t).nf else (Ky.mk s.1.ep s.1.b t).nfo) else none
/-- the end stands at or below c -/
def closed (h : Option Cut) (c : Cut) : Bool := match h with
  | none => false
  | some h => !c.lt h
def above (s : Span) (k : Ky) (f : Bool) : Option Ky :=
  if closed s.2 k.cut then none else
    if closed s.2 (if k.cut.lt s.1 then s.1 else k.fol.cut) then none else firstIn (if k.cut.lt s.1 then s.1 else k.fol.cut, s.2) f
def behind (s : Span) : List Span → Option (Ky × Ky)
  | [] => none
  | o :: os => if closed o.2 s.1 then behind s os else
      match firstIn (if s.1.lt o.1 then o.1 else s.1, o.2) false with
      | none => behind s os
      | some g => some (nearer s.1 (match s.2 with
          | none => some g.cut
          | some h => if g.cut.lt h then some g.cut else some h), g)
def pairIn (s : Span) (up : List Span) : Option (Ky × Ky) := match s.1.t with
  | none => behind s up
  | some _ => match firstIn s true with
    | none => none
    | some k => (up.filterMap fun o => above o k false).head?.map fun g => (k, g)
def pairAbove : List Span → List Span → Option (Ky × Ky)
  | [], _ => none
  | s :: ss, up => match pairIn s up with
    | none => pairAbove ss up
    | some z => some z
def naming (cs : List Cl) : Bool := cs.any fun c => decide (c.sg ≠ 1) && (!c.st && !c.p.key.fin)
def felt (cs : List Cl) : Option (Ky × Ky) := if naming cs then none else pairAbove (spansOf cs) (spansOf cs)
/-! ### helps -/
theorem fit {α : Type} {xs : List α} (h : Nat.ble xs.length 100000 = true) : xs.length ≤ sizeLine := by
  have := Nat.le_of_ble_eq_true h
  rw [sizeLine_eq]
  omega
theorem fit2 {α β : Type} {xs : List α} {ys : List β} (h : Nat.ble (xs.length + ys.length) 100000 = true) : xs.length + ys.length ≤ sizeLine := by
  have := Nat.le_of_ble_eq_true h
  rw [sizeLine_eq]
  omega
theorem natsD_len (ns : List Nat) : (natsD ns).length = ns.length := by unfold natsD; rw [List.length_map]
end V

set_option Elab.async false
set_option linter.all false
set_option maxRecDepth 100000
set_option maxHeartbeats 4000000
namespace V
open PySem PySem.Spec PyProof.Rows L2 DL
open TL (numL joinL tl)
theorem onT {b : Bool} {A B : Prop} (hb : b = true) (h : A) : if b = true then A else B := by rw [if_pos hb]; exact h
theorem onF {b : Bool} {A B : Prop} (hb : b = false) (h : B) : if b = true then A else B := by rw [if_neg (by rw [hb]; exact Bool.false_ne_true)]; exact h
/-! ### texts: slices, signs, comparisons -/
def Asc (l : List Nat) : Prop := ∀ c ∈ l, c < 128
theorem Asc.app {a b : List Nat} (h : Asc a) (h' : Asc b) : Asc (a ++ b) := fun c hc => (List.mem_append.mp hc).elim (h c) (h' c)
theorem Asc.left {a b : List Nat} (h : Asc (a ++ b)) : Asc a := fun c hc => h c (List.mem_append_left _ hc)
theorem Asc.right {a b : List Nat} (h : Asc (a ++ b)) : Asc b := fun c hc => h c (List.mem_append_right _ hc)
theorem Asc.cut {l : List Nat} (h : Asc l) (i j : Nat) : Asc ((l.drop i).take j) := fun c hc => h c (List.mem_of_mem_drop (List.mem_of_mem_take hc))
theorem shaped_tx {l : List Nat} (h : Asc l) : SeqAt.shaped (.str (tx l)) = true := by
  unfold SeqAt.shaped
  simp only [PyData.canLay0, PyData.depth, Bool.and_eq_true, decide_eq_true_eq]
  refine ⟨?_, rfl⟩
  unfold PyData.strOk tx
  rw [Array.all_eq_true_iff_forall_mem]
  intro c hc
  have := h c (by simpa using hc)
  exact decide_eq_true (by omega)
theorem eqv_tx (a b : List Nat) : PyData.eqv (.str (tx a)) (.str (tx b)) = decide (a = b) := by
  simp only [PyData.eqv]
  by_cases h : a = b
  · subst h; simp
  · rw [decide_eq_false h, beq_eq_false_iff_ne]
    intro e
    exact h (by rw [← tl_tx a, e, tl_tx])
theorem cut_tx (l : List Nat) (i j : Nat) (hij : i ≤ j) : cutS (tx l) (some (i : Int)) (some (j : Int)) = tx ((l.drop i).take (j - i)) := by
  refine TL.ext_tl ?_
  show ((l.drop (HT.sIx (tx l).length 0 (some (i : Int)))).take (HT.sIx (tx l).length (tx l).length (some (j : Int)) - HT.sIx (tx l).length 0 (some (i : Int)))) = (l.drop i).take (j - i)
  rw [HT.sIx_nat, HT.sIx_nat, tx_len]
  by_cases hi : i ≤ l.length
  · rw [Nat.min_eq_left hi]
    by_cases hj : j ≤ l.length
    · rw [Nat.min_eq_left hj]
    · rw [Nat.min_eq_right (by omega), List.take_of_length_le (by rw [List.length_drop]; omega), List.take_of_length_le (by rw [List.length_drop]; omega)]
  · rw [List.drop_of_length_le (by omega), List.drop_of_length_le (by omega), List.take_nil, List.take_nil]
theorem cut_tx1 (l : List Nat) (i : Nat) : cutS (tx l) (some (i : Int)) (some ((i : Int) + 1)) = tx ((l.drop i).take 1) := by
  have e : ((i : Int) + 1) = ((i + 1 : Nat) : Int) := by omega
  rw [e, cut_tx l i (i + 1) (by omega), Nat.add_sub_cancel_left]
theorem at_tx {l : List Nat} {i : Nat} (h : i < l.length) : atI (tx l).cps.toList (i : Int) = some (l[i]'h) := atI_nat (xs := l) h
theorem in_tx (c : Nat) (l : List Nat) : strIn ⟨#[c]⟩ (tx l) = decide (c ∈ l) := PySem.StrLaws.found_one (tx l) c
theorem sh_empty : SeqAt.shaped (.str (Str.ofString "")) = true := by decide +kernel
theorem sh_0 : SeqAt.shaped (.str (Str.ofString "0")) = true := by decide +kernel
theorem sh_dot : SeqAt.shaped (.str (Str.ofString ".")) = true := by decide +kernel
theorem sh_mark : SeqAt.shaped (.str (Str.ofString "!")) = true := by decide +kernel
theorem sh_star : SeqAt.shaped (.str (Str.ofString ".*")) = true := by decide +kernel
theorem at_tx? {l : List Nat} {i c : Nat} (h : l[i]? = some c) : atI (tx l).cps.toList (i : Int) = some c := by
  obtain ⟨hi, e⟩ := List.getElem?_eq_some_iff.mp h
  rw [← e]
  exact atI_nat (xs := l) hi
theorem lit_empty : Str.ofString "" = tx [] := by decide +kernel
theorem lit_0 : Str.ofString "0" = tx [48] := by decide +kernel
theorem lit_figs : Str.ofString "0123456789" = tx [48, 49, 50, 51, 52, 53, 54, 55, 56, 57] := by decide +kernel
theorem lit_dot : Str.ofString "." = tx [46] := by decide +kernel
theorem lit_mark : Str.ofString "!" = tx [33] := by decide +kernel
theorem lit_post : Str.ofString ".post" = tx [46, 112, 111, 115, 116] := by decide +kernel
theorem lit_dev : Str.ofString ".dev" = tx [46, 100, 101, 118] := by decide +kernel
theorem lit_star : Str.ofString ".*" = tx [46, 42] := by decide +kernel
theorem lit_a : Str.ofString "a" = tx [97] := by decide +kernel
theorem lit_b : Str.ofString "b" = tx [98] := by decide +kernel
theorem lit_rc : Str.ofString "rc" = tx [114, 99] := by decide +kernel
theorem lit_num (n : Nat) : Str.ofString (toString ((n : Nat) : Int)) = tx (numL n) := TL.ext_tl (TL.tl_num n)
theorem word_tx (i : Nat) : wordS i = tx (wordL i) := by
  match i with
  | 0 => exact lit_a
  | 1 => exact lit_b
  | i + 2 => exact lit_rc
theorem tx_app (a b : List Nat) : tx a ++ tx b = tx (a ++ b) := TL.ext_tl (by rw [TL.tl_append, tl_tx, tl_tx, tl_tx])
theorem tx_ofNat_app (a b : List Nat) : (tx a : Str) ++ tx b = tx (a ++ b) := tx_app a b
theorem tx_inj {a b : List Nat} (h : tx a = tx b) : a = b := by rw [← tl_tx a, h, tl_tx]
/-- which signs are figures -/
def isDig (c : Nat) : Prop := 48 ≤ c ∧ c ≤ 57
instance (c : Nat) : Decidable (isDig c) := by unfold isDig; infer_instance
def NoDig (v : List Nat) : Prop := ∀ c r, v = c :: r → ¬ isDig c
theorem in_figs (c : Nat) : strIn ⟨#[c]⟩ (Str.ofString "0123456789") = decide (isDig c) := by
  rw [lit_figs, in_tx]
  refine decide_eq_decide.mpr ?_
  unfold isDig
  simp only [List.mem_cons, List.not_mem_nil, or_false]
  omega
theorem dig_num {n c : Nat} (h : c ∈ numL n) : isDig c := TL.numL_digits n c h
theorem asc_num (n : Nat) : Asc (numL n) := fun c hc => by have := dig_num hc; unfold isDig at this; omega
theorem num_first {n : Nat} (h : (numL n).head? = some 48) : n = 0 := by
  induction n using Nat.strongRecOn with
  | _ n ih =>
    by_cases hn : n < 10
    · rw [TL.numL_lt hn] at h
      have : 48 + n = 48 := Option.some.inj h
      omega
    · rw [TL.numL_step (by omega)] at h
      have hne := TL.numL_ne (n / 10)
      have h2 : (numL (n / 10)).head? = some 48 := by
        cases e : numL (n / 10) with
        | nil => exact absurd e hne
        | cons a b => rw [e] at h; exact h
      have := ih (n / 10) (by omega) h2
      omega
theorem num_zero : numL 0 = [48] := TL.numL_lt (by decide)
theorem int_tx {n : Nat} (h : n < 10 ^ 24) : intText? (tx (numL n)) = some (n : Int) := by
  rw [← lit_num]
  exact TL.int_num (Nat.le_trans (TL.numL_len (by decide) h) (by decide))
theorem len_num {n : Nat} (h : n < 10 ^ 24) : (numL n).length ≤ 24 := TL.numL_len (by decide) h
theorem log_lt {i : Nat} (h : i < 10 ^ 24) : ((i : Nat) : Int).natAbs.log2 < 1920 := by
  rw [Int.natAbs_natCast]
  by_cases h0 : i = 0
  · subst h0
    decide
  · exact (Nat.log2_lt h0).mpr (Nat.lt_of_lt_of_le (Nat.lt_of_lt_of_le h (show 10 ^ 24 ≤ 2 ^ 100 by decide)) (Nat.pow_le_pow_right (by decide) (by decide)))
theorem take_one {l : List Nat} {i : Nat} : (l.drop i).take 1 = l[i]?.toList := by
  cases h : l[i]? with
  | none =>
    rw [List.getElem?_eq_none_iff] at h
    rw [List.drop_of_length_le h]
    rfl
  | some c =>
    obtain ⟨hi, e⟩ := List.getElem?_eq_some_iff.mp h
    rw [List.drop_eq_getElem_cons hi, e]
    rfl
theorem cut_tx2 (l : List Nat) (i : Nat) : cutS (tx l) (some ((i : Int) + 1)) (some ((i : Int) + 2)) = tx ((l.drop (i + 1)).take 1) := by
  have e1 : ((i : Int) + 1) = ((i + 1 : Nat) : Int) := by omega
  have e2 : ((i : Int) + 2) = ((i + 2 : Nat) : Int) := by omega
  rw [e1, e2, cut_tx l (i + 1) (i + 2) (by omega)]
  congr 2
  omega
theorem figs_signs : DL.signs (Str.ofString "0123456789") = [tx [48], tx [49], tx [50], tx [51], tx [52], tx [53], tx [54], tx [55], tx [56], tx [57]] := by
  rw [lit_figs]
  rfl
theorem figs_flat : (((DL.signs (Str.ofString "0123456789")).map PyData.str).all flatD) = true := by
  rw [figs_signs]
  rfl
def digO : Option Nat → Bool
  | none => false
  | some c => decide (isDig c)
theorem figs_any (o : Option Nat) : (((DL.signs (Str.ofString "0123456789")).map PyData.str).any fun z => PyData.eqv z (.str (tx o.toList))) = digO o := by
  rw [figs_signs]
  simp only [List.map_cons, List.map_nil, List.any_cons, List.any_nil, eqv_tx]
  cases o with
  | none => simp [digO]
  | some c =>
    unfold digO
    simp only [Option.toList_some, List.cons.injEq, and_true, Bool.or_false]
    unfold isDig
    simp only [← Bool.decide_or]
    refine decide_eq_decide.mpr ?_
    omega
theorem joinN_one (n : Nat) : joinN [n] = numL n := rfl
theorem joinN_cons (n m : Nat) (r : List Nat) : joinN (n :: m :: r) = numL n ++ 46 :: joinN (m :: r) := rfl
theorem joinN_head {ns : List Nat} (h : ns ≠ []) : ∃ c r, joinN ns = c :: r ∧ isDig c := by
  match ns, h with
  | n :: ns, _ =>
    cases e : numL n with
    | nil => exact absurd e (TL.numL_ne n)
    | cons c r =>
      have hd : isDig c := dig_num (n := n) (by rw [e]; exact List.mem_cons_self)
      cases ns with
      | nil => exact ⟨c, r, by rw [joinN_one, e], hd⟩
      | cons m ns => exact ⟨c, r ++ 46 :: joinN (m :: ns), by rw [joinN_cons, e]; rfl, hd⟩
theorem asc_join : ∀ ns : List Nat, Asc (joinN ns)
  | [] => fun c hc => nomatch hc
  | [n] => asc_num n
  | n :: m :: r => by
    rw [joinN_cons]
    refine (asc_num n).app fun c hc => ?_
    rcases List.mem_cons.mp hc with rfl | hc
    · decide
    · exact asc_join (m :: r) c hc
end V

set_option Elab.async false
set_option linter.all false
set_option maxRecDepth 100000
set_option maxHeartbeats 4000000
namespace V
open PySem PySem.Spec PyProof.Rows L2 DL
open PySem.W (alike alikeAll dataLt)
open TL (numL joinL tl)
/-! ### slices -/
theorem cut_to {α : Type} (xs : List α) (k : Nat) : DL.cutD xs none (some (k : Int)) = xs.take k := by
  unfold DL.cutD
  rw [HT.sIx_nat, HT.sIx_none, List.drop_zero, Nat.sub_zero]
  by_cases h : k ≤ xs.length
  · rw [Nat.min_eq_left h]
  · rw [Nat.min_eq_right (by omega), List.take_of_length_le (Nat.le_refl _), List.take_of_length_le (by omega)]
theorem cut_from {α : Type} (xs : List α) (k : Nat) : DL.cutD xs (some (k : Int)) none = xs.drop k := by
  unfold DL.cutD
  rw [HT.sIx_nat, HT.sIx_none]
  by_cases h : k ≤ xs.length
  · rw [Nat.min_eq_left h, List.take_of_length_le (by rw [List.length_drop]; omega)]
  · rw [Nat.min_eq_right (by omega), List.drop_of_length_le (Nat.le_refl _), List.drop_of_length_le (by omega), List.take_nil]
theorem sIx_neg (n d k : Nat) (hk : 0 < k) : HT.sIx n d (some (-(k : Int))) = n - k := by
  show (if -(k : Int) < 0 then (-(k : Int) + (n : Int)).toNat else min (-(k : Int)).toNat n) = n - k
  rw [if_pos (by omega)]
  omega
theorem cut_toneg {α : Type} (xs : List α) (k : Nat) (hk : 0 < k) : DL.cutD xs none (some (-(k : Int))) = xs.take (xs.length - k) := by
  unfold DL.cutD
  rw [sIx_neg _ _ _ hk, HT.sIx_none, List.drop_zero, Nat.sub_zero]
theorem cut_fromneg {α : Type} (xs : List α) (k : Nat) (hk : 0 < k) : DL.cutD xs (some (-(k : Int))) none = xs.drop (xs.length - k) := by
  unfold DL.cutD
  rw [sIx_neg _ _ _ hk, HT.sIx_none, List.take_of_length_le (by rw [List.length_drop]; omega)]
theorem cutS_toneg (l : List Nat) (k : Nat) (hk : 0 < k) : cutS (tx l) none (some (-(k : Int))) = tx (l.take (l.length - k)) := by
  refine TL.ext_tl ?_
  show ((l.drop (HT.sIx (tx l).length 0 none)).take (HT.sIx (tx l).length (tx l).length (some (-(k : Int))) - HT.sIx (tx l).length 0 none)) = _
  rw [sIx_neg _ _ _ hk, HT.sIx_none, List.drop_zero, Nat.sub_zero, tx_len]
  rfl
theorem cutS_fromneg (l : List Nat) (k : Nat) (hk : 0 < k) : cutS (tx l) (some (-(k : Int))) none = tx (l.drop (l.length - k)) := by
  refine TL.ext_tl ?_
  show ((l.drop (HT.sIx (tx l).length 0 (some (-(k : Int))))).take (HT.sIx (tx l).length (tx l).length none - HT.sIx (tx l).length 0 (some (-(k : Int))))) = _
  rw [sIx_neg _ _ _ hk, HT.sIx_none, tx_len, List.take_of_length_le (by rw [List.length_drop]; omega)]
  rfl
theorem cut_tail {α : Type} (xs : List α) : DL.cutD xs (some 1) none = xs.tail := by
  have := cut_from xs 1
  rw [List.drop_one] at this
  exact this
/-! ### endings -/
theorem ew_tx (l s : List Nat) : Txt.endswith (tx l) (tx s) = true ↔ s.length ≤ l.length ∧ l.drop (l.length - s.length) = s := by
  unfold Txt.endswith
  rw [Bool.and_eq_true, StrLaws.subAt_eq, tx_len, tx_len, decide_eq_true_eq, beq_iff_eq, Nat.zero_add]
  show s.length ≤ l.length ∧ (l.drop (l.length - s.length)).take s.length = s ↔ _
  constructor
  · rintro ⟨h1, h2⟩
    rw [List.take_of_length_le (by rw [List.length_drop]; omega)] at h2
    exact ⟨h1, h2⟩
  · rintro ⟨h1, h2⟩
    refine ⟨h1, ?_⟩
    rw [h2, List.take_length]
/-! ### data of numbers -/
theorem lay_nats (ns : List Nat) : PyData.canLayAll0 (natsD ns) = true := by
  unfold natsD
  induction ns with
  | nil => simp only [List.map_nil, PyData.canLayAll0]
  | cons n ns ih => simp only [List.map_cons, PyData.canLayAll0, PyData.canLay0, ih, Bool.and_self]
theorem depth_nats (ns : List Nat) : PyData.depthAll (natsD ns) = 0 := by
  unfold natsD
  induction ns with
  | nil => simp only [List.map_nil, PyData.depthAll]
  | cons n ns ih => simp only [List.map_cons, PyData.depthAll, PyData.depth, ih, Nat.max_self]
theorem eqv_nats : ∀ a b : List Nat, PyData.eqvAll (natsD a) (natsD b) = decide (a = b)
  | [], [] => by simp [natsD, PyData.eqvAll]
  | [], b :: bs => by simp [natsD, PyData.eqvAll]
  | a :: as, [] => by simp [natsD, PyData.eqvAll]
  | a :: as, b :: bs => by
    have ih := eqv_nats as bs
    unfold natsD at ih ⊢
    rw [List.map_cons, List.map_cons, PyData.eqvAll, ih]
    simp only [PyData.eqv]
    by_cases h : a = b
    · subst h; simp
    · have : ¬ ((a : Int) = (b : Int)) := by omega
      simp [h, this]
theorem alike_nats : ∀ a b : List Nat, alikeAll (natsD a) (natsD b) = true
  | [], b => by simp [natsD, alikeAll]
  | a :: as, [] => by simp [natsD, alikeAll]
  | a :: as, b :: bs => by
    have ih := alike_nats as bs
    unfold natsD at ih ⊢
    rw [List.map_cons, List.map_cons, alikeAll, ih]
    simp [alike]
theorem lt_nats : ∀ a b : List Nat, PyProof.Rows.lexLt itemOrd (PySem.W.keyToksAll (natsD a)) (PySem.W.keyToksAll (natsD b)) = ltL a b
  | [], [] => lex_irrefl _
  | [], b :: bs => rfl
  | a :: as, [] => by
    simp [ltL]
    rfl
  | a :: as, b :: bs => by
    have ih := lt_nats as bs
    unfold natsD at ih ⊢
    rw [List.map_cons, List.map_cons, PySem.W.dataLt_cons (by simp [alike]), ih]
    show _ = if a = b then ltL as bs else decide (a < b)
    by_cases h : a = b
    · subst h; simp [PyData.eqv]
    · rw [if_neg (by simp [PyData.eqv]; omega), if_neg h, PySem.W.dataLt_int]
      refine decide_eq_decide.mpr ?_
      omega
/-! ### keys, cuts -/
theorem eqv_key (e e' : Nat) (b b' l l' : List Nat) : PyData.eqv (keyD e b l) (keyD e' b' l') = decide (e = e' ∧ b = b' ∧ l = l') := by
  unfold keyD
  simp only [PyData.eqv, PyData.eqvAll, eqv_nats, Bool.and_true]
  by_cases h : e = e'
  · subst h; simp [Bool.decide_and]
  · have : ¬ ((e : Int) = (e' : Int)) := by omega
    simp [h, this]
theorem alike_key (e e' : Nat) (b b' l l' : List Nat) : alike (keyD e b l) (keyD e' b' l') = true := by
  unfold keyD
  simp [alike, alikeAll, alike_nats]
theorem shaped_key (e : Nat) (b l : List Nat) : SeqAt.shaped (keyD e b l) = true := by
  unfold SeqAt.shaped keyD
  simp only [PyData.canLay0, PyData.canLayAll0, PyData.depth, PyData.depthAll, lay_nats, depth_nats, Bool.and_self, Bool.true_and]
  decide
theorem depth_key (e : Nat) (b l : List Nat) : (keyD e b l).depth = 2 := by
  unfold keyD
  simp only [PyData.depth, PyData.depthAll, depth_nats]
  decide
theorem key_ne (e : Nat) (b l : List Nat) : keyD e b l ≠ .none := fun h => nomatch h
theorem lt_key (c c' : Cut) : dataLt c.d c'.d = c.lt c' := by
  unfold Cut.d keyD Cut.lt
  rw [PySem.W.dataLt_tuple, PySem.W.dataLt_cons (by simp [alike])]
  by_cases h : c.ep = c'.ep
  · rw [if_pos (by simp [PyData.eqv, h]), if_pos h, PySem.W.dataLt_cons (by simp [alike, alike_nats])]
    by_cases h2 : c.b = c'.b
    · rw [if_pos (by simp [PyData.eqv, eqv_nats, h2]), if_pos h2, PySem.W.dataLt_cons (by simp [alike, alike_nats])]
      by_cases h3 : c.l = c'.l
      · rw [if_pos (by simp [PyData.eqv, eqv_nats, h3])]
        rw [show PyProof.Rows.lexLt itemOrd (PySem.W.keyToksAll []) (PySem.W.keyToksAll []) = false from lex_irrefl _, h3, ← lt_nats]
        exact (lex_irrefl _).symm
      · rw [if_neg (by simp [PyData.eqv, eqv_nats, h3]), PySem.W.dataLt_tuple, lt_nats]
    · rw [if_neg (by simp [PyData.eqv, eqv_nats, h2]), if_neg h2, PySem.W.dataLt_tuple, lt_nats]
  · rw [if_neg (by simp [PyData.eqv]; omega), if_neg h, PySem.W.dataLt_int]
    refine decide_eq_decide.mpr ?_
    omega
theorem lt_key' (k : Ky) (c : Cut) : dataLt k.d c.d = k.cut.lt c := lt_key k.cut c
theorem alike_cut (c c' : Cut) : alike c.d c'.d = true := alike_key _ _ _ _ _ _
theorem depth_cut (c : Cut) : c.d.depth ≤ 60 := by unfold Cut.d; rw [depth_key]; decide
theorem cut_ne (c : Cut) : c.d ≠ .none := key_ne _ _ _
/-! ### strip -/
theorem strip_snoc0 : ∀ l : List Nat, strip (l ++ [0]) = strip l
  | [] => rfl
  | x :: l => by
    rw [List.cons_append, strip, strip, strip_snoc0 l]
theorem strip_snoc {x : Nat} (hx : x ≠ 0) : ∀ l : List Nat, strip (l ++ [x]) = l ++ [x]
  | [] => by show (match strip [] with
      | [] => if x = 0 then [] else [x]
      | y :: ys => x :: y :: ys) = [x]; simp [strip, hx]
  | y :: l => by
    rw [List.cons_append, strip, strip_snoc hx l]
    cases e : l ++ [x] with
    | nil => simp at e
    | cons a b => rfl
theorem strip_len : ∀ l : List Nat, (strip l).length ≤ l.length
  | [] => Nat.le_refl _
  | x :: l => by
    have ih := strip_len l
    rw [strip]
    cases e : strip l with
    | nil =>
      by_cases h : x = 0
      · simp [h]
      · simp [h]
    | cons y ys =>
      rw [e] at ih
      simp only [List.length_cons] at ih ⊢
      omega
theorem strip_mem : ∀ {l : List Nat} {n : Nat}, n ∈ strip l → n ∈ l
  | [], n, h => h
  | x :: l, n, h => by
    rw [strip] at h
    cases e : strip l with
    | nil =>
      rw [e] at h
      by_cases h0 : x = 0
      · simp [h0] at h
      · simp [h0] at h
        rw [h]
        exact List.mem_cons_self
    | cons y ys =>
      rw [e] at h
      rcases List.mem_cons.mp h with h | h
      · rw [h]; exact List.mem_cons_self
      · exact List.mem_cons_of_mem _ (strip_mem (by rw [e]; exact h))
theorem strip_idem : ∀ l : List Nat, strip (strip l) = strip l
  | [] => rfl
  | x :: l => by
    have ih := strip_idem l
    rw [strip]
    cases e : strip l with
    | nil =>
      by_cases h0 : x = 0
      · simp [h0, strip]
      · simp [h0, strip]
    | cons y ys =>
      rw [e] at ih
      show strip (x :: y :: ys) = x :: y :: ys
      rw [strip, ih]
/-- a comprehension that draws nothing -/
theorem lc_pure {α : Type} {g : TDG} {tt : TDT} {te : TD} {r : List Sl} {Q : List PyData → Nat → Prop} {n : Nat} (enc : α → PyData) (keep : α → Bool) (out : α → PyData) : ∀ (l : List α) (acc : List PyData),
    (∀ x ∈ l, ∀ (K : PyData → Nat → Prop) (K0 : Nat → Prop), (keep x = true → K (out x) n) → (keep x = false → K0 n) → g (enc x) ⟨r, n⟩ fun s2 => tt s2 fun b s3 => if b = true then te s3 fun y s4 => K y s4.n else K0 s3.n) →
    Q (acc ++ (l.filter keep).map out) n → lcGo g tt te r Q (l.map enc) acc n
  | [], acc, _, q => by
    rw [List.filter_nil, List.map_nil, List.append_nil] at q
    exact q
  | x :: l, acc, step, q => by
    refine step x List.mem_cons_self (fun y m => lcGo g tt te r Q (l.map enc) (acc ++ [y]) m) (fun m => lcGo g tt te r Q (l.map enc) acc m) (fun hk => ?_) (fun hk => ?_)
    · refine lc_pure enc keep out l (acc ++ [out x]) (fun z hz => step z (List.mem_cons_of_mem _ hz)) ?_
      rw [List.filter_cons_of_pos hk, List.map_cons] at q
      rw [List.append_assoc]
      exact q
    · refine lc_pure enc keep out l acc (fun z hz => step z (List.mem_cons_of_mem _ hz)) ?_
      rw [List.filter_cons_of_neg (by rw [hk]; exact Bool.false_ne_true)] at q
      exact q
end V

set_option Elab.async false
set_option linter.all false
set_option maxRecDepth 100000
set_option maxHeartbeats 4000000
namespace V
open PySem PySem.Spec PyProof.Rows L2 DL
open TL (numL joinL tl)
/-! ### numbers in a text -/
structure NumA where
  u : List Nat
  n : Nat
  v : List Nat
def NumA.L (a : NumA) : List Nat := a.u ++ (numL a.n ++ a.v)
def D_number_at : DX := pureD (fun a : NumA => [.str (tx a.L), .int (a.u.length : Int)]) (fun a => a.n < 10 ^ 24 ∧ NoDig a.v ∧ Asc a.L ∧ a.L.length ≤ 100000)
  fun a => .tuple [.int (a.n : Int), .int ((a.u.length + (numL a.n).length : Nat) : Int)]
theorem pm_number_at : Pm 2 D_number_at := pm_pure fun _ => rfl
theorem NumA.at {a : NumA} {j : Nat} (h : j < (numL a.n).length) : ∃ c, a.L[a.u.length + j]? = some c ∧ isDig c := by
  refine ⟨(numL a.n)[j]'h, ?_, dig_num (List.getElem_mem h)⟩
  unfold NumA.L
  rw [List.getElem?_append_right (by omega), List.getElem?_append_left (by omega), Nat.add_sub_cancel_left, List.getElem?_eq_getElem h]
theorem NumA.at_end {a : NumA} {c : Nat} (hv : NoDig a.v) (h : a.L[a.u.length + (numL a.n).length]? = some c) : ¬ isDig c := by
  unfold NumA.L at h
  rw [List.getElem?_append_right (by omega), List.getElem?_append_right (by omega), Nat.add_sub_cancel_left, Nat.sub_self] at h
  cases e : a.v with
  | nil => rw [e] at h; cases h
  | cons x r =>
    rw [e] at h
    have : x = c := Option.some.inj h
    subst this
    exact hv x r e
theorem drop_one {l : List Nat} {i : Nat} : ((l.drop i).take 1 = []) ↔ l[i]? = none := by
  rw [List.take_eq_nil_iff, List.drop_eq_nil_iff, List.getElem?_eq_none_iff]
  omega
theorem NumA.cut (a : NumA) : (a.L.drop a.u.length).take (numL a.n).length = numL a.n := by
  unfold NumA.L
  rw [List.drop_left, List.take_left]
theorem wp_number_at (ds : List PyData) (n : Nat) (Q : QN) (h : D_number_at ds n Q) : td_number_at (ends Q) (entry false N_number_at ds n) := by
  obtain ⟨a, rfl, ⟨hm, hv, ha, hl⟩, q⟩ := h
  have hz : (tx a.L).length ≤ sizeLine := by rw [tx_len, sizeLine_eq]; omega
  refine ⟨_, rfl, ?_⟩
  refine ⟨fun k s => ∃ j : Nat, j + k = (numL a.n).length ∧ s = ⟨[.d (.str (tx a.L)), .d (.int (a.u.length : Int)), .d (.int ((a.u.length + j : Nat) : Int)), .un], n⟩, ⟨(numL a.n).length, 0, Nat.zero_add _, rfl⟩, ?_⟩
  rintro k s ⟨j, hj, rfl⟩
  (repeat (first | exact q | refine ⟨_, rfl, ?_⟩ | refine ⟨rfl, ?_⟩ | refine ⟨fit (by rfl), ?_⟩ | refine ⟨fit2 (by rfl), ?_⟩))
  refine ⟨hz, ?_⟩
  have e1 : cutS (tx a.L) (some ((a.u.length + j : Nat) : Int)) (some (((a.u.length + j : Nat) : Int) + 1)) = tx ((a.L.drop (a.u.length + j)).take 1) := cut_tx1 _ _
  refine ⟨by rw [e1]; exact shaped_tx (ha.cut _ _), sh_empty, _, rfl, ?_⟩
  show if (!PyData.eqv (.str (cutS (tx a.L) (some ((a.u.length + j : Nat) : Int)) (some (((a.u.length + j : Nat) : Int) + 1)))) (.str (Str.ofString ""))) = true then _ else _
  have cnd : (!PyData.eqv (.str (cutS (tx a.L) (some ((a.u.length + j : Nat) : Int)) (some (((a.u.length + j : Nat) : Int) + 1)))) (.str (Str.ofString ""))) = !decide (a.L[a.u.length + j]? = none) := by
    rw [e1, lit_empty, eqv_tx]
    exact congrArg (!·) (decide_eq_decide.mpr drop_one)
  -- behind the loop
  have fin : ∀ s : DS, j = (numL a.n).length → s = ⟨[.d (.str (tx a.L)), .d (.int (a.u.length : Int)), .d (.int ((a.u.length + j : Nat) : Int)), .un], n⟩ → (dSeq (dAsg (dSl (dVar 0) (dPart (dVar 1)) (dPart (dVar 2))) (gdName 3))
      (dSeq (dIfS (dOr (dTest (dOp eqR (dVar 3) (dC (.str "")))) (dOr (dTest (dOp gtR (dCB lenR (dCons (dVar 3) dNil)) (dC (.int 24)))) (dAnd (dTest (dOp eqR (dOp ixR (dVar 3) (dC (.int 0))) (dC (.str "0")))) (dTest (dOp neR (dVar 3) (dC (.str "0"))))))) (dRet (dC .none)) dNext)
      (dRet (dTup (dCons (dCB intR1 (dCons (dVar 3) dNil)) (dCons (dVar 2) dNil)))))) (ends Q) s := by
    rintro _ rfl rfl
    (repeat (first | exact q | refine ⟨_, rfl, ?_⟩ | refine ⟨rfl, ?_⟩ | refine ⟨fit (by rfl), ?_⟩ | refine ⟨fit2 (by rfl), ?_⟩))
    refine ⟨hz, ?_⟩
    have e2 : cutS (tx a.L) (some (a.u.length : Int)) (some ((a.u.length + (numL a.n).length : Nat) : Int)) = tx (numL a.n) := by
      rw [cut_tx _ _ _ (by omega), Nat.add_sub_cancel_left, a.cut]
    have sh : SeqAt.shaped (.str (tx (numL a.n))) = true := shaped_tx (asc_num _)
    show dSeq _ _ _ ⟨[.d (.str (tx a.L)), .d (.int (a.u.length : Int)), .d (.int ((a.u.length + (numL a.n).length : Nat) : Int)), .d (.str (cutS (tx a.L) (some (a.u.length : Int)) (some ((a.u.length + (numL a.n).length : Nat) : Int))))], n⟩
    rw [e2]
    (repeat (first | exact q | refine ⟨_, rfl, ?_⟩ | refine ⟨rfl, ?_⟩ | refine ⟨fit (by rfl), ?_⟩ | refine ⟨fit2 (by rfl), ?_⟩))
    refine ⟨sh, sh_empty, _, rfl, ?_⟩
    show if PyData.eqv (.str (tx (numL a.n))) (.str (Str.ofString "")) = true then _ else _
    rw [if_neg (by rw [lit_empty, eqv_tx, decide_eq_false (TL.numL_ne _)]; exact Bool.false_ne_true)]
    (repeat (first | exact q | refine ⟨_, rfl, ?_⟩ | refine ⟨rfl, ?_⟩ | refine ⟨fit (by rfl), ?_⟩ | refine ⟨fit2 (by rfl), ?_⟩))
    refine ⟨by rw [tx_len, sizeLine_eq]; have := len_num hm; omega, ?_⟩
    refine ⟨by simp only [PySem.W.alike], by simp, by simp only [PyData.depth]; omega, _, rfl, ?_⟩
    show if PySem.W.dataLt (.int 24) (.int ((tx (numL a.n)).length : Nat)) = true then _ else _
    rw [if_neg (by rw [PySem.W.dataLt_int, tx_len, decide_eq_false (by have := len_num hm; omega)]; exact Bool.false_ne_true)]
    (repeat (first | exact q | refine ⟨_, rfl, ?_⟩ | refine ⟨rfl, ?_⟩ | refine ⟨fit (by rfl), ?_⟩ | refine ⟨fit2 (by rfl), ?_⟩))
    obtain ⟨c, r, ec⟩ : ∃ c r, numL a.n = c :: r := by
      cases e : numL a.n with
      | nil => exact absurd e (TL.numL_ne _)
      | cons c r => exact ⟨c, r, rfl⟩
    refine ⟨c, by rw [tx_len, sizeLine_eq]; have := len_num hm; omega, at_tx? (i := 0) (by rw [ec]; rfl), ?_⟩
    have hc : Asc [c] := fun d hd => by
      rw [List.mem_singleton.mp hd]
      exact asc_num a.n c (by rw [ec]; exact List.mem_cons_self)
    refine ⟨shaped_tx hc, sh_0, _, rfl, ?_⟩
    show if PyData.eqv (.str (tx [c])) (.str (Str.ofString "0")) = true then _ else _
    have fin2 : dRet (dTup (dCons (dCB intR1 (dCons (dVar 3) dNil)) (dCons (dVar 2) dNil))) (ends Q) ⟨[.d (.str (tx a.L)), .d (.int (a.u.length : Int)), .d (.int ((a.u.length + (numL a.n).length : Nat) : Int)), .d (.str (tx (numL a.n)))], n⟩ := by
      (repeat (first | exact q | refine ⟨_, rfl, ?_⟩ | refine ⟨rfl, ?_⟩ | refine ⟨fit (by rfl), ?_⟩ | refine ⟨fit2 (by rfl), ?_⟩))
      exact ⟨_, int_tx hm, by rw [tx_len]; have := len_num hm; omega, _, rfl, fit (by rfl), q⟩
    rw [lit_0, eqv_tx]
    by_cases h0 : [c] = [48]
    · rw [if_pos (decide_eq_true h0)]
      have hn0 : a.n = 0 := num_first (by rw [ec]; exact congrArg some (List.cons.inj h0).1)
      (repeat (first | exact q | refine ⟨_, rfl, ?_⟩ | refine ⟨rfl, ?_⟩ | refine ⟨fit (by rfl), ?_⟩ | refine ⟨fit2 (by rfl), ?_⟩))
      refine ⟨sh, sh_0, _, rfl, ?_⟩
      rw [← lit_0]
      show if (!PyData.eqv (.str (tx (numL a.n))) (.str (Str.ofString "0"))) = true then _ else _
      rw [if_neg (by rw [lit_0, eqv_tx, hn0, num_zero, decide_eq_true rfl]; exact Bool.false_ne_true)]
      exact fin2
    · rw [if_neg (by rw [decide_eq_false h0]; exact Bool.false_ne_true)]
      exact fin2
  by_cases hlast : j < (numL a.n).length
  · obtain ⟨c, hc, hd⟩ := NumA.at (a := a) hlast
    rw [if_pos (by rw [cnd, hc]; rfl)]
    (repeat (first | exact q | refine ⟨_, rfl, ?_⟩ | refine ⟨rfl, ?_⟩ | refine ⟨fit (by rfl), ?_⟩ | refine ⟨fit2 (by rfl), ?_⟩))
    refine ⟨c, hz, at_tx? hc, _, rfl, ?_⟩
    show if strIn ⟨#[c]⟩ (Str.ofString "0123456789") = true then _ else _
    rw [if_pos (by rw [in_figs]; exact decide_eq_true hd)]
    exact ⟨_, rfl, k - 1, by omega, j + 1, by omega, rfl⟩
  · have hj2 : j = (numL a.n).length := by omega
    cases hc : a.L[a.u.length + j]? with
    | none =>
      rw [if_neg (by rw [cnd, hc]; exact Bool.false_ne_true)]
      exact fin _ hj2 rfl
    | some c =>
      rw [if_pos (by rw [cnd, hc]; rfl)]
      (repeat (first | exact q | refine ⟨_, rfl, ?_⟩ | refine ⟨rfl, ?_⟩ | refine ⟨fit (by rfl), ?_⟩ | refine ⟨fit2 (by rfl), ?_⟩))
      refine ⟨c, hz, at_tx? hc, _, rfl, ?_⟩
      show if strIn ⟨#[c]⟩ (Str.ofString "0123456789") = true then _ else _
      rw [if_neg (by rw [in_figs, decide_eq_false (NumA.at_end hv (by rw [← hj2]; exact hc))]; exact Bool.false_ne_true)]
      exact fin _ hj2 rfl
end V

set_option Elab.async false
set_option linter.all false
set_option maxRecDepth 100000
set_option maxHeartbeats 4000000
namespace V
open PySem PySem.Spec PyProof.Rows L2 DL
open TL (numL joinL tl)
structure NumsA where
  u : List Nat
  ns : List Nat
  v : List Nat
def NumsA.L (a : NumsA) : List Nat := a.u ++ (joinN a.ns ++ a.v)
def NoDotDig (v : List Nat) : Prop := ∀ c r, v = 46 :: c :: r → ¬ isDig c
def restV (rest v : List Nat) : List Nat := match rest with
  | [] => v
  | x :: r => 46 :: (joinN (x :: r) ++ v)
def D_numbers_at : DX := pureD (fun a : NumsA => [.str (tx a.L), .int (a.u.length : Int)]) (fun a => a.ns ≠ [] ∧ a.ns.length ≤ 60 ∧ (∀ n ∈ a.ns, n < 10 ^ 24) ∧ NoDig a.v ∧ NoDotDig a.v ∧ Asc a.L ∧ a.L.length ≤ 100000)
  fun a => .tuple [.tuple (natsD a.ns), .int ((a.u.length + (joinN a.ns).length : Nat) : Int)]
theorem pm_numbers_at : Pm 2 D_numbers_at := pm_pure fun _ => rfl
theorem wp_numbers_at (ds : List PyData) (n : Nat) (Q : QN) (h : D_numbers_at ds n Q) : td_numbers_at D_number_at (ends Q) (entry false N_numbers_at ds n) := by
  obtain ⟨a, rfl, ⟨h1, h2, h3, h4, h5, h6, h7⟩, q⟩ := h
  have hz : (tx a.L).length ≤ sizeLine := by rw [tx_len, sizeLine_eq]; omega
  (repeat (first | exact q | refine ⟨_, rfl, ?_⟩ | refine ⟨rfl, ?_⟩ | refine ⟨fit (by rfl), ?_⟩ | refine ⟨fit2 (by rfl), ?_⟩))
  refine ⟨fun k s => ∃ (dn rest u : List Nat) (o : Sl), a.ns = dn ++ rest ∧ rest ≠ [] ∧ rest.length = k ∧ a.L = u ++ (joinN rest ++ a.v) ∧ u.length + (joinN rest).length = a.u.length + (joinN a.ns).length ∧ s = ⟨[.d (.str (tx a.L)), .d (.int (a.u.length : Int)), .own (natsD dn), .d (.int (u.length : Int)), o], n⟩,
    ⟨a.ns.length, [], a.ns, a.u, .un, rfl, h1, rfl, rfl, rfl, rfl⟩, ?_⟩
  rintro k s ⟨dn, rest, u, o, e1, hne, hk, eL, el, rfl⟩
  have hdn : dn.length + rest.length ≤ 60 := by rw [← List.length_append, ← e1]; exact h2
  (repeat (first | exact q | refine ⟨_, rfl, ?_⟩ | refine ⟨rfl, ?_⟩ | refine ⟨fit (by rfl), ?_⟩ | refine ⟨fit2 (by rfl), ?_⟩))
  match rest, hne with
  | m :: rest, _ =>
  have hm : m < 10 ^ 24 := h3 m (by rw [e1]; simp)
  obtain ⟨v, ev, hv⟩ : ∃ v, a.L = u ++ (numL m ++ v) ∧ v = restV rest a.v := by
    cases rest with
    | nil => exact ⟨a.v, eL, rfl⟩
    | cons x r => exact ⟨46 :: (joinN (x :: r) ++ a.v), by rw [eL, joinN_cons, List.append_assoc]; rfl, rfl⟩
  have nd : NoDig v := by
    cases rest with
    | nil => rw [hv]; exact h4
    | cons x r => rw [hv]; intro c r' e; cases e; decide
  refine ⟨⟨u, m, v⟩, congrArg (fun l => [PyData.str (tx l), PyData.int (u.length : Int)]) ev, ⟨hm, nd, by unfold NumA.L; rw [← ev]; exact h6, by unfold NumA.L; rw [← ev]; exact h7⟩, ?_⟩
  (repeat (first | exact q | refine ⟨_, rfl, ?_⟩ | refine ⟨rfl, ?_⟩ | refine ⟨fit (by rfl), ?_⟩ | refine ⟨fit2 (by rfl), ?_⟩))
  refine ⟨⟨_, rfl⟩, ?_⟩
  (repeat (first | exact q | refine ⟨_, rfl, ?_⟩ | refine ⟨rfl, ?_⟩ | refine ⟨fit (by rfl), ?_⟩ | refine ⟨fit2 (by rfl), ?_⟩))
  refine ⟨by rw [natsD_len, sizeLine_eq]; omega, ?_⟩
  (repeat (first | exact q | refine ⟨_, rfl, ?_⟩ | refine ⟨rfl, ?_⟩ | refine ⟨fit (by rfl), ?_⟩ | refine ⟨fit2 (by rfl), ?_⟩))
  have e2 : natsD dn ++ [PyData.int (m : Int)] = natsD (dn ++ [m]) := by unfold natsD; rw [List.map_append]; rfl
  -- what follows, from the new state
  have eN : a.L[u.length + (numL m).length]? = v[0]? ∧ a.L[u.length + (numL m).length + 1]? = v[1]? := by
    rw [ev]
    constructor
    · rw [List.getElem?_append_right (by omega), List.getElem?_append_right (by omega)]
      congr 1
      omega
    · rw [List.getElem?_append_right (by omega), List.getElem?_append_right (by omega)]
      congr 1
      omega
  have c1 : (!PyData.eqv (.str (cutS (tx a.L) (some ((u.length + (numL m).length : Nat) : Int)) (some (((u.length + (numL m).length : Nat) : Int) + 1)))) (.str (Str.ofString "."))) = !decide (v[0]? = some 46) := by
    rw [cut_tx1, lit_dot, eqv_tx, take_one, eN.1]
    refine congrArg (!·) (decide_eq_decide.mpr ?_)
    cases v[0]? <;> simp
  have c2 : (((DL.signs (Str.ofString "0123456789")).map PyData.str).any fun z => PyData.eqv z (.str (cutS (tx a.L) (some (((u.length + (numL m).length : Nat) : Int) + 1)) (some (((u.length + (numL m).length : Nat) : Int) + 2))))) = digO v[1]? := by
    rw [cut_tx2, take_one, eN.2, figs_any]
  refine ⟨hz, by rw [cut_tx1]; exact shaped_tx (h6.cut _ _), sh_dot, _, rfl, ?_⟩
  match rest, hv with
  | [], hv =>
    have hv' : v = a.v := hv
    have el' : u.length + (numL m).length = a.u.length + (joinN a.ns).length := el
    have e1' : a.ns = dn ++ [m] := e1
    -- the end
    have fin : dRet (dIf (dTest (dOp leR (dLenOwn 2) (dC (.int 60)))) (dTup (dCons (dCB tupR1 (dCons (dGive 2) dNil)) (dCons (dVar 3) dNil))) (dC .none)) (ends Q)
        ⟨[.d (.str (tx a.L)), .d (.int (a.u.length : Int)), .own (natsD dn ++ [PyData.int (m : Int)]), .d (.int ((u.length + (numL m).length : Nat) : Int)), .d (.tuple [.int (m : Int), .int ((u.length + (numL m).length : Nat) : Int)])], n⟩ := by
      refine ⟨_, rfl, ?_⟩
      refine ⟨by simp only [PySem.W.alike], by simp, by simp only [PyData.depth]; omega, _, rfl, ?_⟩
      refine onT ?_ ?_
      · show (!PySem.W.dataLt (.int 60) (.int ((natsD dn ++ [PyData.int (m : Int)]).length : Nat))) = true
        rw [PySem.W.dataLt_int, e2, natsD_len, decide_eq_false]
        · rfl
        · rw [← e1']; omega
      · refine ⟨_, rfl, _, rfl, fit (by rfl), ?_⟩
        show Q (.tuple [.tuple (natsD dn ++ [PyData.int (m : Int)]), .int ((u.length + (numL m).length : Nat) : Int)]) n
        rw [e2, ← e1', el']
        exact q
    by_cases h0 : v[0]? = some 46
    · refine onF (by rw [c1, h0]; rfl) ?_
      (repeat (first | exact q | refine ⟨_, rfl, ?_⟩ | refine ⟨rfl, ?_⟩ | refine ⟨fit (by rfl), ?_⟩ | refine ⟨fit2 (by rfl), ?_⟩))
      refine ⟨hz, by rw [lit_figs, tx_len, sizeLine_eq]; decide, rfl, figs_flat, _, rfl, _, rfl, ?_⟩
      refine onT ?_ fin
      rw [c2]
      cases h1' : v[1]? with
      | none => rfl
      | some c =>
        show (!decide (isDig c)) = true
        rw [decide_eq_false]
        · rfl
        · cases ev' : v with
          | nil => rw [ev'] at h0; cases h0
          | cons x r =>
            rw [ev'] at h0 h1'
            cases h0
            cases r with
            | nil => cases h1'
            | cons y r =>
              cases h1'
              exact h5 _ _ (hv' ▸ ev')
    · refine onT (by rw [c1, decide_eq_false h0]; rfl) ?_
      exact onT rfl fin
  | x :: r, hv =>
    have hv' : v = 46 :: (joinN (x :: r) ++ a.v) := hv
    obtain ⟨c, t, ec, hc⟩ := joinN_head (ns := x :: r) (by simp)
    refine onF (by rw [c1, hv']; rfl) ?_
    (repeat (first | exact q | refine ⟨_, rfl, ?_⟩ | refine ⟨rfl, ?_⟩ | refine ⟨fit (by rfl), ?_⟩ | refine ⟨fit2 (by rfl), ?_⟩))
    refine ⟨hz, by rw [lit_figs, tx_len, sizeLine_eq]; decide, rfl, figs_flat, _, rfl, _, rfl, ?_⟩
    refine onF ?_ ?_
    · rw [c2, hv', ec]
      show (!decide (isDig c)) = false
      rw [decide_eq_true hc]
      rfl
    · refine ⟨_, rfl, k - 1, ?_, dn ++ [m], x :: r, u ++ (numL m ++ [46]), .d (.tuple [.int (m : Int), .int ((u.length + (numL m).length : Nat) : Int)]), ?_, by simp, ?_, ?_, ?_, ?_⟩
      · rw [List.length_cons] at hk; omega
      · rw [e1, List.append_assoc]; rfl
      · rw [List.length_cons] at hk; omega
      · rw [ev, hv', List.append_assoc, List.append_assoc]; rfl
      · rw [joinN_cons] at el
        simp only [List.length_append, List.length_cons, List.length_nil] at el ⊢
        omega
      · rw [← e2]
        simp only [List.length_append, List.length_cons, List.length_nil]
        rfl
end V

set_option Elab.async false
set_option linter.all false
set_option maxRecDepth 100000
set_option maxHeartbeats 4000000
namespace V
open PySem PySem.Spec PyProof.Rows L2 DL
open TL (numL joinL tl pre)
/-! ### words in a text -/
theorem sw3 {l : List Nat} {y : Str} {i : Nat} (hy : tl y ≠ []) (hi : i ≤ l.length) : Txt.startswith3 (tx l) y (i : Int) = pre (tl y) (l.drop i) := by
  have ef : PySem.fromIndex (tx l).length (i : Int) = i := by
    unfold PySem.fromIndex
    rw [if_neg (by omega)]
    omega
  have e := TL.at_iff (x := tx l) (y := y) hy i
  unfold Txt.startswith3
  rw [ef]
  rw [Bool.eq_iff_iff]
  rw [tl_tx] at e
  rw [← e]
  unfold StrLaws.At
  simp [Bool.and_eq_true]
inductive WP (w : List Nat) : List Str → Option (Str × Nat × List Nat) → Prop
  | nil : WP w [] none
  | hit {y : Str} {ws : List Str} {n : Nat} {v : List Nat} : w = tl y ++ (numL n ++ v) → n < 10 ^ 24 → NoDig v → WP w (y :: ws) (some (y, n, v))
  | miss {y : Str} {ws : List Str} {r : Option (Str × Nat × List Nat)} : pre (tl y) w = false → WP w ws r → WP w (y :: ws) r
structure WdA where
  u : List Nat
  w : List Nat
  ws : List Str
  r : Option (Str × Nat × List Nat)
def WdA.L (a : WdA) : List Nat := a.u ++ a.w
def WdA.res (a : WdA) : PyData := match a.r with
  | none => .tuple [.none, .int (a.u.length : Int)]
  | some (y, n, _) => .tuple [.tuple [.str y, .int (n : Int)], .int ((a.u.length + (tl y).length + (numL n).length : Nat) : Int)]
def D_word_at : DX := pureD (fun a : WdA => [.str (tx a.L), .int (a.u.length : Int), .tuple (a.ws.map .str)]) (fun a => WP a.w a.ws a.r ∧ (∀ y ∈ a.ws, tl y ≠ [] ∧ (tl y).length ≤ 10) ∧ Asc a.L ∧ a.L.length ≤ 100000) WdA.res
theorem pm_word_at : Pm 3 D_word_at := pm_pure fun _ => rfl
theorem wp_word_at (ds : List PyData) (n : Nat) (Q : QN) (h : D_word_at ds n Q) : td_word_at D_number_at (ends Q) (entry false N_word_at ds n) := by
  obtain ⟨a, rfl, ⟨h1, h2, h3, h4⟩, q⟩ := h
  refine ⟨_, rfl, _, rfl, ?_⟩
  have go : ∀ (ws : List Str) (r : Option (Str × Nat × List Nat)) (o o' : Sl), WP a.w ws r → (∀ y ∈ ws, tl y ≠ [] ∧ (tl y).length ≤ 10) → Q (WdA.res ⟨a.u, a.w, ws, r⟩) n →
      forGo (gdName 3) (dIfS (dTest (dBM swR (dVar 0) (dCons (dVar 3) (dCons (dVar 1) dNil)))) (dSeq (dAsg (dCall D_number_at (dCons (dVar 0) (dCons (dOp addR (dVar 1) (dCB lenR (dCons (dVar 3) dNil))) dNil))) (gdName 4))
        (dRet (dIf (dTest (dOp isR (dVar 4) (dC .none))) (dC .none) (dTup (dCons (dTup (dCons (dVar 3) (dCons (dOp ixR (dVar 4) (dC (.int 0))) dNil))) (dCons (dOp ixR (dVar 4) (dC (.int 1))) dNil)))))) dNext)
        { nx := fun s => dRet (dTup (dCons (dC .none) (dCons (dVar 1) dNil))) (ends Q) s, rt := (ends Q).rt, bk := (ends Q).bk, ct := (ends Q).ct } (ws.map .str)
        ⟨[.d (.str (tx a.L)), .d (.int (a.u.length : Int)), .d (.tuple (a.ws.map .str)), o, o'], n⟩ := by
    intro ws
    induction ws with
    | nil =>
      intro r o o' hw _ q
      cases hw
      exact ⟨_, rfl, fit (by rfl), q⟩
    | cons y ws ih =>
      intro r o o' hw hy q
      have hy0 := hy y List.mem_cons_self
      have esw : Txt.startswith3 (tx a.L) y (a.u.length : Int) = pre (tl y) a.w := by
        rw [sw3 hy0.1 (by unfold WdA.L; rw [List.length_append]; omega)]
        unfold WdA.L
        rw [List.drop_left]
      (repeat (first | exact q | refine ⟨_, rfl, ?_⟩ | refine ⟨rfl, ?_⟩ | refine ⟨fit (by rfl), ?_⟩ | refine ⟨fit2 (by rfl), ?_⟩))
      cases hw with
      | miss hp hw =>
        refine onF (by rw [esw]; exact hp) ?_
        refine ih r _ _ hw (fun z hz => hy z (List.mem_cons_of_mem _ hz)) ?_
        cases r with
        | none => exact q
        | some t => exact q
      | hit ew hn hv =>
        rename_i m v
        refine onT (by rw [esw, ew]; exact TL.pre_self _ _) ?_
        (repeat (first | exact q | refine ⟨_, rfl, ?_⟩ | refine ⟨rfl, ?_⟩ | refine ⟨fit (by rfl), ?_⟩ | refine ⟨fit2 (by rfl), ?_⟩))
        refine ⟨by rw [TL.len_tl, sizeLine_eq]; omega, ?_⟩
        have eL : a.L = (a.u ++ tl y) ++ (numL m ++ v) := by unfold WdA.L; rw [ew, List.append_assoc]
        refine ⟨⟨a.u ++ tl y, m, v⟩, ?_, ⟨hn, hv, by unfold NumA.L; rw [← eL]; exact h3, by unfold NumA.L; rw [← eL]; exact h4⟩, ?_⟩
        · show [PyData.str (tx a.L), PyData.int ((a.u.length : Int) + (y.length : Int))] = [.str (tx ((a.u ++ tl y) ++ (numL m ++ v))), .int ((a.u ++ tl y).length : Int)]
          rw [← eL, List.length_append, TL.len_tl]
          rfl
        · (repeat (first | exact q | refine ⟨_, rfl, ?_⟩ | refine ⟨rfl, ?_⟩ | refine ⟨fit (by rfl), ?_⟩ | refine ⟨fit2 (by rfl), ?_⟩))
          show Q (.tuple [.tuple [.str y, .int (m : Int)], .int (((a.u ++ tl y).length + (numL m).length : Nat) : Int)]) n
          rw [List.length_append]
          exact q
  exact go a.ws a.r _ _ h1 h2 q
def TlA (u : List Nat) (t : Tl) : List Nat := u ++ tlL t
def D_tail_at : DX := pureD (fun a : List Nat × Tl => [.str (tx (TlA a.1 a.2)), .int (a.1.length : Int)]) (fun a => a.2.G ∧ Asc (TlA a.1 a.2) ∧ (TlA a.1 a.2).length ≤ 100000) fun a => .tuple [foD a.2.fo, optD a.2.po, optD a.2.de]
theorem pm_tail_at : Pm 2 D_tail_at := pm_pure fun _ => rfl
def foR (fo : Option (Nat × Nat)) (v : List Nat) : Option (Str × Nat × List Nat) := fo.map fun p => (wordS p.1, p.2, v)
theorem noDig_po (po de : Option Nat) : NoDig (poL po ++ deL de) := by
  cases po with
  | none =>
    cases de with
    | none => intro c r e; cases e
    | some d => intro c r e; cases e; decide
  | some p => intro c r e; cases e; decide
theorem noDig_de (de : Option Nat) : NoDig (deL de) := by
  cases de with
  | none => intro c r e; cases e
  | some d => intro c r e; cases e; decide
theorem head_po (po de : Option Nat) : ∀ c r, poL po ++ deL de = c :: r → c = 46 := by
  cases po with
  | none =>
    cases de with
    | none => intro c r e; cases e
    | some d => intro c r e; cases e; rfl
  | some p => intro c r e; cases e; rfl
theorem wp_words {fo : Option (Nat × Nat)} {po de : Option Nat} (h : ∀ i n, fo = some (i, n) → i < 3 ∧ n < 10 ^ 24) : WP (foL fo ++ (poL po ++ deL de)) [Str.ofString "a", Str.ofString "b", Str.ofString "rc"] (foR fo (poL po ++ deL de)) := by
  rw [lit_a, lit_b, lit_rc]
  cases fo with
  | none =>
    have no : ∀ s S, s ≠ 46 → pre (s :: S) (poL po ++ deL de) = false := fun s S hs => by
      cases e : poL po ++ deL de with
      | nil => exact TL.pre_nil (by simp)
      | cons c r =>
        have := head_po po de c r e
        subst this
        exact TL.pre_of_head S r (Ne.symm hs)
    exact .miss (no 97 [] (by decide)) (.miss (no 98 [] (by decide)) (.miss (no 114 [99] (by decide)) .nil))
  | some t =>
    obtain ⟨i, m⟩ := t
    obtain ⟨hi, hm⟩ := h i m rfl
    have e : foR (some (i, m)) (poL po ++ deL de) = some (tx (wordL i), m, poL po ++ deL de) := by
      show some (wordS i, m, _) = _
      rw [word_tx]
    rw [e]
    have ew : foL (some (i, m)) ++ (poL po ++ deL de) = wordL i ++ (numL m ++ (poL po ++ deL de)) := by
      show (wordL i ++ numL m) ++ _ = _
      rw [List.append_assoc]
    rw [ew]
    match i, hi with
    | 0, _ => exact .hit rfl hm (noDig_po po de)
    | 1, _ => exact .miss (TL.pre_of_head _ _ (by decide)) (.hit rfl hm (noDig_po po de))
    | 2, _ => exact .miss (TL.pre_of_head _ _ (by decide)) (.miss (TL.pre_of_head _ _ (by decide)) (.hit rfl hm (noDig_po po de)))
theorem wp_post {po de : Option Nat} (h : ∀ n, po = some n → n < 10 ^ 24) : WP (poL po ++ deL de) [Str.ofString ".post"] (po.map fun n => (Str.ofString ".post", n, deL de)) := by
  rw [lit_post]
  cases po with
  | none =>
    refine .miss ?_ .nil
    cases de with
    | none => rfl
    | some d => rfl
  | some p => exact .hit (by show ([46, 112, 111, 115, 116] ++ numL p) ++ _ = _; rw [List.append_assoc]; rfl) (h p rfl) (noDig_de de)
theorem wp_dev {de : Option Nat} (h : ∀ n, de = some n → n < 10 ^ 24) : WP (deL de) [Str.ofString ".dev"] (de.map fun n => (Str.ofString ".dev", n, [])) := by
  rw [lit_dev]
  cases de with
  | none => exact .miss rfl .nil
  | some d => exact .hit (by show [46, 100, 101, 118] ++ numL d = _; rw [List.append_nil]; rfl) (h d rfl) (fun c r e => by cases e)
theorem word_ne : (∀ y ∈ ([Str.ofString "a", Str.ofString "b", Str.ofString "rc"] : List Str), tl y ≠ [] ∧ (tl y).length ≤ 10) ∧ (∀ y ∈ ([Str.ofString ".post"] : List Str), tl y ≠ [] ∧ (tl y).length ≤ 10) ∧ ∀ y ∈ ([Str.ofString ".dev"] : List Str), tl y ≠ [] ∧ (tl y).length ≤ 10 := by
  rw [lit_a, lit_b, lit_rc, lit_post, lit_dev]
  simp [tl_tx, tx]
def woD (y : Str) : Option Nat → PyData
  | none => .none
  | some n => .tuple [.str y, .int (n : Int)]
def tailB : TDS := dSeq (dAsg (dCall D_word_at (dCons (dVar 0) (dCons (dVar 3) (dCons (dVar 4) dNil)))) (gdName 5))
  (dSeq (dIfS (dTest (dOp isR (dVar 5) (dC .none))) (dRet (dC .none)) dNext)
  (dSeq (dDrop (dApp 2 (dOp ixR (dVar 5) (dC (.int 0)))))
  (dAsg (dOp ixR (dVar 5) (dC (.int 1))) (gdName 3))))
theorem tail_turn {D : DEnds} {L : List Nat} {at0 : Nat} {found : List PyData} {o : Sl} {n : Nat} (a : WdA) (x : PyData) (place' : Nat) (hL : a.L = L) (h1 : WP a.w a.ws a.r) (h2 : ∀ y ∈ a.ws, tl y ≠ [] ∧ (tl y).length ≤ 10) (h3 : Asc L) (h4 : L.length ≤ 100000) (hf : found.length ≤ 10)
    (hr : a.res = .tuple [x, .int (place' : Int)]) (hq : D.nx ⟨[.d (.str (tx L)), .d (.int (at0 : Int)), .own (found ++ [x]), .d (.int (place' : Int)), .d (.tuple (a.ws.map .str)), .d (.tuple [x, .int (place' : Int)]), .un, .un, .un], n⟩) :
    tailB D ⟨[.d (.str (tx L)), .d (.int (at0 : Int)), .own found, .d (.int (a.u.length : Int)), .d (.tuple (a.ws.map .str)), o, .un, .un, .un], n⟩ := by
  subst hL
  refine ⟨_, rfl, _, rfl, _, rfl, a, rfl, ⟨h1, h2, h3, h4⟩, ?_⟩
  rw [hr]
  refine ⟨_, rfl, rfl, _, rfl, ?_⟩
  refine ⟨⟨_, rfl⟩, _, rfl, _, rfl, _, rfl, by rw [sizeLine_eq]; omega, ?_⟩
  exact ⟨_, rfl, _, rfl, hq⟩
theorem res1 (u : List Nat) (fo : Option (Nat × Nat)) (v : List Nat) (w : List Nat) (ws : List Str) : WdA.res ⟨u, w, ws, foR fo v⟩ = .tuple [foD fo, .int ((u ++ foL fo).length : Nat)] := by
  cases fo with
  | none => show PyData.tuple [.none, .int (u.length : Int)] = PyData.tuple [.none, .int ((u ++ []).length : Nat)]; rw [List.append_nil]
  | some t =>
    obtain ⟨i, m⟩ := t
    show PyData.tuple [.tuple [.str (wordS i), .int (m : Int)], .int ((u.length + (tl (wordS i)).length + (numL m).length : Nat) : Int)] = PyData.tuple [.tuple [.str (wordS i), .int (m : Int)], .int ((u ++ (wordL i ++ numL m)).length : Nat)]
    rw [word_tx, tl_tx]
    simp only [List.length_append, Nat.add_assoc]
theorem res2 (u : List Nat) (po : Option Nat) (v : List Nat) (w : List Nat) (ws : List Str) : WdA.res ⟨u, w, ws, po.map fun n => (Str.ofString ".post", n, v)⟩ = .tuple [woD (Str.ofString ".post") po, .int ((u ++ poL po).length : Nat)] := by
  cases po with
  | none => show PyData.tuple [.none, .int (u.length : Int)] = PyData.tuple [.none, .int ((u ++ []).length : Nat)]; rw [List.append_nil]
  | some m =>
    show PyData.tuple [.tuple [.str (Str.ofString ".post"), .int (m : Int)], .int ((u.length + (tl (Str.ofString ".post")).length + (numL m).length : Nat) : Int)] = PyData.tuple [.tuple [.str (Str.ofString ".post"), .int (m : Int)], .int ((u ++ ([46, 112, 111, 115, 116] ++ numL m)).length : Nat)]
    rw [lit_post, tl_tx]
    simp only [List.length_append, Nat.add_assoc]
theorem res3 (u : List Nat) (po : Option Nat) (v : List Nat) (w : List Nat) (ws : List Str) : WdA.res ⟨u, w, ws, po.map fun n => (Str.ofString ".dev", n, v)⟩ = .tuple [woD (Str.ofString ".dev") po, .int ((u ++ deL po).length : Nat)] := by
  cases po with
  | none => show PyData.tuple [.none, .int (u.length : Int)] = PyData.tuple [.none, .int ((u ++ []).length : Nat)]; rw [List.append_nil]
  | some m =>
    show PyData.tuple [.tuple [.str (Str.ofString ".dev"), .int (m : Int)], .int ((u.length + (tl (Str.ofString ".dev")).length + (numL m).length : Nat) : Int)] = PyData.tuple [.tuple [.str (Str.ofString ".dev"), .int (m : Int)], .int ((u ++ ([46, 100, 101, 118] ++ numL m)).length : Nat)]
    rw [lit_dev, tl_tx]
    simp only [List.length_append, Nat.add_assoc]
theorem wp_tail_at (ds : List PyData) (n : Nat) (Q : QN) (h : D_tail_at ds n Q) : td_tail_at D_word_at (ends Q) (entry false N_tail_at ds n) := by
  obtain ⟨⟨u, ⟨fo, po, de⟩⟩, rfl, ⟨⟨g1, g2, g3⟩, hA, hL⟩, q⟩ := h
  have e1 : TlA u ⟨fo, po, de⟩ = (u ++ foL fo) ++ (poL po ++ deL de) := by show u ++ (foL fo ++ (poL po ++ deL de)) = _; rw [List.append_assoc]
  have e2 : TlA u ⟨fo, po, de⟩ = ((u ++ foL fo) ++ poL po) ++ deL de := by rw [e1, List.append_assoc (u ++ foL fo)]
  have hA' : Asc (TlA u ⟨fo, po, de⟩) := hA
  have hL' : (TlA u ⟨fo, po, de⟩).length ≤ 100000 := hL
  have q' : Q (.tuple [foD fo, optD po, optD de]) n := q
  generalize eL : TlA u ⟨fo, po, de⟩ = L at e1 e2 hA' hL'
  have e0 : L = u ++ (foL fo ++ (poL po ++ deL de)) := by rw [e1, List.append_assoc]
  have hz : (tx L).length ≤ sizeLine := by rw [tx_len, sizeLine_eq]; omega
  have start : (entry false N_tail_at [.str (tx (TlA u ⟨fo, po, de⟩)), .int (u.length : Int)] n) = ⟨[.d (.str (tx L)), .d (.int (u.length : Int)), .un, .un, .un, .un, .un, .un, .un], n⟩ := by rw [eL]; rfl
  show td_tail_at D_word_at (ends Q) (entry false N_tail_at [.str (tx (TlA u ⟨fo, po, de⟩)), .int (u.length : Int)] n)
  rw [start]
  refine ⟨_, rfl, fit (by rfl), fit (by rfl), fit (by rfl), _, rfl, ?_⟩
  refine tail_turn ⟨u, foL fo ++ (poL po ++ deL de), [Str.ofString "a", Str.ofString "b", Str.ofString "rc"], foR fo (poL po ++ deL de)⟩ _ _ e0.symm (wp_words g1) word_ne.1 hA' hL' (by simp) (res1 _ _ _ _ _) ?_
  refine tail_turn ⟨u ++ foL fo, poL po ++ deL de, [Str.ofString ".post"], po.map fun n => (Str.ofString ".post", n, deL de)⟩ _ _ e1.symm (wp_post g2) word_ne.2.1 hA' hL' (by simp) (res2 _ _ _ _ _) ?_
  refine tail_turn ⟨(u ++ foL fo) ++ poL po, deL de, [Str.ofString ".dev"], de.map fun n => (Str.ofString ".dev", n, [])⟩ _ _ e2.symm (wp_dev g3) word_ne.2.2 hA' hL' (by simp) (res3 _ _ _ _ _) ?_
  have el : (((u ++ foL fo) ++ poL po) ++ deL de).length = L.length := by rw [e2]
  rw [el]
  refine ⟨_, rfl, _, rfl, hz, rfl, rfl, _, rfl, ?_⟩
  refine onF ?_ ?_
  · show (!PyData.eqv (.int (L.length : Nat)) (.int ((tx L).length : Nat))) = false
    rw [tx_len]
    simp [PyData.eqv]
  refine ⟨_, rfl, _, rfl, _, _, rfl, _, _, rfl, _, _, rfl, rfl, ?_⟩
  refine ⟨_, rfl, _, rfl, rfl, _, rfl, ?_⟩
  cases po with
  | none =>
    refine onT rfl ⟨_, rfl, rfl, _, rfl, ?_⟩
    cases de with
    | none => exact onT rfl ⟨fit (by rfl), q'⟩
    | some d => exact onF rfl ⟨_, rfl, _, rfl, fit (by rfl), q'⟩
  | some p =>
    refine onF rfl ⟨_, rfl, _, rfl, _, rfl, rfl, _, rfl, ?_⟩
    cases de with
    | none => exact onT rfl ⟨fit (by rfl), q'⟩
    | some d => exact onF rfl ⟨_, rfl, _, rfl, fit (by rfl), q'⟩
end V

set_option Elab.async false
set_option linter.all false
set_option maxRecDepth 100000
set_option maxHeartbeats 4000000
namespace V
open PySem PySem.Spec PyProof.Rows L2 DL
open TL (numL joinL tl pre)
/-! ### a version's text -/
theorem asc_word (i : Nat) : Asc (wordL i) := by
  match i with
  | 0 => intro c hc; simp [wordL] at hc; omega
  | 1 => intro c hc; simp [wordL] at hc; omega
  | i + 2 => intro c hc; simp [wordL] at hc; omega
theorem asc_fo : ∀ fo, Asc (foL fo)
  | none => fun c hc => nomatch hc
  | some (i, n) => (asc_word i).app (asc_num n)
theorem asc_po : ∀ po, Asc (poL po)
  | none => fun c hc => nomatch hc
  | some n => Asc.app (by intro c hc; simp at hc; omega) (asc_num n)
theorem asc_de : ∀ de, Asc (deL de)
  | none => fun c hc => nomatch hc
  | some n => Asc.app (by intro c hc; simp at hc; omega) (asc_num n)
theorem asc_tl (t : Tl) : Asc (tlL t) := (asc_fo _).app ((asc_po _).app (asc_de _))
theorem asc_ep (e : Nat) : Asc (epL e) := by
  unfold epL
  split
  · exact fun c hc => nomatch hc
  · exact (asc_num e).app (by intro c hc; simp at hc; omega)
theorem asc_ren (p : Pt) : Asc (ren p) := (asc_ep _).app ((asc_join _).app (asc_tl _))
theorem len_join : ∀ {ns : List Nat}, (∀ n ∈ ns, n < 10 ^ 24) → (joinN ns).length ≤ 25 * ns.length
  | [], _ => Nat.zero_le _
  | [n], h => by
    rw [joinN_one]
    have := len_num (h n List.mem_cons_self)
    simp only [List.length_cons, List.length_nil]
    omega
  | n :: m :: r, h => by
    rw [joinN_cons]
    have h1 := len_num (h n List.mem_cons_self)
    have h2 := len_join (ns := m :: r) fun k hk => h k (List.mem_cons_of_mem _ hk)
    simp only [List.length_append, List.length_cons] at h2 ⊢
    omega
theorem len_tlL {t : Tl} (h : t.G) : (tlL t).length ≤ 100 := by
  obtain ⟨fo, po, de⟩ := t
  obtain ⟨g1, g2, g3⟩ := h
  have a1 : (foL fo).length ≤ 26 := by
    cases fo with
    | none => decide
    | some t =>
      obtain ⟨i, n⟩ := t
      have := len_num (g1 i n rfl).2
      show (wordL i ++ numL n).length ≤ 26
      have hw : (wordL i).length ≤ 2 := by
        match i with
        | 0 => decide
        | 1 => decide
        | i + 2 => exact Nat.le_refl 2
      rw [List.length_append]
      omega
  have a2 : (poL po).length ≤ 29 := by
    cases po with
    | none => decide
    | some n =>
      have := len_num (g2 n rfl)
      show ([46, 112, 111, 115, 116] ++ numL n).length ≤ 29
      rw [List.length_append]
      show 5 + _ ≤ 29
      omega
  have a3 : (deL de).length ≤ 28 := by
    cases de with
    | none => decide
    | some n =>
      have := len_num (g3 n rfl)
      show ([46, 100, 101, 118] ++ numL n).length ≤ 28
      rw [List.length_append]
      show 4 + _ ≤ 28
      omega
  show (foL fo ++ (poL po ++ deL de)).length ≤ 100
  simp only [List.length_append]
  omega
theorem len_ep {e : Nat} (h : e < 10 ^ 24) : (epL e).length ≤ 25 := by
  unfold epL
  split
  · exact Nat.zero_le _
  · have := len_num h
    simp only [List.length_append, List.length_cons, List.length_nil]
    omega
theorem len_ren {p : Pt} (h : p.G) : (ren p).length ≤ 2000 := by
  have h1 := len_ep h.eb
  have h2 := len_join h.nb
  have h3 := len_tlL h.t
  have h4 := h.ln
  unfold ren
  simp only [List.length_append]
  omega
theorem noDig_tl (t : Tl) : NoDig (tlL t) := by
  obtain ⟨fo, po, de⟩ := t
  cases fo with
  | none => exact noDig_po po de
  | some t =>
    obtain ⟨i, n⟩ := t
    intro c r e
    have e' : wordL i ++ numL n ++ (poL po ++ deL de) = c :: r := e
    match i with
    | 0 => cases e'; decide
    | 1 => cases e'; decide
    | i + 2 => cases e'; decide
theorem noDotDig_tl (t : Tl) : NoDotDig (tlL t) := by
  obtain ⟨fo, po, de⟩ := t
  cases fo with
  | none =>
    intro c r e
    cases po with
    | none =>
      cases de with
      | none => cases e
      | some d => cases e; decide
    | some p => cases e; decide
  | some t =>
    obtain ⟨i, n⟩ := t
    intro c r e
    have e' : wordL i ++ numL n ++ (poL po ++ deL de) = 46 :: c :: r := e
    match i with
    | 0 => exact absurd (List.cons.inj e').1 (by decide)
    | 1 => exact absurd (List.cons.inj e').1 (by decide)
    | i + 2 => exact absurd (List.cons.inj e').1 (by decide)
theorem free_word {c i : Nat} (h1 : c ≠ 97) (h2 : c ≠ 98) (h3 : c ≠ 114) (h4 : c ≠ 99) : c ∉ wordL i := by
  match i with
  | 0 => simp [wordL, h1]
  | 1 => simp [wordL, h2]
  | i + 2 => simp [wordL, h3, h4]
theorem free_num {c n : Nat} (h : ¬ isDig c) : c ∉ numL n := fun hc => h (dig_num hc)
theorem free_join {c : Nat} (h : ¬ isDig c) (h2 : c ≠ 46) : ∀ ns, c ∉ joinN ns
  | [] => fun hc => nomatch hc
  | [n] => free_num h
  | n :: m :: r => by
    rw [joinN_cons]
    intro hc
    rcases List.mem_append.mp hc with hc | hc
    · exact free_num h hc
    · rcases List.mem_cons.mp hc with hc | hc
      · exact h2 hc
      · exact free_join h h2 (m :: r) hc
theorem free33_tl (t : Tl) : 33 ∉ tlL t := by
  obtain ⟨fo, po, de⟩ := t
  intro hc
  rcases List.mem_append.mp hc with hc | hc
  · cases fo with
    | none => cases hc
    | some t =>
      obtain ⟨i, n⟩ := t
      rcases List.mem_append.mp hc with hc | hc
      · exact free_word (by decide) (by decide) (by decide) (by decide) hc
      · exact free_num (by decide) hc
  · rcases List.mem_append.mp hc with hc | hc
    · cases po with
      | none => cases hc
      | some n =>
        rcases List.mem_append.mp hc with hc | hc
        · revert hc; decide
        · exact free_num (by decide) hc
    · cases de with
      | none => cases hc
      | some n =>
        rcases List.mem_append.mp hc with hc | hc
        · revert hc; decide
        · exact free_num (by decide) hc
theorem free33 (p : Pt) : 33 ∉ joinN p.ns ++ tlL p.t := fun hc => (List.mem_append.mp hc).elim (free_join (by decide) (by decide) p.ns) (free33_tl p.t)
theorem mark_in (p : Pt) : strIn (Str.ofString "!") p.tx = decide (p.ep ≠ 0) := by
  have e : Str.ofString "!" = ⟨#[33]⟩ := by decide +kernel
  rw [e]
  show strIn ⟨#[33]⟩ (tx (ren p)) = _
  rw [in_tx]
  refine decide_eq_decide.mpr ⟨fun h h0 => ?_, fun h => ?_⟩
  · unfold ren epL at h
    rw [if_pos h0] at h
    exact free33 p h
  · unfold ren epL
    rw [if_neg h]
    simp
def D_parts_of : DX := pureD (fun p : Pt => [.str p.tx]) Pt.G Pt.d
theorem pm_parts_of : Pm 1 D_parts_of := pm_pure fun _ => rfl
theorem parts_rest {p : Pt} {n : Nat} {Q : QN} {o : Sl} (h : p.G) (q : Q p.d n) : dSeq (dAsg (dCall D_numbers_at (dCons (dVar 0) (dCons (dVar 2) dNil))) (gdName 4))
  (dSeq (dIfS (dTest (dOp isR (dVar 4) (dC .none))) (dRet (dC .none)) dNext)
  (dSeq (dAsg (dCall D_tail_at (dCons (dVar 0) (dCons (dOp ixR (dVar 4) (dC (.int 1))) dNil))) (gdName 5))
  (dRet (dIf (dTest (dOp isR (dVar 5) (dC .none))) (dC .none) (dTup (dCons (dVar 1) (dCons (dOp ixR (dVar 4) (dC (.int 0))) (dStar (dVar 5) dNil)))))))) (ends Q)
  ⟨[.d (.str p.tx), .d (.int (p.ep : Int)), .d (.int ((epL p.ep).length : Nat)), o, .un, .un], n⟩ := by
  have hA := asc_ren p
  have hL := len_ren h
  refine ⟨_, rfl, _, rfl, ⟨epL p.ep, p.ns, tlL p.t⟩, rfl, ⟨h.ne, h.ln, h.nb, noDig_tl _, noDotDig_tl _, hA, Nat.le_trans hL (by decide)⟩, ?_⟩
  refine ⟨_, rfl, rfl, _, rfl, ?_⟩
  have e1 : ren p = TlA (epL p.ep ++ joinN p.ns) p.t := by unfold ren TlA; rw [List.append_assoc]
  refine ⟨_, rfl, _, rfl, _, rfl, ⟨epL p.ep ++ joinN p.ns, p.t⟩, ?_, ⟨h.t, by show Asc (TlA (epL p.ep ++ joinN p.ns) p.t); rw [← e1]; exact hA, by show (TlA (epL p.ep ++ joinN p.ns) p.t).length ≤ _; rw [← e1]; exact Nat.le_trans hL (by decide)⟩, ?_⟩
  · show [PyData.str (tx (ren p)), PyData.int (((epL p.ep).length + (joinN p.ns).length : Nat) : Int)] = [.str (tx (TlA (epL p.ep ++ joinN p.ns) p.t)), .int ((epL p.ep ++ joinN p.ns).length : Nat)]
    rw [← e1, List.length_append]
  refine ⟨_, rfl, rfl, _, rfl, ?_⟩
  refine onF rfl ?_
  exact ⟨_, rfl, _, rfl, _, rfl, _, rfl, _, rfl, fit (by rfl), q⟩
theorem wp_parts_of (ds : List PyData) (n : Nat) (Q : QN) (h : D_parts_of ds n Q) : td_parts_of D_number_at D_numbers_at D_tail_at (ends Q) (entry false N_parts_of ds n) := by
  obtain ⟨p, rfl, h, q⟩ := h
  have hA := asc_ren p
  have hL := len_ren h
  have hz : (tx (ren p)).length ≤ sizeLine := by rw [tx_len, sizeLine_eq]; omega
  refine ⟨_, rfl, _, rfl, ?_⟩
  refine onF rfl ?_
  refine ⟨fit (by rfl), _, rfl, _, _, rfl, _, _, rfl, rfl, ?_⟩
  refine ⟨_, rfl, _, rfl, ?_⟩
  by_cases h0 : p.ep = 0
  · refine onF (by rw [mark_in, decide_eq_false (fun z => z h0)]) ?_
    have e : (0 : Int) = ((epL p.ep).length : Nat) := by unfold epL; rw [if_pos h0]; rfl
    have e0 : (0 : Int) = (p.ep : Int) := by rw [h0]; rfl
    have := parts_rest (o := .un) h q
    rw [← e, ← e0] at this
    exact this
  · refine onT (by rw [mark_in, decide_eq_true h0]) ?_
    have eL : ren p = numL p.ep ++ (33 :: (joinN p.ns ++ tlL p.t)) := by
      unfold ren epL
      rw [if_neg h0, List.append_assoc]
      rfl
    refine ⟨_, rfl, ⟨[], p.ep, 33 :: (joinN p.ns ++ tlL p.t)⟩, ?_, ⟨h.eb, fun c r e => by cases e; decide, by show Asc ([] ++ _); rw [List.nil_append, ← eL]; exact hA, by show ([] ++ _ : List Nat).length ≤ _; rw [List.nil_append, ← eL]; omega⟩, ?_⟩
    · show [PyData.str (tx (ren p)), PyData.int 0] = [.str (tx ([] ++ (numL p.ep ++ (33 :: (joinN p.ns ++ tlL p.t))))), .int 0]
      rw [List.nil_append, ← eL]
    refine ⟨_, rfl, rfl, _, rfl, ?_⟩
    refine onF rfl ?_
    have l0 : ([] : List Nat).length + (numL p.ep).length = (numL p.ep).length := Nat.zero_add _
    have hat : atI (tx (ren p)).cps.toList ((([] : List Nat).length + (numL p.ep).length : Nat) : Int) = some 33 := by
      rw [l0]
      refine at_tx? ?_
      rw [eL, List.getElem?_append_right (by omega), Nat.sub_self]
      rfl
    refine ⟨_, rfl, _, rfl, _, rfl, 33, hz, hat, by decide +kernel, sh_mark, _, rfl, ?_⟩
    refine onF (by decide +kernel) ?_
    refine ⟨_, rfl, _, rfl, _, rfl, _, rfl, ?_⟩
    have e : ((([] : List Nat).length + (numL p.ep).length : Nat) : Int) + 1 = ((epL p.ep).length : Nat) := by
      unfold epL
      rw [if_neg h0, l0, List.length_append]
      rfl
    have := parts_rest (o := .d (.tuple [.int (p.ep : Int), .int ((([] : List Nat).length + (numL p.ep).length : Nat) : Int)])) h q
    rw [← e] at this
    exact this
end V

set_option Elab.async false
set_option linter.all false
set_option maxRecDepth 100000
set_option maxHeartbeats 4000000
namespace V
open PySem PySem.Spec PyProof.Rows L2 DL
open PySem.W (alike alikeAll dataLt)
open TL (numL joinL tl)
/-! ### keys -/
theorem shaped_nats (ns : List Nat) : SeqAt.shaped (.tuple (natsD ns)) = true := by
  unfold SeqAt.shaped
  simp only [PyData.canLay0, PyData.depth, lay_nats, depth_nats]
  decide
def D_based : DX := pureD (fun ns : List Nat => [.tuple (natsD ns)]) (fun ns => ns.length ≤ 100000) fun ns => .tuple (natsD (strip ns))
theorem pm_based : Pm 1 D_based := pm_pure fun _ => rfl
theorem wp_based (ds : List PyData) (n : Nat) (Q : QN) (h : D_based ds n Q) : td_based (ends Q) (entry false N_based ds n) := by
  obtain ⟨ns, rfl, hl, q⟩ := h
  have q' : Q (.tuple (natsD (strip ns))) n := q
  refine ⟨_, rfl, ?_⟩
  refine ⟨fun k s => k ≤ ns.length ∧ strip (ns.take k) = strip ns ∧ s = ⟨[.d (.tuple (natsD ns)), .d (.int (k : Int))], n⟩, ⟨ns.length, Nat.le_refl _, by rw [List.take_length], by rw [← natsD_len]; rfl⟩, ?_⟩
  rintro k s ⟨hk, hs, rfl⟩
  have fin : strip (ns.take k) = ns.take k → dRet (dSl (dVar 0) dNoPart (dPart (dVar 1))) (ends Q) ⟨[.d (.tuple (natsD ns)), .d (.int (k : Int))], n⟩ := fun e => by
    refine ⟨_, rfl, _, rfl, _, rfl, ?_⟩
    show Q (.tuple (DL.cutD (natsD ns) none (some (k : Int)))) n
    rw [cut_to]
    have e2 : (natsD ns).take k = natsD (strip ns) := by
      rw [← hs, e]
      unfold natsD
      rw [List.map_take]
    rw [e2]
    exact q'
  refine ⟨_, rfl, by simp only [alike], by simp, by simp only [PyData.depth]; omega, _, rfl, ?_⟩
  cases k with
  | zero =>
    refine onF (by show dataLt (.int 0) (.int ((0 : Nat) : Int)) = false; rw [PySem.W.dataLt_int]; decide) ?_
    exact fin rfl
  | succ k =>
    refine onT (by show dataLt (.int 0) (.int ((k + 1 : Nat) : Int)) = true; rw [PySem.W.dataLt_int]; exact decide_eq_true (by omega)) ?_
    have hk' : k < ns.length := hk
    have et : ns.take (k + 1) = ns.take k ++ [ns[k]'hk'] := by rw [List.take_add_one, List.getElem?_eq_getElem hk']; rfl
    have hat : atI (natsD ns) (((k + 1 : Nat) : Int) - 1) = some (.int ((ns[k]'hk' : Nat) : Int)) := by
      rw [show ((k + 1 : Nat) : Int) - 1 = ((k : Nat) : Int) by omega, atI_nat (by rw [natsD_len]; exact hk')]
      unfold natsD
      rw [List.getElem_map]
    refine ⟨_, rfl, _, rfl, _, hat, rfl, rfl, _, rfl, ?_⟩
    by_cases h0 : ns[k]'hk' = 0
    · refine onT (by show PyData.eqv (.int ((ns[k]'hk' : Nat) : Int)) (.int 0) = true; rw [h0]; rfl) ?_
      refine ⟨_, rfl, k, Nat.lt_succ_self k, by omega, ?_, ?_⟩
      · rw [← hs, et, h0, strip_snoc0]
      · show DS.mk [.d (.tuple (natsD ns)), .d (.int (((k + 1 : Nat) : Int) - 1))] n = _
        rw [show ((k + 1 : Nat) : Int) - 1 = ((k : Nat) : Int) by omega]
    · refine onF (by show PyData.eqv (.int ((ns[k]'hk' : Nat) : Int)) (.int 0) = false; simp only [PyData.eqv]; rw [beq_eq_false_iff_ne]; omega) ?_
      exact fin (by rw [et, strip_snoc h0])
def D_tail_of : DX := pureD (fun t : Tl => [foD t.fo, optD t.po, optD t.de]) Tl.ok fun t => .tuple (natsD t.l)
theorem pm_tail_of : Pm 3 D_tail_of := pm_pure fun _ => rfl
def D_split_tail : DX := pureD (fun t : Tl => [.tuple (natsD t.l)]) Tl.ok fun t => .tuple [foD t.fo, optD t.po, optD t.de]
theorem pm_split_tail : Pm 1 D_split_tail := pm_pure fun _ => rfl
theorem word_ix {i : Nat} (h : i < 3) : ([Str.ofString "a", Str.ofString "b", Str.ofString "rc"] : List Str)[i]? = some (wordS i) ∧ ∀ m, m < i → ([Str.ofString "a", Str.ofString "b", Str.ofString "rc"] : List Str)[m]? ≠ some (wordS i) := by
  have n1 : Str.ofString "a" ≠ Str.ofString "b" := by decide +kernel
  have n2 : Str.ofString "a" ≠ Str.ofString "rc" := by decide +kernel
  have n3 : Str.ofString "b" ≠ Str.ofString "rc" := by decide +kernel
  match i, h with
  | 0, _ => exact ⟨rfl, fun m hm => absurd hm (Nat.not_lt_zero m)⟩
  | 1, _ => exact ⟨rfl, fun m hm => by
      have : m = 0 := by omega
      subst this
      exact fun e => n1 (Option.some.inj e)⟩
  | 2, _ => exact ⟨rfl, fun m hm => by
      have : m = 0 ∨ m = 1 := by omega
      rcases this with rfl | rfl
      · exact fun e => n2 (Option.some.inj e)
      · exact fun e => n3 (Option.some.inj e)⟩
theorem wp_tail_of (ds : List PyData) (n : Nat) (Q : QN) (h : D_tail_of ds n Q) : td_tail_of (ends Q) (entry false N_tail_of ds n) := by
  obtain ⟨⟨fo, po, de⟩, rfl, hp, q⟩ := h
  rcases fo with _ | ⟨i, m⟩ <;> rcases po with _ | p <;> rcases de with _ | d
  all_goals (repeat (first | exact q | refine ⟨_, rfl, ?_⟩ | refine ⟨rfl, ?_⟩ | refine ⟨fit (by rfl), ?_⟩ | refine ⟨fit2 (by rfl), ?_⟩))
  all_goals (refine ⟨_, i, rfl, (word_ix (hp i m rfl)).1, (word_ix (hp i m rfl)).2, ?_⟩)
  all_goals (repeat (first | exact q | refine ⟨_, rfl, ?_⟩ | refine ⟨rfl, ?_⟩ | refine ⟨fit (by rfl), ?_⟩ | refine ⟨fit2 (by rfl), ?_⟩))
theorem wp_split_tail (ds : List PyData) (n : Nat) (Q : QN) (h : D_split_tail ds n Q) : td_split_tail (ends Q) (entry false N_split_tail ds n) := by
  obtain ⟨⟨fo, po, de⟩, rfl, hp, q⟩ := h
  rcases fo with _ | ⟨i, m⟩
  · rcases po with _ | p <;> rcases de with _ | d <;> (repeat (first | exact q | refine ⟨_, rfl, ?_⟩ | refine ⟨rfl, ?_⟩ | refine ⟨fit (by rfl), ?_⟩ | refine ⟨fit2 (by rfl), ?_⟩))
  · have hi := hp i m rfl
    match i, hi with
    | 0, _ => rcases po with _ | p <;> rcases de with _ | d <;> (repeat (first | exact q | refine ⟨_, rfl, ?_⟩ | refine ⟨rfl, ?_⟩ | refine ⟨fit (by rfl), ?_⟩ | refine ⟨fit2 (by rfl), ?_⟩))
    | 1, _ => rcases po with _ | p <;> rcases de with _ | d <;> (repeat (first | exact q | refine ⟨_, rfl, ?_⟩ | refine ⟨rfl, ?_⟩ | refine ⟨fit (by rfl), ?_⟩ | refine ⟨fit2 (by rfl), ?_⟩))
    | 2, _ => rcases po with _ | p <;> rcases de with _ | d <;> (repeat (first | exact q | refine ⟨_, rfl, ?_⟩ | refine ⟨rfl, ?_⟩ | refine ⟨fit (by rfl), ?_⟩ | refine ⟨fit2 (by rfl), ?_⟩))
end V

set_option Elab.async false
set_option linter.all false
set_option maxRecDepth 100000
set_option maxHeartbeats 4000000
namespace V
open PySem PySem.Spec PyProof.Rows L2 DL
open PySem.W (alike alikeAll dataLt)
open TL (numL joinL tl)
def D_key_from : DX := pureD (fun p : Pt => [p.d]) (fun p => p.t.ok ∧ p.ns.length ≤ 100000) fun p => p.key.d
theorem pm_key_from : Pm 1 D_key_from := pm_pure fun _ => rfl
theorem wp_key_from (ds : List PyData) (n : Nat) (Q : QN) (h : D_key_from ds n Q) : td_key_from D_tail_of D_based (ends Q) (entry false N_key_from ds n) := by
  obtain ⟨p, rfl, ⟨h1, h2⟩, q⟩ := h
  refine ⟨_, rfl, _, rfl, _, _, rfl, _, _, rfl, _, _, rfl, _, _, rfl, _, _, rfl, rfl, ?_⟩
  refine ⟨_, rfl, _, rfl, p.ns, rfl, h2, ?_⟩
  refine ⟨_, rfl, _, rfl, _, rfl, p.t, rfl, h1, ?_⟩
  exact ⟨fit (by rfl), q⟩
def D_key_of : DX := pureD (fun p : Pt => [.str p.tx]) Pt.G fun p => p.key.d
theorem pm_key_of : Pm 1 D_key_of := pm_pure fun _ => rfl
theorem wp_key_of (ds : List PyData) (n : Nat) (Q : QN) (h : D_key_of ds n Q) : td_key_of D_key_from D_parts_of (ends Q) (entry false N_key_of ds n) := by
  obtain ⟨p, rfl, h, q⟩ := h
  exact ⟨_, rfl, p, rfl, h, p, rfl, ⟨h.t.ok, Nat.le_trans h.ln (by decide)⟩, q⟩
def D_numbers_of : DX := pureD (fun p : Pt => [.str p.tx]) Pt.G fun p => .tuple [.int (p.ep : Int), .tuple (natsD p.ns)]
theorem pm_numbers_of : Pm 1 D_numbers_of := pm_pure fun _ => rfl
theorem wp_numbers_of (ds : List PyData) (n : Nat) (Q : QN) (h : D_numbers_of ds n Q) : td_numbers_of D_parts_of (ends Q) (entry false N_numbers_of ds n) := by
  obtain ⟨p, rfl, h, q⟩ := h
  exact ⟨_, rfl, p, rfl, h, _, rfl, _, rfl, _, rfl, _, rfl, fit (by rfl), q⟩
def D_following_key : DX := pureD (fun k : Ky => [k.d]) (fun k => k.t.ok) fun k => k.fol.d
theorem pm_following_key : Pm 1 D_following_key := pm_pure fun _ => rfl
theorem fol_ok {t : Tl} (h : t.ok) : t.fol.ok := by
  obtain ⟨fo, po, de⟩ := t
  cases de <;> exact h
theorem wp_following_key (ds : List PyData) (n : Nat) (Q : QN) (h : D_following_key ds n Q) : td_following_key D_split_tail D_tail_of (ends Q) (entry false N_following_key ds n) := by
  obtain ⟨⟨e, b, ⟨fo, po, de⟩⟩, rfl, h, q⟩ := h
  refine ⟨_, rfl, _, rfl, _, _, rfl, _, _, rfl, _, _, rfl, rfl, ?_⟩
  refine ⟨_, rfl, ⟨fo, po, de⟩, rfl, h, _, rfl, _, _, rfl, _, _, rfl, _, _, rfl, rfl, ?_⟩
  refine ⟨_, rfl, rfl, _, rfl, ?_⟩
  cases de with
  | some d => exact onT rfl ⟨_, rfl, _, rfl, _, rfl, _, rfl, _, rfl, ⟨fo, po, some (d + 1)⟩, rfl, h, fit (by rfl), q⟩
  | none =>
    refine onF rfl ⟨_, rfl, _, rfl, _, rfl, _, rfl, rfl, _, rfl, ?_⟩
    cases po with
    | none => exact onT rfl ⟨⟨fo, some 0, some 0⟩, rfl, h, fit (by rfl), q⟩
    | some p => exact onF rfl ⟨_, rfl, ⟨fo, some (p + 1), some 0⟩, rfl, h, fit (by rfl), q⟩
def D_is_final_key : DX := pureD (fun k : Ky => [k.d]) (fun k => k.t.ok) fun k => .bool k.fin
theorem pm_is_final_key : Pm 1 D_is_final_key := pm_pure fun _ => rfl
theorem wp_is_final_key (ds : List PyData) (n : Nat) (Q : QN) (h : D_is_final_key ds n Q) : td_is_final_key D_split_tail (ends Q) (entry false N_is_final_key ds n) := by
  obtain ⟨⟨e, b, ⟨fo, po, de⟩⟩, rfl, h, q⟩ := h
  refine ⟨_, rfl, _, rfl, ⟨fo, po, de⟩, rfl, h, _, rfl, _, _, rfl, _, _, rfl, _, _, rfl, rfl, ?_⟩
  refine ⟨_, rfl, rfl, _, rfl, ?_⟩
  cases fo with
  | none =>
    refine onT rfl ⟨_, rfl, rfl, ?_⟩
    cases de <;> exact q
  | some t => exact onF rfl q
def D_is_plain : DX := pureD (fun p : Pt => [p.d]) (fun p => p.t = plain) fun p => .bool true
theorem pm_is_plain : Pm 1 D_is_plain := pm_pure fun _ => rfl
theorem wp_is_plain (ds : List PyData) (n : Nat) (Q : QN) (h : D_is_plain ds n Q) : td_is_plain (ends Q) (entry false N_is_plain ds n) := by
  obtain ⟨⟨e, ns, t⟩, rfl, h, q⟩ := h
  have h' : t = plain := h
  subst h'
  exact ⟨_, rfl, _, rfl, fit (by rfl), rfl, rfl, q⟩
def D_is_version : DX := pureD (fun p : Pt => [.str p.tx]) Pt.G fun p => .bool true
theorem pm_is_version : Pm 1 D_is_version := pm_pure fun _ => rfl
theorem wp_is_version (ds : List PyData) (n : Nat) (Q : QN) (h : D_is_version ds n Q) : td_is_version D_parts_of (ends Q) (entry false N_is_version ds n) := by
  obtain ⟨p, rfl, h, q⟩ := h
  exact ⟨_, rfl, p, rfl, h, rfl, q⟩
/-! ### a key's text -/
theorem lit_emp : (Str.empty : Str) = tx [] := by decide +kernel
theorem txl {l : List Nat} (h : l.length ≤ 100000) : (tx l).length ≤ sizeLine := by rw [tx_len, sizeLine_eq]; omega
theorem join_tx (b : List Nat) : Txt.join (Str.ofString ".") (b.map fun n => tx (numL n)) = tx (joinN b) := by
  refine TL.ext_tl ?_
  rw [TL.join_eq, TL.tl_join, lit_dot, List.map_map]
  rfl
theorem join_len {b : List Nat} (hb : ∀ n ∈ b, n < 10 ^ 24) : ((b.map fun n => tx (numL n)).map (·.length)).sum ≤ 24 * b.length := by
  induction b with
  | nil => decide
  | cons n b ih =>
    have h1 := len_num (hb n List.mem_cons_self)
    have h2 := ih fun m hm => hb m (List.mem_cons_of_mem _ hm)
    rw [List.map_cons, List.map_cons, List.sum_cons, List.length_cons, tx_len]
    omega
def D_text_of : DX := pureD (fun k : Ky => [k.d]) (fun k => k.pt.G) fun k => .str k.pt.tx
theorem pm_text_of : Pm 1 D_text_of := pm_pure fun _ => rfl
theorem text_rest {k : Ky} {n : Nat} {Q : QN} {o1 o2 o3 o4 o5 : Sl} (h : k.pt.G) (q : Q (.str k.pt.tx) n) :
    (dSeq (dIfS (dTest (dOp isntR (dVar 4) (dC .none))) (dAug 7 (dJs [(dFmt (dOp ixR (dVar 4) (dC (.int 0)))), (dFmt (dOp ixR (dVar 4) (dC (.int 1))))] Str.empty) addR2) dNext)
  (dSeq (dIfS (dTest (dOp isntR (dVar 5) (dC .none))) (dAug 7 (dJs [(dFmt (dC (.str ".post"))), (dFmt (dVar 5))] Str.empty) addR2) dNext)
  (dRet (dIf (dTest (dOp isR (dVar 6) (dC .none))) (dVar 7) (dJs [(dFmt (dVar 7)), (dFmt (dC (.str ".dev"))), (dFmt (dVar 6))] Str.empty))))) (ends Q)
    ⟨[o1, o2, o3, o4, .d (foD k.t.fo), .d (optD k.t.po), .d (optD k.t.de), .d (.str (tx (epL k.ep ++ joinN k.pt.ns))), o5], n⟩ := by
  obtain ⟨e, b, ⟨fo, po, de⟩⟩ := k
  have hL := len_ren h
  obtain ⟨g1, g2, g3⟩ := h.t
  have g1 : ∀ i n, fo = some (i, n) → i < 3 ∧ n < 10 ^ 24 := g1
  have g2 : ∀ n, po = some n → n < 10 ^ 24 := g2
  have g3 : ∀ n, de = some n → n < 10 ^ 24 := g3
  generalize eJ : epL e ++ joinN (Ky.pt ⟨e, b, ⟨fo, po, de⟩⟩).ns = J
  have eR : ren (Ky.pt ⟨e, b, ⟨fo, po, de⟩⟩) = J ++ (foL fo ++ (poL po ++ deL de)) := by rw [← eJ, List.append_assoc]; rfl
  rw [eR] at hL
  simp only [List.length_append] at hL
  have q' : Q (.str (tx (J ++ (foL fo ++ (poL po ++ deL de))))) n := by rw [← eR]; exact q
  show dSeq _ _ _ ⟨[o1, o2, o3, o4, .d (foD fo), .d (optD po), .d (optD de), .d (.str (tx J)), o5], n⟩
  have st3 : ∀ L : List Nat, L = J ++ (foL fo ++ poL po) → (dRet (dIf (dTest (dOp isR (dVar 6) (dC .none))) (dVar 7) (dJs [(dFmt (dVar 7)), (dFmt (dC (.str ".dev"))), (dFmt (dVar 6))] Str.empty))) (ends Q) ⟨[o1, o2, o3, o4, .d (foD fo), .d (optD po), .d (optD de), .d (.str (tx L)), o5], n⟩ := by
    rintro L rfl
    refine ⟨_, rfl, rfl, _, rfl, ?_⟩
    cases de with
    | none =>
      refine onT rfl ⟨_, rfl, ?_⟩
      rw [show deL none = [] from rfl, List.append_nil] at q'
      exact q'
    | some d =>
      have hd := len_num (g3 d rfl)
      have hdl : (deL (some d)).length = 4 + (numL d).length := by show ([46, 100, 101, 118] ++ numL d).length = _; rw [List.length_append]; rfl
      refine onF rfl ⟨_, rfl, txl (by simp only [List.length_append]; omega), _, rfl, ?_⟩
      rw [lit_emp, tx_app, List.nil_append]
      refine ⟨txl (by simp only [List.length_append]; omega), ?_⟩
      rw [lit_dev]
      refine ⟨txl (by decide), _, rfl, ?_⟩
      rw [tx_app]
      refine ⟨txl (by simp only [List.length_append, List.length_cons, List.length_nil]; omega), _, rfl, log_lt (g3 d rfl), _, rfl, ?_⟩
      rw [lit_num, tx_app]
      refine ⟨txl (by simp only [List.length_append, List.length_cons, List.length_nil]; omega), ?_⟩
      have e9 : J ++ (foL fo ++ poL po) ++ [46, 100, 101, 118] ++ numL d = J ++ (foL fo ++ (poL po ++ deL (some d))) := by
        show _ = J ++ (foL fo ++ (poL po ++ ([46, 100, 101, 118] ++ numL d)))
        simp only [List.append_assoc]
      rw [e9]
      exact q'
  have st2 : ∀ L : List Nat, L = J ++ foL fo → (dSeq (dIfS (dTest (dOp isntR (dVar 5) (dC .none))) (dAug 7 (dJs [(dFmt (dC (.str ".post"))), (dFmt (dVar 5))] Str.empty) addR2) dNext)
  (dRet (dIf (dTest (dOp isR (dVar 6) (dC .none))) (dVar 7) (dJs [(dFmt (dVar 7)), (dFmt (dC (.str ".dev"))), (dFmt (dVar 6))] Str.empty)))) (ends Q) ⟨[o1, o2, o3, o4, .d (foD fo), .d (optD po), .d (optD de), .d (.str (tx L)), o5], n⟩ := by
    rintro L rfl
    refine ⟨_, rfl, rfl, _, rfl, ?_⟩
    cases po with
    | none => exact onF rfl (st3 _ (by rw [show poL none = [] from rfl, List.append_nil]))
    | some d =>
      have hd := len_num (g2 d rfl)
      have hdl : (poL (some d)).length = 5 + (numL d).length := by show ([46, 112, 111, 115, 116] ++ numL d).length = _; rw [List.length_append]; rfl
      refine onT rfl ⟨_, rfl, ?_⟩
      rw [lit_post]
      refine ⟨txl (by decide), _, rfl, ?_⟩
      rw [lit_emp, tx_app, List.nil_append]
      refine ⟨txl (by decide), _, rfl, log_lt (g2 d rfl), _, rfl, ?_⟩
      rw [lit_num, tx_app]
      refine ⟨txl (by simp only [List.length_append, List.length_cons, List.length_nil]; omega), by rw [tx_len, tx_len, sizeLine_eq]; simp only [List.length_append, List.length_cons, List.length_nil]; omega, ?_⟩
      rw [tx_app]
      exact st3 _ (by rw [List.append_assoc]; rfl)
  refine ⟨_, rfl, rfl, _, rfl, ?_⟩
  cases fo with
  | none => exact onF rfl (st2 _ (by rw [show foL none = [] from rfl, List.append_nil]))
  | some t =>
    obtain ⟨i, d⟩ := t
    obtain ⟨hi, hd0⟩ := g1 i d rfl
    have hd := len_num hd0
    have hw : (wordL i).length ≤ 2 := by
      match i with
      | 0 => decide
      | 1 => decide
      | i + 2 => exact Nat.le_refl 2
    have hdl : (foL (some (i, d))).length = (wordL i).length + (numL d).length := by show (wordL i ++ numL d).length = _; rw [List.length_append]
    refine onT rfl ⟨_, rfl, _, rfl, _, rfl, ?_⟩
    rw [word_tx]
    refine ⟨txl (by omega), _, rfl, ?_⟩
    rw [lit_emp, tx_app, List.nil_append]
    refine ⟨txl (by omega), _, rfl, _, rfl, log_lt hd0, _, rfl, ?_⟩
    rw [lit_num, tx_app]
    refine ⟨txl (by simp only [List.length_append]; omega), by rw [tx_len, tx_len, sizeLine_eq]; simp only [List.length_append]; omega, ?_⟩
    rw [tx_app]
    exact st2 _ rfl
theorem wp_text_of (ds : List PyData) (n : Nat) (Q : QN) (h : D_text_of ds n Q) : td_text_of D_split_tail (ends Q) (entry false N_text_of ds n) := by
  obtain ⟨k, rfl, h, q⟩ := h
  have hL := len_ren h
  have hJ : (epL k.ep ++ joinN k.pt.ns).length ≤ 2000 := by
    have : (ren k.pt).length = (epL k.ep ++ joinN k.pt.ns).length + (tlL k.t).length := by unfold ren; rw [← List.append_assoc, List.length_append]; rfl
    omega
  have hb : ∀ m ∈ k.b, m < 10 ^ 24 := fun m hm => h.nb m (by
    show m ∈ (if k.b = [] then [0] else k.b)
    rw [if_neg (fun z => by rw [z] at hm; cases hm)]
    exact hm)
  have hbl : k.b.length ≤ 60 := by
    have := h.ln
    by_cases h0 : k.b = []
    · rw [h0]; decide
    · have e : k.pt.ns = k.b := if_neg h0
      rw [e] at this
      exact this
  refine ⟨_, rfl, _, rfl, _, _, rfl, _, _, rfl, _, _, rfl, rfl, ?_⟩
  refine ⟨_, rfl, k.t, rfl, h.t.ok, _, rfl, _, _, rfl, _, _, rfl, _, _, rfl, rfl, ?_⟩
  -- the epoch
  have base : (dSeq (dAug 7 (dIf (dTest (dOp neR (dVar 2) (dTup dNil))) (dBM joinR (dC (.str ".")) (dCons (dFrz (dLc (diT (dVar 2)) (gdName 8) dYes (dCB strR1 (dCons (dVar 8) dNil)) [8])) dNil)) (dC (.str "0"))) addR2)
  (dSeq (dIfS (dTest (dOp isntR (dVar 4) (dC .none))) (dAug 7 (dJs [(dFmt (dOp ixR (dVar 4) (dC (.int 0)))), (dFmt (dOp ixR (dVar 4) (dC (.int 1))))] Str.empty) addR2) dNext)
  (dSeq (dIfS (dTest (dOp isntR (dVar 5) (dC .none))) (dAug 7 (dJs [(dFmt (dC (.str ".post"))), (dFmt (dVar 5))] Str.empty) addR2) dNext)
  (dRet (dIf (dTest (dOp isR (dVar 6) (dC .none))) (dVar 7) (dJs [(dFmt (dVar 7)), (dFmt (dC (.str ".dev"))), (dFmt (dVar 6))] Str.empty)))))) (ends Q)
    ⟨[.d k.d, .d (.int (k.ep : Int)), .d (.tuple (natsD k.b)), .d (.tuple (natsD k.t.l)), .d (foD k.t.fo), .d (optD k.t.po), .d (optD k.t.de), .d (.str (tx (epL k.ep))), .un], n⟩ := by
    have he := len_ep h.eb
    refine ⟨_, rfl, _, rfl, fit (by rfl), shaped_nats _, rfl, _, rfl, ?_⟩
    have ec : (!PyData.eqv (.tuple (natsD k.b)) (.tuple [])) = !decide (k.b = []) := by
      simp only [PyData.eqv]
      rw [show ([] : List PyData) = natsD [] from rfl, eqv_nats]
    have done : ∀ L : List Nat, epL k.ep ++ L = epL k.ep ++ joinN k.pt.ns → addR2 (.str (tx (epL k.ep))) (.str (tx L)) (fun z => ((dSeq (dIfS (dTest (dOp isntR (dVar 4) (dC .none))) (dAug 7 (dJs [(dFmt (dOp ixR (dVar 4) (dC (.int 0)))), (dFmt (dOp ixR (dVar 4) (dC (.int 1))))] Str.empty) addR2) dNext)
  (dSeq (dIfS (dTest (dOp isntR (dVar 5) (dC .none))) (dAug 7 (dJs [(dFmt (dC (.str ".post"))), (dFmt (dVar 5))] Str.empty) addR2) dNext)
  (dRet (dIf (dTest (dOp isR (dVar 6) (dC .none))) (dVar 7) (dJs [(dFmt (dVar 7)), (dFmt (dC (.str ".dev"))), (dFmt (dVar 6))] Str.empty))))) (ends Q)
    ⟨[.d k.d, .d (.int (k.ep : Int)), .d (.tuple (natsD k.b)), .d (.tuple (natsD k.t.l)), .d (foD k.t.fo), .d (optD k.t.po), .d (optD k.t.de), .d z, .un], n⟩)) := fun L eL => by
      have hl := congrArg List.length eL
      rw [List.length_append] at hl
      refine ⟨by rw [tx_len, tx_len, sizeLine_eq]; omega, ?_⟩
      rw [tx_app, eL]
      exact text_rest h q
    by_cases h0 : k.b = []
    · refine onF (by rw [ec, decide_eq_true h0]; rfl) ?_
      have ep : k.pt.ns = [0] := if_pos h0
      have := done [48] (by rw [ep]; rfl)
      rw [← lit_0] at this
      exact this
    · refine onT (by rw [ec, decide_eq_false h0]; rfl) ?_
      have ep : k.pt.ns = k.b := if_neg h0
      refine ⟨_, rfl, _, rfl, _, rfl, by rw [natsD_len, sizeLine_eq]; omega, ?_⟩
      refine lc_pure (fun m : Nat => .int (m : Int)) (fun _ => true) (fun m : Nat => .str (tx (numL m))) k.b [] (fun m hm K K0 h1 _ => ?_) ?_
      · refine ⟨_, rfl, log_lt (hb m hm), ?_⟩
        rw [lit_num]
        exact h1 rfl
      · rw [List.nil_append, List.filter_eq_self.mpr (fun _ _ => rfl)]
        refine ⟨k.b.map fun m => tx (numL m), by rw [List.map_map]; rfl, ?_, ?_⟩
        · have := join_len hb
          rw [List.length_map, lit_dot, tx_len]
          simp only [List.length_cons, List.length_nil]
          omega
        · rw [join_tx]
          exact done (joinN k.b) (by rw [ep])
  refine ⟨_, rfl, rfl, rfl, _, rfl, ?_⟩
  by_cases h0 : k.ep = 0
  · refine onT (by show PyData.eqv (.int (k.ep : Int)) (.int 0) = true; rw [h0]; rfl) ?_
    have ee : epL k.ep = [] := if_pos h0
    rw [ee, ← lit_empty] at base
    exact base
  · refine onF (by show PyData.eqv (.int (k.ep : Int)) (.int 0) = false; simp only [PyData.eqv]; rw [beq_eq_false_iff_ne]; omega) ?_
    have ee : epL k.ep = numL k.ep ++ [33] := if_neg h0
    have hn : (numL k.ep).length ≤ 24 := len_num h.eb
    refine ⟨_, rfl, log_lt h.eb, _, rfl, ?_⟩
    rw [lit_num, lit_emp, tx_app, List.nil_append]
    refine ⟨txl (by omega), _, rfl, ?_⟩
    rw [lit_mark, tx_app, ← ee]
    exact ⟨txl (by rw [List.length_append] at hJ; omega), base⟩
end V

set_option Elab.async false
set_option linter.all false
set_option maxRecDepth 100000
set_option maxHeartbeats 4000000
namespace V
open PySem PySem.Spec PyProof.Rows L2 DL
open PySem.W (alike alikeAll dataLt)
open TL (numL joinL tl)
/-! ### signs -/
theorem eqS : ∀ i j, i < 7 → j < 7 → PyData.eqv (.str (signS i)) (.str (signS j)) = decide (i = j) := by
  have h : ∀ i j : Fin 7, PyData.eqv (.str (signS i.1)) (.str (signS j.1)) = decide (i.1 = j.1) := by decide +kernel
  exact fun i j hi hj => h ⟨i, hi⟩ ⟨j, hj⟩
theorem shS : ∀ i, i < 7 → SeqAt.shaped (.str (signS i)) = true := by
  have h : ∀ i : Fin 7, SeqAt.shaped (.str (signS i.1)) = true := by decide +kernel
  exact fun i hi => h ⟨i, hi⟩
def sgsL : List PyData := [.str "==", .str "!=", .str "<=", .str ">=", .str "<", .str ">", .str "~="]
theorem sgs_any : ∀ i, i < 7 → (sgsL.any fun z => PyData.eqv z (.str (signS i))) = true := by
  have h : ∀ i : Fin 7, (sgsL.any fun z => PyData.eqv z (.str (signS i.1))) = true := by decide +kernel
  exact fun i hi => h ⟨i, hi⟩
theorem two_any : ∀ i, i < 7 → (([.str "==", .str "!="] : List PyData).any fun z => PyData.eqv z (.str (signS i))) = decide (i < 2) := by
  have h : ∀ i : Fin 7, (([.str "==", .str "!="] : List PyData).any fun z => PyData.eqv z (.str (signS i.1))) = decide (i.1 < 2) := by decide +kernel
  exact fun i hi => h ⟨i, hi⟩
theorem lg_any : ∀ i, i < 7 → (([.str "<", .str ">"] : List PyData).any fun z => PyData.eqv z (.str (signS i))) = decide (i = 4 ∨ i = 5) := by
  have h : ∀ i : Fin 7, (([.str "<", .str ">"] : List PyData).any fun z => PyData.eqv z (.str (signS i.1))) = decide (i.1 = 4 ∨ i.1 = 5) := by decide +kernel
  exact fun i hi => h ⟨i, hi⟩
/-! ### clauses' texts -/
theorem free42_tl (t : Tl) : 42 ∉ tlL t := by
  obtain ⟨fo, po, de⟩ := t
  intro hc
  rcases List.mem_append.mp hc with hc | hc
  · cases fo with
    | none => cases hc
    | some t =>
      obtain ⟨i, n⟩ := t
      rcases List.mem_append.mp hc with hc | hc
      · exact free_word (by decide) (by decide) (by decide) (by decide) hc
      · exact free_num (by decide) hc
  · rcases List.mem_append.mp hc with hc | hc
    · cases po with
      | none => cases hc
      | some n =>
        rcases List.mem_append.mp hc with hc | hc
        · revert hc; decide
        · exact free_num (by decide) hc
    · cases de with
      | none => cases hc
      | some n =>
        rcases List.mem_append.mp hc with hc | hc
        · revert hc; decide
        · exact free_num (by decide) hc
theorem free42 (p : Pt) : 42 ∉ ren p := by
  intro hc
  rcases List.mem_append.mp hc with hc | hc
  · unfold epL at hc
    split at hc
    · cases hc
    · rcases List.mem_append.mp hc with hc | hc
      · exact free_num (by decide) hc
      · revert hc; decide
  · rcases List.mem_append.mp hc with hc | hc
    · exact free_join (by decide) (by decide) _ hc
    · exact free42_tl _ hc
theorem Cl.tx_f {c : Cl} (h : c.st = false) : c.tx = c.p.tx := by
  unfold Cl.tx Pt.tx starL
  rw [h, if_neg Bool.false_ne_true, List.append_nil]
theorem Cl.tx_t {c : Cl} (h : c.st = true) : c.tx = V.tx (ren c.p ++ [46, 42]) := by
  unfold Cl.tx starL
  rw [h, if_pos rfl]
theorem Cl.star_in (c : Cl) : Txt.endswith c.tx (Str.ofString ".*") = c.st := by
  rw [lit_star, Bool.eq_iff_iff]
  cases h : c.st with
  | true =>
    rw [Cl.tx_t h, ew_tx]
    refine ⟨fun _ => rfl, fun _ => ⟨by rw [List.length_append]; exact Nat.le_add_left _ _, ?_⟩⟩
    rw [List.length_append, Nat.add_sub_cancel, List.drop_left]
  | false =>
    rw [Cl.tx_f h]
    unfold Pt.tx
    rw [ew_tx]
    refine ⟨fun ⟨_, e⟩ => ?_, fun z => absurd z Bool.false_ne_true⟩
    refine absurd (List.mem_of_mem_drop (i := (ren c.p).length - 2) (a := 42) ?_) (free42 c.p)
    have e' : (ren c.p).drop ((ren c.p).length - 2) = [46, 42] := e
    rw [e']
    simp
theorem Cl.asc (c : Cl) : Asc (ren c.p ++ starL c.st) := (asc_ren _).app (by
  unfold starL
  split
  · intro x hx; simp at hx; omega
  · exact fun x hx => nomatch hx)
theorem Cl.shaped (c : Cl) : SeqAt.shaped (.str c.tx) = true := shaped_tx c.asc
theorem Cl.len {c : Cl} (h : c.p.G) : c.tx.length ≤ sizeLine := by
  have := len_ren h
  unfold Cl.tx
  refine txl ?_
  rw [List.length_append]
  unfold starL
  split
  · show _ + 2 ≤ _; omega
  · show _ + 0 ≤ _; omega
theorem Cl.cut {c : Cl} (h : c.st = true) : cutS c.tx none (some (-2)) = c.p.tx := by
  rw [Cl.tx_t h]
  refine (cutS_toneg (ren c.p ++ [46, 42]) 2 (by decide)).trans ?_
  rw [List.length_append, show ([46, 42] : List Nat).length = 2 from rfl, Nat.add_sub_cancel, List.take_left]
  rfl
/-! ### is_small .. names_of -/
def D_is_small : DX := pureD (fun p : Pt => [p.d]) Pt.Sm fun p => .bool true
theorem pm_is_small : Pm 1 D_is_small := pm_pure fun _ => rfl
theorem wp_is_small (ds : List PyData) (n : Nat) (Q : QN) (h : D_is_small ds n Q) : td_is_small (ends Q) (entry false N_is_small ds n) := by
  obtain ⟨⟨e, ns, ⟨fo, po, de⟩⟩, rfl, h, q⟩ := h
  have q' : Q (.bool true) n := q
  have hln : ns.length ≤ 8 := h.ln
  have fin : ∀ f p d : Nat, f ≤ 10 ^ 9 → p ≤ 10 ^ 9 → d ≤ 10 ^ 9 → ∀ (r : List Sl), r = [.d (Pt.d ⟨e, ns, ⟨fo, po, de⟩⟩), .d (.int (e : Int)), .d (.tuple (natsD ns)), .d (foD fo), .d (optD po), .d (optD de), .d (.list (.int (e : Int) :: (natsD ns ++ [.int (f : Int), .int (p : Int), .int (d : Int)])))] →
      dRet (dAndV (dOp leR (dCB lenR (dCons (dVar 2) dNil)) (dC (.int 8))) (dOp leR (dCB maxR (dCons (dVar 6) dNil)) (dC (.int 1000000000)))) (ends Q) ⟨r, n⟩ := by
    rintro f p d hf hp hd _ rfl
    refine ⟨_, rfl, by simp only [alike], by simp, by simp only [PyData.depth]; omega, _, rfl, ?_⟩
    refine onT (by show (!dataLt (.int 8) (.int ((natsD ns).length : Nat))) = true; rw [PySem.W.dataLt_int, natsD_len, decide_eq_false (by omega)]; rfl) ?_
    refine ⟨_, rfl, (e :: (ns ++ [f, p, d])).map (fun m : Nat => (m : Int)), ?_, by simp, fun m hm _ => ?_⟩
    · show [PyData.list (.int (e : Int) :: (natsD ns ++ [.int (f : Int), .int (p : Int), .int (d : Int)]))] = _
      unfold natsD
      simp [List.map_map, Function.comp_def]
    · obtain ⟨k, hk, rfl⟩ := List.mem_map.mp hm
      have hk9 : k ≤ 10 ^ 9 := by
        rcases List.mem_cons.mp hk with rfl | hk
        · exact h.eb
        · rcases List.mem_append.mp hk with hk | hk
          · exact h.nb k hk
          · simp at hk
            omega
      refine ⟨by simp only [alike], by simp, by simp only [PyData.depth]; omega, ?_⟩
      show Q (.bool (!dataLt (.int 1000000000) (.int (k : Int)))) n
      rw [PySem.W.dataLt_int, decide_eq_false (by omega)]
      exact q'
  refine ⟨_, rfl, _, rfl, _, _, rfl, _, _, rfl, _, _, rfl, _, _, rfl, _, _, rfl, rfl, ?_⟩
  refine ⟨_, rfl, _, rfl, _, rfl, _, rfl, rfl, _, rfl, ?_⟩
  have hsz : ∀ a b c : PyData, (PyData.int (e : Int) :: (natsD ns ++ [a, b, c])).length ≤ sizeLine := fun a b c => by
    simp only [List.length_cons, List.length_append, natsD_len, sizeLine_eq]
    show ns.length + 3 + 1 ≤ _
    omega
  cases fo with
  | none =>
    refine onT rfl ⟨_, rfl, rfl, _, rfl, ?_⟩
    cases po with
    | none =>
      refine onT rfl ⟨_, rfl, rfl, _, rfl, ?_⟩
      cases de with
      | none => exact onT rfl ⟨hsz _ _ _, fin 0 0 0 (by decide) (by decide) (by decide) _ rfl⟩
      | some d => exact onF rfl ⟨_, rfl, hsz _ _ _, fin 0 0 d (by decide) (by decide) (h.de d rfl) _ rfl⟩
    | some p =>
      refine onF rfl ⟨_, rfl, _, rfl, rfl, _, rfl, ?_⟩
      cases de with
      | none => exact onT rfl ⟨hsz _ _ _, fin 0 p 0 (by decide) (h.po p rfl) (by decide) _ rfl⟩
      | some d => exact onF rfl ⟨_, rfl, hsz _ _ _, fin 0 p d (by decide) (h.po p rfl) (h.de d rfl) _ rfl⟩
  | some t =>
    obtain ⟨i, f⟩ := t
    refine onF rfl ⟨_, rfl, _, rfl, _, rfl, rfl, _, rfl, ?_⟩
    have hf := (h.fo i f rfl).2
    cases po with
    | none =>
      refine onT rfl ⟨_, rfl, rfl, _, rfl, ?_⟩
      cases de with
      | none => exact onT rfl ⟨hsz _ _ _, fin f 0 0 hf (by decide) (by decide) _ rfl⟩
      | some d => exact onF rfl ⟨_, rfl, hsz _ _ _, fin f 0 d hf (by decide) (h.de d rfl) _ rfl⟩
    | some p =>
      refine onF rfl ⟨_, rfl, _, rfl, rfl, _, rfl, ?_⟩
      cases de with
      | none => exact onT rfl ⟨hsz _ _ _, fin f p 0 hf (h.po p rfl) (by decide) _ rfl⟩
      | some d => exact onF rfl ⟨_, rfl, hsz _ _ _, fin f p d hf (h.po p rfl) (h.de d rfl) _ rfl⟩
def D_is_clause : DX := pureD (fun c : Cl => [c.d]) Cl.G fun c => .bool true
theorem pm_is_clause : Pm 1 D_is_clause := pm_pure fun _ => rfl
theorem wp_is_clause (ds : List PyData) (n : Nat) (Q : QN) (h : D_is_clause ds n Q) : td_is_clause D_parts_of D_is_small D_is_plain (ends Q) (entry false N_is_clause ds n) := by
  obtain ⟨c, rfl, h, q⟩ := h
  have q' : Q (.bool true) n := q
  have hs := h.sg
  have hz := Cl.len h.sm.G
  refine ⟨_, rfl, _, rfl, ?_⟩
  refine ⟨_, rfl, rfl, rfl, _, rfl, ?_⟩
  refine onF rfl ?_
  refine ⟨_, rfl, _, rfl, _, _, rfl, _, _, rfl, rfl, ?_⟩
  refine ⟨_, rfl, _, rfl, _, rfl, rfl, rfl, _, congrArg PyData.bool (sgs_any c.sg hs), _, rfl, _, rfl, _, rfl, ?_⟩
  refine ⟨_, rfl, fit (by rfl), rfl, rfl, _, congrArg PyData.bool (two_any c.sg hs), ?_⟩
  have rest : ∀ b : Bool, b = c.st → (dSeq (dAsg (dCall D_parts_of (dCons (dIf (dTest (dVar 3)) (dSl (dVar 2) dNoPart (dPart (dNeg (dCB lenR (dCons (dC (.str ".*")) dNil))))) (dVar 2)) dNil)) (gdName 4))
  (dSeq (dIfS (dOr (dTest (dOp isR (dVar 4) (dC .none))) (dNot (dTest (dCall D_is_small (dCons (dVar 4) dNil))))) (dRet (dC (.bool false))) dNext)
  (dSeq (dIfS (dOr (dTest (dVar 3)) (dTest (dOp inR (dVar 1) (dTup (dCons (dC (.str "<")) (dCons (dC (.str ">")) dNil)))))) (dRet (dCall D_is_plain (dCons (dVar 4) dNil))) dNext)
  (dRet (dOrV (dOp neR (dVar 1) (dC (.str "~="))) (dOp gtR (dCB lenR (dCons (dOp ixR (dVar 4) (dC (.int 1))) dNil)) (dC (.int 1)))))))) (ends Q)
    ⟨[.d c.d, .d (.str (signS c.sg)), .d (.str c.tx), .d (.bool b), .un], n⟩ := by
    rintro _ rfl
    have after : (dSeq (dIfS (dOr (dTest (dOp isR (dVar 4) (dC .none))) (dNot (dTest (dCall D_is_small (dCons (dVar 4) dNil))))) (dRet (dC (.bool false))) dNext)
  (dSeq (dIfS (dOr (dTest (dVar 3)) (dTest (dOp inR (dVar 1) (dTup (dCons (dC (.str "<")) (dCons (dC (.str ">")) dNil)))))) (dRet (dCall D_is_plain (dCons (dVar 4) dNil))) dNext)
  (dRet (dOrV (dOp neR (dVar 1) (dC (.str "~="))) (dOp gtR (dCB lenR (dCons (dOp ixR (dVar 4) (dC (.int 1))) dNil)) (dC (.int 1))))))) (ends Q)
      ⟨[.d c.d, .d (.str (signS c.sg)), .d (.str c.tx), .d (.bool c.st), .d c.p.d], n⟩ := by
      refine ⟨_, rfl, rfl, _, rfl, ?_⟩
      refine ⟨_, rfl, c.p, rfl, h.sm, _, rfl, ?_⟩
      refine ⟨_, rfl, _, rfl, ?_⟩
      cases hst : c.st with
      | true => exact onT rfl ⟨_, rfl, c.p, rfl, (h.star hst).2, q'⟩
      | false =>
        refine onF rfl ⟨_, rfl, fit (by rfl), rfl, rfl, _, congrArg PyData.bool (lg_any c.sg hs), ?_⟩
        by_cases h45 : c.sg = 4 ∨ c.sg = 5
        · exact onT (decide_eq_true h45) ⟨_, rfl, c.p, rfl, (h.lt h45).2, q'⟩
        · refine onF (decide_eq_false h45) ⟨_, rfl, shS _ hs, shS 6 (by decide), _, rfl, ?_⟩
          by_cases h6 : c.sg = 6
          · refine onF (by show (!PyData.eqv (.str (signS c.sg)) (.str (signS 6))) = false; rw [eqS _ _ hs (by decide), decide_eq_true h6]; rfl) ?_
            refine ⟨_, rfl, _, rfl, by simp only [alike], by simp, by simp only [PyData.depth]; omega, ?_⟩
            show Q (.bool (dataLt (.int 1) (.int ((natsD c.p.ns).length : Nat)))) n
            have := (h.tl h6).2
            rw [PySem.W.dataLt_int, natsD_len, decide_eq_true (by omega)]
            exact q'
          · exact onT (by show (!PyData.eqv (.str (signS c.sg)) (.str (signS 6))) = true; rw [eqS _ _ hs (by decide), decide_eq_false h6]; rfl) q'
    refine ⟨_, rfl, _, rfl, ?_⟩
    cases hst : c.st with
    | true =>
      refine onT rfl ⟨_, rfl, by rw [lit_star]; exact txl (by decide), _, rfl, _, rfl, hz, ?_⟩
      have el : -(((Str.ofString ".*").length : Nat) : Int) = -2 := by rw [lit_star, tx_len]; rfl
      rw [el, Cl.cut hst]
      rw [hst] at after
      exact ⟨c.p, rfl, h.sm.G, after⟩
    | false =>
      rw [hst] at after
      exact onF rfl ⟨_, rfl, c.p, by rw [Cl.tx_f hst], h.sm.G, after⟩
  by_cases h2 : c.sg < 2
  · refine onT (decide_eq_true h2) ⟨_, rfl, _, rfl, ?_⟩
    exact rest _ c.star_in
  · refine onF (decide_eq_false h2) ?_
    refine rest false ?_
    cases hst : c.st with
    | false => rfl
    | true => exact absurd (h.star hst).1 h2
end V

set_option Elab.async false
set_option linter.all false
set_option maxRecDepth 100000
set_option maxHeartbeats 4000000
namespace V
open PySem PySem.Spec PyProof.Rows L2 DL
open PySem.W (alike alikeAll dataLt)
open TL (numL joinL tl)
/-- a loop that folds -/
theorem for_fold {α β : Type} {g : TDG} {tb : TDS} {D : DEnds} (enc : α → PyData) (S : β → DS → Prop) (f : β → α → β) : ∀ (l : List α) (b : β) (s : DS), S b s →
    (∀ x ∈ l, ∀ b s (K : DS → Prop), S b s → (∀ s', S (f b x) s' → K s') → g (enc x) s fun s' => tb { D with nx := K, ct := K, bk := D.nx } s') → (∀ s, S (l.foldl f b) s → D.nx s) → forGo g tb D (l.map enc) s
  | [], b, s, h, _, q => q s h
  | x :: l, b, s, h, step, q => step x List.mem_cons_self b s _ h fun s' h' => for_fold enc S f l (f b x) s' h' (fun z hz => step z (List.mem_cons_of_mem _ hz)) q
def clsD (cs : List Cl) : PyData := .tuple (cs.map Cl.d)
def spsD (ss : List Span) : PyData := .list (ss.map Span.d)
def ReqG (cs : List Cl) : Prop := cs.length ≤ 4 ∧ ∀ c ∈ cs, c.G
/-! ### need_requirement -/
def D_need_requirement : DX := pureD (fun cs : List Cl => [clsD cs]) ReqG clsD
theorem pm_need_requirement : Pm 1 D_need_requirement := pm_pure fun _ => rfl
theorem need_go {x : PyData} {n : Nat} {Q : QN} {D : DEnds} : ∀ (cs : List Cl) (i : Nat) (o1 o2 : Sl), (∀ c ∈ cs, c.G) → (∀ o1 o2, D.nx ⟨[.d x, o1, o2], n⟩) →
    forGo (gdTup (gdCons (gdName 1) (gdCons (gdName 2) gdNil))) (dIfS (dNot (dTest (dCall D_is_clause (dCons (dVar 2) dNil)))) dNever dNext) D (enumGo i (cs.map Cl.d)) ⟨[.d x, o1, o2], n⟩
  | [], _, o1, o2, _, q => q o1 o2
  | c :: cs, i, o1, o2, h, q => by
    refine ⟨_, rfl, _, _, rfl, _, _, rfl, rfl, ?_⟩
    refine ⟨_, rfl, c, rfl, h c List.mem_cons_self, _, rfl, ?_⟩
    exact need_go (Q := Q) cs (i + 1) _ _ (fun z hz => h z (List.mem_cons_of_mem _ hz)) q
theorem wp_need_requirement (ds : List PyData) (n : Nat) (Q : QN) (h : D_need_requirement ds n Q) : td_need_requirement D_is_clause (ends Q) (entry false N_need_requirement ds n) := by
  obtain ⟨cs, rfl, ⟨h1, h2⟩, q⟩ := h
  have hl : (cs.map Cl.d).length ≤ 4 := by rw [List.length_map]; exact h1
  refine ⟨_, rfl, _, rfl, ?_⟩
  refine ⟨_, rfl, by simp only [alike], by simp, by simp only [PyData.depth]; omega, _, rfl, ?_⟩
  refine onF (by show dataLt (.int 12) (.int ((cs.map Cl.d).length : Nat)) = false; rw [PySem.W.dataLt_int, decide_eq_false (by omega)]) ?_
  refine ⟨_, rfl, _, rfl, ?_⟩
  exact need_go (Q := Q) cs 0 _ _ h2 fun o1 o2 => ⟨_, rfl, q⟩
/-! ### names_of -/
def D_names_of : DX := pureD (fun cs : List Cl => [clsD cs]) ReqG fun cs => .bool (naming cs)
theorem pm_names_of : Pm 1 D_names_of := pm_pure fun _ => rfl
theorem wp_names_of (ds : List PyData) (n : Nat) (Q : QN) (h : D_names_of ds n Q) : td_names_of D_is_final_key D_key_of (ends Q) (entry false N_names_of ds n) := by
  obtain ⟨cs, rfl, ⟨h1, h2⟩, q⟩ := h
  have hl : (cs.map Cl.d).length ≤ sizeLine := by rw [List.length_map, sizeLine_eq]; omega
  refine ⟨_, rfl, _, rfl, hl, ?_⟩
  refine lc_pure Cl.d (fun c => decide (c.sg ≠ 1) && !c.st) (fun c => .str c.tx) cs [] (fun c hc K K0 k1 k0 => ?_) ?_
  · have hg := h2 c hc
    refine ⟨_, rfl, _, _, rfl, _, _, rfl, rfl, ?_⟩
    refine ⟨_, rfl, shS _ hg.sg, shS 1 (by decide), _, rfl, ?_⟩
    have e : (!PyData.eqv (.str (signS c.sg)) (.str (signS 1))) = decide (c.sg ≠ 1) := by rw [eqS _ _ hg.sg (by decide), decide_not]
    by_cases h1 : c.sg = 1
    · refine onF (e.trans (decide_eq_false (fun z => z h1))) ?_
      exact k0 (by rw [decide_eq_false (fun z => z h1)]; rfl)
    · refine onT (e.trans (decide_eq_true h1)) ?_
      refine ⟨_, rfl, _, rfl, _, rfl, ?_⟩
      show if (!Txt.endswith c.tx (Str.ofString ".*")) = true then _ else _
      rw [c.star_in]
      cases hst : c.st with
      | true => exact k0 (by rw [hst, Bool.and_comm]; rfl)
      | false => exact ⟨_, rfl, k1 (by rw [hst, decide_eq_true h1]; rfl)⟩
  · rw [List.nil_append]
    generalize hf : cs.filter (fun c => decide (c.sg ≠ 1) && !c.st) = fs
    have hfs : ∀ c ∈ fs, c.G ∧ c.st = false := fun c hc => by
      rw [← hf] at hc
      obtain ⟨a, b⟩ := List.mem_filter.mp hc
      refine ⟨h2 c a, ?_⟩
      cases hst : c.st with
      | false => rfl
      | true => rw [hst, Bool.and_comm] at b; cases b
    have hfl : fs.length ≤ 4 := by rw [← hf]; exact Nat.le_trans (List.length_filter_le _ _) h1
    refine ⟨_, rfl, _, rfl, by rw [List.length_map, sizeLine_eq]; omega, ?_⟩
    refine lc_pure (fun c : Cl => .str c.tx) (fun _ => true) (fun c => .bool (!c.p.key.fin)) fs [] (fun c hc K K0 k1 _ => ?_) ?_
    · obtain ⟨hg, hst⟩ := hfs c hc
      exact ⟨_, rfl, c.p, by rw [Cl.tx_f hst], hg.sm.G, c.p.key, rfl, hg.sm.G.t.ok, _, rfl, k1 rfl⟩
    · rw [List.nil_append, List.filter_eq_self.mpr (fun _ _ => rfl)]
      refine ⟨fs.map fun c => !c.p.key.fin, by rw [List.map_map]; rfl, ?_⟩
      have e : (fs.map fun c => !c.p.key.fin).any id = naming cs := by
        rw [← hf, List.any_map, List.any_filter]
        unfold naming
        refine congrArg (List.any cs) (funext fun c => ?_)
        show (decide (c.sg ≠ 1) && !c.st && !c.p.key.fin) = _
        rw [Bool.and_assoc]
      rw [e]
      exact q
/-! ### cuts of numbers -/
theorem getLast_at {ns : List Nat} (h : ns ≠ []) : atI (natsD ns) (-1) = some (.int (ns.getLastD 0 : Nat)) := by
  obtain ⟨a, b, rfl⟩ : ∃ a b, ns = a ++ [b] := ⟨ns.dropLast, ns.getLast h, (List.dropLast_concat_getLast h).symm⟩
  unfold natsD atI
  rw [List.map_append, List.length_append, List.length_map]
  have : ixN (a.length + (List.map (fun n : Nat => PyData.int (n : Int)) [b]).length) (-1) = some a.length := by
    unfold ixN
    simp
    omega
  rw [this]
  simp
def D_numbers_cuts : DX := pureD (fun a : Nat × List Nat => [.int (a.1 : Int), .tuple (natsD a.2)]) (fun a => a.2 ≠ [] ∧ a.2.length ≤ 1000) fun a => .tuple [(blk a.1 a.2).1.d, (blk a.1 a.2).2.d]
theorem pm_numbers_cuts : Pm 2 D_numbers_cuts := pm_pure fun _ => rfl
theorem bump_len {ns : List Nat} (h : ns ≠ []) : (bump ns).length = ns.length := by
  unfold bump
  rw [List.length_append, List.length_dropLast]
  have := List.length_pos_iff.mpr h
  simp only [List.length_cons, List.length_nil]
  omega
theorem wp_numbers_cuts (ds : List PyData) (n : Nat) (Q : QN) (h : D_numbers_cuts ds n Q) : td_numbers_cuts D_based (ends Q) (entry false N_numbers_cuts ds n) := by
  obtain ⟨⟨e, ns⟩, rfl, ⟨h1, h2⟩, q⟩ := h
  have h2' : ns.length ≤ 1000 := h2
  have eb : DL.cutD (natsD ns) none (some (-1)) ++ [PyData.int ((ns.getLastD 0 : Nat) + 1)] = natsD (bump ns) := by
    have e1 : DL.cutD (natsD ns) none (some (-1)) = (natsD ns).dropLast := (cut_toneg (natsD ns) 1 (by decide)).trans List.dropLast_eq_take.symm
    rw [e1]
    unfold bump natsD
    rw [List.map_append, List.map_dropLast]
    rfl
  refine ⟨_, rfl, _, rfl, _, rfl, _, rfl, _, rfl, _, getLast_at h1, fit (by rfl), ?_⟩
  refine ⟨by have := cut_toneg (natsD ns) 1 (by decide); rw [show (-((1 : Nat) : Int)) = -1 from rfl] at this; show (DL.cutD (natsD ns) none (some (-1))).length + 1 ≤ _; rw [this, List.length_take, natsD_len, sizeLine_eq]; omega, ?_⟩
  show dRet (dTup (dCons (dTup (dCons (dVar 0) (dCons (dCall D_based (dCons (dVar 1) dNil)) (dCons (dC c_FIRST) dNil)))) (dCons (dTup (dCons (dVar 0) (dCons (dCall D_based (dCons (dVar 2) dNil)) (dCons (dC c_FIRST) dNil)))) dNil))) (ends Q) ⟨[.d (.int (e : Int)), .d (.tuple (natsD ns)), .d (.tuple (DL.cutD (natsD ns) none (some (-1)) ++ [PyData.int ((ns.getLastD 0 : Nat) + 1)]))], n⟩
  rw [eb]
  refine ⟨_, rfl, _, rfl, ns, rfl, by omega, fit (by rfl), _, rfl, _, rfl, bump ns, rfl, by show (bump ns).length ≤ 100000; rw [bump_len (show ns ≠ [] from h1)]; omega, fit (by rfl), fit (by rfl), q⟩
def D_block_cuts : DX := pureD (fun c : Cl => [.str c.tx]) (fun c => c.p.G ∧ c.st = true) fun c => .tuple [(blk c.p.ep c.p.ns).1.d, (blk c.p.ep c.p.ns).2.d]
theorem pm_block_cuts : Pm 1 D_block_cuts := pm_pure fun _ => rfl
theorem wp_block_cuts (ds : List PyData) (n : Nat) (Q : QN) (h : D_block_cuts ds n Q) : td_block_cuts D_numbers_of D_numbers_cuts (ends Q) (entry false N_block_cuts ds n) := by
  obtain ⟨c, rfl, ⟨h1, h2⟩, q⟩ := h
  refine ⟨_, rfl, by rw [lit_star]; exact txl (by decide), _, rfl, _, rfl, Cl.len h1, ?_⟩
  have el : -(((Str.ofString ".*").length : Nat) : Int) = -2 := by rw [lit_star, tx_len]; rfl
  rw [el, Cl.cut h2]
  refine ⟨c.p, rfl, h1, _, rfl, _, _, rfl, _, _, rfl, rfl, ?_⟩
  exact ⟨_, rfl, _, rfl, (c.p.ep, c.p.ns), rfl, ⟨h1.ne, Nat.le_trans h1.ln (by decide)⟩, q⟩
/-! ### spans of a clause -/
def D_outside : DX := pureD (fun a : Cut × Cut => [a.1.d, a.2.d]) (fun _ => True) fun a => spsD (outs a.1 a.2)
theorem pm_outside : Pm 2 D_outside := pm_pure fun _ => rfl
theorem wp_outside (ds : List PyData) (n : Nat) (Q : QN) (h : D_outside ds n Q) : td_outside (ends Q) (entry false N_outside ds n) := by
  obtain ⟨⟨lo, hi⟩, rfl, _, q⟩ := h
  refine ⟨_, rfl, alike_cut least lo, cut_ne least, depth_cut least, _, rfl, ?_⟩
  show if dataLt least.d lo.d = true then _ else _
  rw [lt_key]
  have q' : Q (spsD (outs lo hi)) n := q
  unfold outs at q'
  cases hb : least.lt lo with
  | true =>
    rw [hb] at q'
    exact onT rfl ⟨_, rfl, fit (by rfl), fit (by rfl), _, rfl, _, rfl, fit (by rfl), fit (by rfl), fit2 (by rfl), q'⟩
  | false =>
    rw [hb] at q'
    exact onF rfl ⟨fit (by rfl), _, rfl, _, rfl, fit (by rfl), fit (by rfl), fit2 (by rfl), q'⟩
def bnds (sg : Nat) (k : Ky) : List Span := if sg = 5 then [(⟨k.ep, k.b, none⟩, none)] else if least.lt ⟨k.ep, k.b, some firstT⟩ then [(least, some ⟨k.ep, k.b, some firstT⟩)] else []
def D_bounded_spans : DX := pureD (fun a : Nat × Ky => [.str (signS a.1), a.2.d]) (fun a => a.1 = 4 ∨ a.1 = 5) fun a => spsD (bnds a.1 a.2)
theorem pm_bounded_spans : Pm 2 D_bounded_spans := pm_pure fun _ => rfl
theorem wp_bounded_spans (ds : List PyData) (n : Nat) (Q : QN) (h : D_bounded_spans ds n Q) : td_bounded_spans (ends Q) (entry false N_bounded_spans ds n) := by
  obtain ⟨⟨sg, k⟩, rfl, h, q⟩ := h
  have h' : sg = 4 ∨ sg = 5 := h
  refine ⟨_, rfl, _, rfl, _, _, rfl, _, _, rfl, _, _, rfl, rfl, ?_⟩
  refine ⟨_, rfl, shS sg (by omega), shS 5 (by decide), _, rfl, ?_⟩
  show if PyData.eqv (.str (signS sg)) (.str (signS 5)) = true then _ else _
  rw [eqS _ _ (by omega) (by decide)]
  have q' : Q (spsD (bnds sg k)) n := q
  unfold bnds at q'
  by_cases h5 : sg = 5
  · rw [if_pos h5] at q'
    refine onT (decide_eq_true h5) ⟨_, rfl, _, rfl, fit (by rfl), fit (by rfl), fit (by rfl), q'⟩
  · rw [if_neg h5] at q'
    refine onF (decide_eq_false h5) ⟨_, rfl, _, rfl, fit (by rfl), alike_cut least ⟨k.ep, k.b, some firstT⟩, cut_ne least, depth_cut least, _, rfl, ?_⟩
    show if dataLt least.d (Cut.d ⟨k.ep, k.b, some firstT⟩) = true then _ else _
    rw [lt_key]
    cases hb : least.lt ⟨k.ep, k.b, some firstT⟩ with
    | true =>
      rw [hb] at q'
      exact onT rfl ⟨_, rfl, _, rfl, fit (by rfl), fit (by rfl), fit (by rfl), q'⟩
    | false =>
      rw [hb] at q'
      exact onF rfl ⟨fit (by rfl), q'⟩
end V

set_option Elab.async false
set_option linter.all false
set_option maxRecDepth 100000
set_option maxHeartbeats 4000000
namespace V
open PySem PySem.Spec PyProof.Rows L2 DL
open PySem.W (alike alikeAll dataLt)
open TL (numL joinL tl)
def D_clause_spans : DX := pureD (fun c : Cl => [c.d]) Cl.G fun c => spsD c.spans
theorem pm_clause_spans : Pm 1 D_clause_spans := pm_pure fun _ => rfl
theorem dropLast_d (ns : List Nat) : DL.cutD (natsD ns) none (some (-((1 : Nat) : Int))) = natsD ns.dropLast := by
  have e1 : DL.cutD (natsD ns) none (some (-((1 : Nat) : Int))) = (natsD ns).dropLast := (cut_toneg (natsD ns) 1 (by decide)).trans List.dropLast_eq_take.symm
  rw [e1]
  unfold natsD
  rw [List.map_dropLast]
theorem sgT {i j : Nat} (hi : i < 7) (hj : j < 7) (h : i = j) : PyData.eqv (.str (signS i)) (.str (signS j)) = true := (eqS i j hi hj).trans (decide_eq_true h)
theorem sgF {i j : Nat} (hi : i < 7) (hj : j < 7) (h : i ≠ j) : PyData.eqv (.str (signS i)) (.str (signS j)) = false := (eqS i j hi hj).trans (decide_eq_false h)
theorem wp_clause_spans (ds : List PyData) (n : Nat) (Q : QN) (h : D_clause_spans ds n Q) : td_clause_spans D_block_cuts D_outside D_key_of D_bounded_spans D_numbers_of D_numbers_cuts D_following_key (ends Q) (entry false N_clause_spans ds n) := by
  obtain ⟨c, rfl, h, q⟩ := h
  have hs := h.sg
  have hG := h.sm.G
  have q' : Q (spsD c.spans) n := q
  refine ⟨_, rfl, _, rfl, _, _, rfl, _, _, rfl, rfl, ?_⟩
  refine ⟨_, rfl, _, rfl, _, rfl, ?_⟩
  show if Txt.endswith c.tx (Str.ofString ".*") = true then _ else _
  rw [c.star_in]
  cases hst : c.st with
  | true =>
    refine onT rfl ⟨_, rfl, c, rfl, ⟨hG, hst⟩, _, rfl, _, _, rfl, _, _, rfl, rfl, ?_⟩
    have h2 := (h.star hst).1
    refine ⟨_, rfl, shS _ hs, shS 0 (by decide), _, rfl, ?_⟩
    have e : c.spans = if c.sg = 0 then [((blk c.p.ep c.p.ns).1, some (blk c.p.ep c.p.ns).2)] else outs (blk c.p.ep c.p.ns).1 (blk c.p.ep c.p.ns).2 := if_pos hst
    by_cases h0 : c.sg = 0
    · rw [e, if_pos h0] at q'
      exact onT (sgT hs (by decide) h0) ⟨_, rfl, _, rfl, fit (by rfl), fit (by rfl), q'⟩
    · rw [e, if_neg h0] at q'
      exact onF (sgF hs (by decide) h0) ⟨_, rfl, _, rfl, ((blk c.p.ep c.p.ns).1, (blk c.p.ep c.p.ns).2), rfl, trivial, q'⟩
  | false =>
    refine onF rfl ⟨_, rfl, c.p, by rw [Cl.tx_f hst], hG, ?_⟩
    refine ⟨_, rfl, fit (by rfl), rfl, rfl, _, congrArg PyData.bool (lg_any c.sg hs), ?_⟩
    have e : c.spans = match c.sg with
      | 4 => if least.lt ⟨c.p.ep, strip c.p.ns, some firstT⟩ then [(least, some ⟨c.p.ep, strip c.p.ns, some firstT⟩)] else []
      | 5 => [(⟨c.p.ep, strip c.p.ns, none⟩, none)]
      | 3 => [(c.p.key.cut, none)]
      | 6 => [(c.p.key.cut, some (blk c.p.ep c.p.ns.dropLast).2)]
      | 1 => outs c.p.key.cut c.p.key.fol.cut
      | 0 => [(c.p.key.cut, some c.p.key.fol.cut)]
      | _ => [(least, some c.p.key.fol.cut)] := if_neg (by rw [hst]; exact Bool.false_ne_true)
    rw [e] at q'
    by_cases h45 : c.sg = 4 ∨ c.sg = 5
    · refine onT (decide_eq_true h45) ⟨_, rfl, _, rfl, (c.sg, c.p.key), rfl, h45, ?_⟩
      show Q (spsD (bnds c.sg c.p.key)) n
      rcases h45 with h4 | h5
      · rw [h4] at q' ⊢; exact q'
      · rw [h5] at q' ⊢; exact q'
    · refine onF (decide_eq_false h45) ⟨_, rfl, shS _ hs, shS 3 (by decide), _, rfl, ?_⟩
      by_cases h3 : c.sg = 3
      · rw [h3] at q'
        exact onT (sgT hs (by decide) h3) ⟨_, rfl, fit (by rfl), fit (by rfl), q'⟩
      · refine onF (sgF hs (by decide) h3) ⟨_, rfl, shS _ hs, shS 6 (by decide), _, rfl, ?_⟩
        by_cases h6 : c.sg = 6
        · rw [h6] at q'
          refine onT (sgT hs (by decide) h6) ⟨_, rfl, c.p, by rw [Cl.tx_f hst], hG, _, rfl, _, _, rfl, _, _, rfl, rfl, ?_⟩
          refine ⟨_, rfl, _, rfl, _, rfl, _, rfl, _, rfl, (c.p.ep, c.p.ns.dropLast), congrArg (fun l => [PyData.int (c.p.ep : Int), .tuple l]) (dropLast_d c.p.ns), ?_, _, rfl, fit (by rfl), fit (by rfl), q'⟩
          have hl := (h.tl h6).2
          have hl2 := hG.ln
          have hd : c.p.ns.dropLast.length = c.p.ns.length - 1 := List.length_dropLast
          exact ⟨fun z => by rw [show c.p.ns.dropLast = [] from z] at hd; simp only [List.length_nil] at hd; omega, by show c.p.ns.dropLast.length ≤ 1000; omega⟩
        · refine onF (sgF hs (by decide) h6) ⟨_, rfl, c.p.key, rfl, hG.t.ok, ?_⟩
          refine ⟨_, rfl, shS _ hs, shS 1 (by decide), _, rfl, ?_⟩
          by_cases h1 : c.sg = 1
          · rw [h1] at q'
            exact onT (sgT hs (by decide) h1) ⟨_, rfl, _, rfl, (c.p.key.cut, c.p.key.fol.cut), rfl, trivial, q'⟩
          · refine onF (sgF hs (by decide) h1) ⟨_, rfl, shS _ hs, shS 0 (by decide), _, rfl, ?_⟩
            by_cases h0 : c.sg = 0
            · rw [h0] at q'
              exact onT (sgT hs (by decide) h0) ⟨_, rfl, _, rfl, fit (by rfl), fit (by rfl), q'⟩
            · have h2 : c.sg = 2 := by omega
              rw [h2] at q'
              exact onF (sgF hs (by decide) h0) ⟨_, rfl, fit (by rfl), fit (by rfl), q'⟩
/-! ### meet -/
def D_lesser_end : DX := pureD (fun a : Option Cut × Option Cut => [endD a.1, endD a.2]) (fun _ => True) fun a => endD (lesser a.1 a.2)
theorem pm_lesser_end : Pm 2 D_lesser_end := pm_pure fun _ => rfl
theorem depth_two (c c' : Cut) : PyData.depthAll [c.d, c'.d] ≤ 60 := by
  have := depth_cut c
  have := depth_cut c'
  simp only [PyData.depthAll]
  omega
theorem alike_two (c c' : Cut) : PySem.W.AlikeAll [c.d, c'.d] := by
  refine ⟨fun x hx y hy => ?_, fun x hx => ?_⟩
  · simp only [List.mem_cons, List.not_mem_nil, or_false] at hx hy
    rcases hx with rfl | rfl <;> rcases hy with rfl | rfl <;> exact alike_cut _ _
  · simp only [List.mem_cons, List.not_mem_nil, or_false] at hx
    rcases hx with rfl | rfl <;> exact cut_ne _
theorem wp_lesser_end (ds : List PyData) (n : Nat) (Q : QN) (h : D_lesser_end ds n Q) : td_lesser_end (ends Q) (entry false N_lesser_end ds n) := by
  obtain ⟨⟨a, b⟩, rfl, _, q⟩ := h
  have q' : Q (endD (lesser a b)) n := q
  cases a with
  | none => exact ⟨_, rfl, rfl, _, rfl, _, rfl, rfl, _, rfl, _, rfl, q'⟩
  | some a =>
    cases b with
    | none => exact ⟨_, rfl, rfl, _, rfl, _, rfl, rfl, _, rfl, _, rfl, rfl, _, rfl, _, rfl, q'⟩
    | some b =>
      refine ⟨_, rfl, rfl, _, rfl, _, rfl, rfl, _, rfl, _, rfl, _, rfl, a.d, b.d, rfl, alike_two a b, depth_two a b, ?_⟩
      show Q (if dataLt b.d a.d = true then b.d else a.d) n
      rw [lt_key]
      have e : endD (lesser (some a) (some b)) = if b.lt a = true then b.d else a.d := by
        show Cut.d (if b.lt a = true then b else a) = _
        cases b.lt a <;> rfl
      rw [← e]
      exact q'
def D_meet : DX := pureD (fun a : List Span × List Span => [spsD a.1, spsD a.2]) (fun a => a.1.length * a.2.length ≤ 1000) fun a => spsD (meet a.1 a.2)
theorem pm_meet : Pm 2 D_meet := pm_pure fun _ => rfl
theorem meet1_len (s s' : Span) : (meet1 s s').length ≤ 1 := by
  unfold meet1
  split
  · exact Nat.le_refl _
  · split
    · exact Nat.le_refl _
    · exact Nat.zero_le _
def mrow (s : Span) (b : List Span) : List Span := b.flatMap fun s' => meet1 s s'
theorem mrow_len (s : Span) : ∀ b : List Span, (mrow s b).length ≤ b.length
  | [] => Nat.le_refl _
  | x :: b => by
    have := meet1_len s x
    have := mrow_len s b
    show (meet1 s x ++ mrow s b).length ≤ _
    rw [List.length_append, List.length_cons]
    omega
theorem meet_len : ∀ a b : List Span, (meet a b).length ≤ a.length * b.length
  | [], b => by show 0 ≤ _; exact Nat.zero_le _
  | x :: a, b => by
    have h1 := mrow_len x b
    have h2 := meet_len a b
    show (mrow x b ++ meet a b).length ≤ _
    rw [List.length_append, List.length_cons, Nat.add_mul, Nat.one_mul]
    omega
theorem cmax_d (c c' : Cut) : (if dataLt c.d c'.d = true then c'.d else c.d) = (cmax c c').d := by
  rw [lt_key]
  unfold cmax
  cases c.lt c' <;> rfl
def MS (n : Nat) (x y : PyData) (found : List Span) (cap : Nat) (s : DS) : Prop := found.length ≤ cap ∧ ∃ o3 o4 o5 o6 o7 o8, s = ⟨[.d x, .d y, .own (found.map Span.d), o3, o4, o5, o6, o7, o8], n⟩
/-- one turn within -/
theorem meet_turn {n cap : Nat} {x y : PyData} {D : DEnds} {s s' : Span} {found : List Span} {o5 o6 o7 o8 : Sl} (hc : cap ≤ 1000) (h : found.length + 1 ≤ cap) (q : ∀ st, MS n x y (found ++ meet1 s s') cap st → (∃ r, st.r[3]? = some (.d s.1.d) ∧ st.r[4]? = some (.d (endD s.2)) ∧ r = st.r) → D.nx st) :
    (gdTup (gdCons (gdName 5) (gdCons (gdName 6) gdNil))) s'.d ⟨[.d x, .d y, .own (found.map Span.d), .d s.1.d, .d (endD s.2), o5, o6, o7, o8], n⟩ fun st => (dSeq (dPar 7 8 (dCB max2R (dCons (dVar 3) (dCons (dVar 5) dNil))) (dCall D_lesser_end (dCons (dVar 4) (dCons (dVar 6) dNil))))
  (dIfS (dOr (dTest (dOp isR (dVar 8) (dC .none))) (dTest (dOp ltR (dVar 7) (dVar 8)))) (dDrop (dApp 2 (dTup (dCons (dVar 7) (dCons (dVar 8) dNil))))) dNext)) D st := by
  obtain ⟨lo, hi⟩ := s
  obtain ⟨lo', hi'⟩ := s'
  refine ⟨_, rfl, _, _, rfl, _, _, rfl, rfl, ?_⟩
  refine ⟨_, rfl, _, rfl, lo.d, lo'.d, rfl, alike_two _ _, depth_two _ _, ?_⟩
  have e := cmax_d lo lo'
  show dCall D_lesser_end (dCons (dVar 4) (dCons (dVar 6) dNil)) ⟨[.d x, .d y, .own (found.map Span.d), .d lo.d, .d (endD hi), .d lo'.d, .d (endD hi'), o7, o8], n⟩ fun y2 s2 => (dIfS (dOr (dTest (dOp isR (dVar 8) (dC .none))) (dTest (dOp ltR (dVar 7) (dVar 8)))) (dDrop (dApp 2 (dTup (dCons (dVar 7) (dCons (dVar 8) dNil))))) dNext) D { s2 with r := (s2.r.set 7 (.d (if dataLt lo.d lo'.d = true then lo'.d else lo.d))).set 8 (.d y2) }
  rw [e]
  refine ⟨_, rfl, _, rfl, (hi, hi'), rfl, trivial, ?_⟩
  show (dIfS (dOr (dTest (dOp isR (dVar 8) (dC .none))) (dTest (dOp ltR (dVar 7) (dVar 8)))) (dDrop (dApp 2 (dTup (dCons (dVar 7) (dCons (dVar 8) dNil))))) dNext) D ⟨[.d x, .d y, .own (found.map Span.d), .d lo.d, .d (endD hi), .d lo'.d, .d (endD hi'), .d (cmax lo lo').d, .d (endD (lesser hi hi'))], n⟩
  have hlen : (found.map Span.d).length < sizeLine := by rw [List.length_map, sizeLine_eq]; omega
  cases hl : lesser hi hi' with
  | none =>
    have em : meet1 (lo, hi) (lo', hi') = [(cmax lo lo', none)] := by unfold meet1; simp only [hl]
    rw [em] at q
    refine ⟨_, rfl, rfl, _, rfl, ?_⟩
    refine ⟨⟨_, rfl⟩, _, rfl, _, rfl, fit (by rfl), _, rfl, hlen, ?_⟩
    refine q _ ⟨by rw [List.length_append]; exact h, _, _, _, _, _, _, by rw [List.map_append]; rfl⟩ ⟨_, rfl, rfl, rfl⟩
  | some e2 =>
    have em : meet1 (lo, hi) (lo', hi') = if (cmax lo lo').lt e2 then [(cmax lo lo', some e2)] else [] := by unfold meet1; simp only [hl]
    rw [em] at q
    refine ⟨_, rfl, rfl, _, rfl, _, rfl, _, rfl, alike_cut _ _, cut_ne _, depth_cut _, _, rfl, ?_⟩
    show if dataLt (cmax lo lo').d e2.d = true then _ else _
    rw [lt_key]
    cases hb : (cmax lo lo').lt e2 with
    | true =>
      rw [hb, if_pos rfl] at q
      refine onT rfl ⟨⟨_, rfl⟩, _, rfl, _, rfl, fit (by rfl), _, rfl, hlen, ?_⟩
      refine q _ ⟨by rw [List.length_append]; exact h, _, _, _, _, _, _, by rw [List.map_append]; rfl⟩ ⟨_, rfl, rfl, rfl⟩
    | false =>
      rw [hb, if_neg Bool.false_ne_true, List.append_nil] at q
      refine onF rfl ?_
      refine q _ ⟨by omega, _, _, _, _, _, _, rfl⟩ ⟨_, rfl, rfl, rfl⟩
end V

set_option Elab.async false
set_option linter.all false
set_option maxRecDepth 100000
set_option maxHeartbeats 4000000
namespace V
open PySem PySem.Spec PyProof.Rows L2 DL
open PySem.W (alike alikeAll dataLt)
open TL (numL joinL tl)
def meetB (D_lesser_end : DX) : TDS := (dSeq (dPar 7 8 (dCB max2R (dCons (dVar 3) (dCons (dVar 5) dNil))) (dCall D_lesser_end (dCons (dVar 4) (dCons (dVar 6) dNil))))
  (dIfS (dOr (dTest (dOp isR (dVar 8) (dC .none))) (dTest (dOp ltR (dVar 7) (dVar 8)))) (dDrop (dApp 2 (dTup (dCons (dVar 7) (dCons (dVar 8) dNil))))) dNext))
def g56 : TDG := gdTup (gdCons (gdName 5) (gdCons (gdName 6) gdNil))
theorem meet_row {n cap : Nat} {x y : PyData} {D : DEnds} {s : Span} (hc : cap ≤ 1000) : ∀ (b found : List Span) (o5 o6 o7 o8 : Sl), found.length + b.length ≤ cap → (∀ st, MS n x y (found ++ mrow s b) cap st → D.nx st) →
    forGo g56 (meetB D_lesser_end) D (b.map Span.d) ⟨[.d x, .d y, .own (found.map Span.d), .d s.1.d, .d (endD s.2), o5, o6, o7, o8], n⟩
  | [], found, o5, o6, o7, o8, h, q => by
    rw [show found ++ mrow s [] = found from List.append_nil _] at q
    exact q _ ⟨by simp only [List.length_nil] at h; omega, _, _, _, _, _, _, rfl⟩
  | t :: b, found, o5, o6, o7, o8, h, q => by
    rw [List.length_cons] at h
    refine meet_turn (s' := t) hc (by omega) fun st ⟨hl, o3, o4, o5, o6, o7, o8, e⟩ ⟨r, e3, e4, er⟩ => ?_
    subst e
    cases e3
    cases e4
    have hm := meet1_len s t
    refine meet_row hc b (found ++ meet1 s t) o5 o6 o7 o8 (by rw [List.length_append]; omega) ?_
    rw [List.append_assoc]
    exact q
theorem meet_rows {n cap : Nat} {x : PyData} {D : DEnds} {b : List Span} (hc : cap ≤ 1000) : ∀ (a found : List Span) (o3 o4 o5 o6 o7 o8 : Sl), found.length + a.length * b.length ≤ cap → (∀ st, MS n x (spsD b) (found ++ meet a b) cap st → D.nx st) →
    forGo (gdTup (gdCons (gdName 3) (gdCons (gdName 4) gdNil))) (dFor (diL (dVar 1)) g56 (meetB D_lesser_end)) D (a.map Span.d) ⟨[.d x, .d (spsD b), .own (found.map Span.d), o3, o4, o5, o6, o7, o8], n⟩
  | [], found, o3, o4, o5, o6, o7, o8, h, q => by
    rw [show found ++ meet [] b = found from List.append_nil _] at q
    exact q _ ⟨by omega, _, _, _, _, _, _, rfl⟩
  | s :: a, found, o3, o4, o5, o6, o7, o8, h, q => by
    rw [List.length_cons, Nat.add_mul, Nat.one_mul] at h
    refine ⟨_, rfl, _, _, rfl, _, _, rfl, rfl, ?_⟩
    refine ⟨_, rfl, _, rfl, ?_⟩
    refine meet_row hc b found o5 o6 o7 o8 (by omega) fun st ⟨hl, o3, o4, o5, o6, o7, o8, e⟩ => ?_
    subst e
    have hm := mrow_len s b
    refine meet_rows hc a (found ++ mrow s b) o3 o4 o5 o6 o7 o8 (by rw [List.length_append]; omega) ?_
    rw [List.append_assoc]
    exact q
theorem wp_meet (ds : List PyData) (n : Nat) (Q : QN) (h : D_meet ds n Q) : td_meet D_lesser_end (ends Q) (entry false N_meet ds n) := by
  obtain ⟨⟨a, b⟩, rfl, h, q⟩ := h
  have h' : a.length * b.length ≤ 1000 := h
  refine ⟨by decide, ?_⟩
  refine ⟨_, rfl, _, rfl, ?_⟩
  refine meet_rows (cap := 1000) (Nat.le_refl _) a [] _ _ _ _ _ _ (by simp only [List.length_nil]; omega) fun st ⟨hl, o3, o4, o5, o6, o7, o8, e⟩ => ?_
  subst e
  exact ⟨_, rfl, q⟩
/-! ### spans_of -/
def D_spans_of : DX := pureD (fun cs : List Cl => [clsD cs]) ReqG fun cs => spsD (spansOf cs)
theorem pm_spans_of : Pm 1 D_spans_of := pm_pure fun _ => rfl
theorem outs_len (a b : Cut) : (outs a b).length ≤ 2 := by
  unfold outs
  split <;> exact Nat.le_of_ble_eq_true rfl
theorem Cl.spans_len (c : Cl) : c.spans.length ≤ 2 := by
  unfold Cl.spans
  split
  · split
    · exact Nat.le_of_ble_eq_true rfl
    · exact outs_len _ _
  · split
    · split <;> exact Nat.le_of_ble_eq_true rfl
    · exact Nat.le_of_ble_eq_true rfl
    · exact Nat.le_of_ble_eq_true rfl
    · exact Nat.le_of_ble_eq_true rfl
    · exact outs_len _ _
    · exact Nat.le_of_ble_eq_true rfl
    · exact Nat.le_of_ble_eq_true rfl
theorem spans_go {n : Nat} {x : PyData} {D : DEnds} : ∀ (cs : List Cl) (k : Nat) (a : List Span) (o2 : Sl), (∀ c ∈ cs, c.G) → a.length ≤ 2 ^ k → k + cs.length ≤ 4 → (∀ o2, D.nx ⟨[.d x, .d (spsD (cs.foldl (fun a c => meet a c.spans) a)), o2], n⟩) →
    forGo (gdName 2) (dAsg (dCall D_meet (dCons (dVar 1) (dCons (dCall D_clause_spans (dCons (dVar 2) dNil)) dNil))) (gdName 1)) D (cs.map Cl.d) ⟨[.d x, .d (spsD a), o2], n⟩
  | [], k, a, o2, h, ha, hk, q => q o2
  | c :: cs, k, a, o2, h, ha, hk, q => by
    rw [List.length_cons] at hk
    have h2 := c.spans_len
    have h3 := meet_len a c.spans
    have h4 : a.length * c.spans.length ≤ 2 ^ k * 2 := Nat.mul_le_mul ha h2
    have h5 : (2 : Nat) ^ k ≤ 2 ^ 4 := Nat.pow_le_pow_right (by decide) (by omega)
    refine ⟨_, rfl, _, rfl, c, rfl, h c List.mem_cons_self, (a, c.spans), rfl, by show a.length * c.spans.length ≤ 1000; omega, ?_⟩
    exact spans_go cs (k + 1) (meet a c.spans) _ (fun z hz => h z (List.mem_cons_of_mem _ hz)) (by rw [Nat.pow_succ]; omega) (by omega) q
theorem wp_spans_of (ds : List PyData) (n : Nat) (Q : QN) (h : D_spans_of ds n Q) : td_spans_of D_meet D_clause_spans (ends Q) (entry false N_spans_of ds n) := by
  obtain ⟨cs, rfl, ⟨h1, h2⟩, q⟩ := h
  refine ⟨fit (by rfl), fit (by rfl), _, rfl, _, rfl, ?_⟩
  exact spans_go (x := clsD cs) cs 0 [(least, none)] _ h2 (by decide) (by omega) fun o2 => ⟨_, rfl, q⟩
end V

set_option Elab.async false
set_option linter.all false
set_option maxRecDepth 100000
set_option maxHeartbeats 4000000
namespace V
open PySem PySem.Spec PyProof.Rows L2 DL
open PySem.W (alike alikeAll dataLt)
open TL (numL joinL tl)
structure Cut.Ok (m : Nat) (c : Cut) : Prop where
  ln : c.b.length ≤ m
  t : ∀ t, c.t = some t → t.ok
def EndOk (m : Nat) (h : Option Cut) : Prop := ∀ c, h = some c → c.Ok m
def SpanOk (m : Nat) (s : Span) : Prop := s.1.Ok m ∧ EndOk m s.2
theorem EndOk.none {m : Nat} : EndOk m none := fun _ h => nomatch h
theorem EndOk.some {m : Nat} {c : Cut} (h : c.Ok m) : EndOk m (some c) := fun _ e => Option.some.inj e ▸ h
def D_is_after : DX := pureD (fun c : Cut => [c.d]) (fun _ => True) fun c => .bool c.t.isNone
theorem pm_is_after : Pm 1 D_is_after := pm_pure fun _ => rfl
theorem Tl.l_head (t : Tl) : ∃ x r, t.l = x :: r ∧ x ≤ 3 ∧ (x = 3 ↔ t.fo = none ∧ ∃ p, t.po = some p) := by
  obtain ⟨fo, po, de⟩ := t
  cases fo with
  | none =>
    cases po with
    | none =>
      cases de with
      | none => exact ⟨2, _, rfl, by decide, by simp⟩
      | some d => exact ⟨0, _, rfl, by decide, by simp⟩
    | some p => exact ⟨3, _, rfl, by decide, by simp⟩
  | some a =>
    obtain ⟨i, n⟩ := a
    cases po with
    | none => exact ⟨1, _, rfl, by decide, by simp⟩
    | some p => exact ⟨1, _, rfl, by decide, by simp⟩
theorem Cut.l_four (c : Cut) : decide (c.l = [4]) = c.t.isNone := by
  unfold Cut.l
  cases h : c.t with
  | none => rfl
  | some t =>
    obtain ⟨x, r, e, hx, _⟩ := t.l_head
    show decide (t.l = [4]) = false
    rw [e]
    refine decide_eq_false fun z => ?_
    injection z
    omega
theorem wp_is_after (ds : List PyData) (n : Nat) (Q : QN) (h : D_is_after ds n Q) : td_is_after (ends Q) (entry false N_is_after ds n) := by
  obtain ⟨c, rfl, _, q⟩ := h
  refine ⟨_, rfl, _, rfl, shaped_nats _, by show SeqAt.shaped (.tuple (natsD [4])) = true; exact shaped_nats _, ?_⟩
  show Q (.bool (PyData.eqv (.tuple (natsD c.l)) (.tuple (natsD [4])))) n
  simp only [PyData.eqv]
  rw [eqv_nats, c.l_four]
  exact q
def D_next_final : DX := pureD (fun k : Ky => [k.d]) (fun k => k.t.ok) fun k => k.nf.d
theorem pm_next_final : Pm 1 D_next_final := pm_pure fun _ => rfl
theorem at0 {x : PyData} {r : List PyData} : atI (x :: r) 0 = some x := DL.atI_nat (xs := x :: r) (j := 0) (Nat.succ_pos _)
theorem at1 {x y : PyData} {r : List PyData} : atI (x :: y :: r) 1 = some y := DL.atI_nat (xs := x :: y :: r) (j := 1) (Nat.succ_lt_succ (Nat.succ_pos _))
theorem nf_fin {k : Ky} (h : k.fin = true) : k.nf = k := by unfold Ky.nf; rw [if_pos h]
theorem nf_post {k : Ky} {p : Nat} (h : k.fin = false) (e1 : k.t.fo = none) (e2 : k.t.po = some p) : k.nf = ⟨k.ep, k.b, ⟨none, some p, none⟩⟩ := by
  unfold Ky.nf
  rw [if_neg (by rw [h]; exact Bool.false_ne_true), e1, e2]
theorem nf_else {k : Ky} (h : k.fin = false) (h2 : ¬ (k.t.fo = none ∧ ∃ p, k.t.po = some p)) : k.nf = ⟨k.ep, k.b, plain⟩ := by
  unfold Ky.nf
  rw [if_neg (by rw [h]; exact Bool.false_ne_true)]
  split
  · rename_i a b
    exact absurd ⟨a, _, b⟩ h2
  · rfl
theorem wp_next_final (ds : List PyData) (n : Nat) (Q : QN) (h : D_next_final ds n Q) : td_next_final D_is_final_key (ends Q) (entry false N_next_final ds n) := by
  obtain ⟨k, rfl, h, q⟩ := h
  have q' : Q k.nf.d n := q
  refine ⟨_, rfl, _, rfl, _, _, rfl, _, _, rfl, _, _, rfl, rfl, ?_⟩
  refine ⟨_, rfl, k, rfl, h, _, rfl, ?_⟩
  cases hf : k.fin with
  | true =>
    rw [nf_fin hf] at q'
    exact onT rfl ⟨_, rfl, q'⟩
  | false =>
    obtain ⟨x, r, e, hx, h3⟩ := k.t.l_head
    refine onF rfl ⟨_, rfl, .int (x : Int), by rw [e]; exact at0, rfl, rfl, _, rfl, ?_⟩
    by_cases h3' : x = 3
    · obtain ⟨e1, p, e2⟩ := h3.mp h3'
      rw [nf_post hf e1 e2] at q'
      have el : natsD k.t.l = .int 3 :: .int (p : Int) :: natsD (ownL k.t.de) := by
        unfold Tl.l
        rw [e1, e2]
        rfl
      exact onT (by show PyData.eqv (.int (x : Int)) (.int 3) = true; rw [h3']; rfl) ⟨_, rfl, _, rfl, _, rfl, .int (p : Int), by rw [el]; exact at1, fit (by rfl), fit (by rfl), q'⟩
    · rw [nf_else hf (fun z => h3' (h3.mpr z))] at q'
      exact onF (by show PyData.eqv (.int (x : Int)) (.int 3) = false; simp only [PyData.eqv]; rw [beq_eq_false_iff_ne]; omega) ⟨_, rfl, _, rfl, fit (by rfl), q'⟩
def D_next_forerunner : DX := pureD (fun k : Ky => [k.d]) (fun k => k.t.ok) fun k => k.nfo.d
theorem pm_next_forerunner : Pm 1 D_next_forerunner := pm_pure fun _ => rfl
theorem wp_next_forerunner (ds : List PyData) (n : Nat) (Q : QN) (h : D_next_forerunner ds n Q) : td_next_forerunner D_is_final_key D_following_key (ends Q) (entry false N_next_forerunner ds n) := by
  obtain ⟨k, rfl, h, q⟩ := h
  have q' : Q k.nfo.d n := q
  unfold Ky.nfo at q'
  refine ⟨_, rfl, k, rfl, h, _, rfl, ?_⟩
  cases hf : k.fin with
  | true =>
    rw [hf] at q'
    exact onT rfl ⟨_, rfl, k, rfl, h, q'⟩
  | false =>
    rw [hf] at q'
    exact onF rfl ⟨_, rfl, q'⟩
def D_within : DX := pureD (fun a : List Nat × Nat => [.tuple (natsD a.1), .int (a.2 : Int)]) (fun a => a.1.length ≤ 1000 ∧ a.2 ≤ 1000) fun a => .tuple (natsD (a.1 ++ List.replicate a.2 0 ++ [1]))
theorem pm_within : Pm 2 D_within := pm_pure fun _ => rfl
theorem rep0 (k : Nat) : (List.replicate k [PyData.int 0]).flatten = natsD (List.replicate k 0) := by
  unfold natsD
  rw [List.map_replicate]
  induction k with
  | zero => rfl
  | succ k ih => rw [List.replicate_succ, List.flatten_cons, ih]; rfl
theorem natsD_app (a b : List Nat) : natsD a ++ natsD b = natsD (a ++ b) := by unfold natsD; rw [List.map_append]
theorem wp_within (ds : List PyData) (n : Nat) (Q : QN) (h : D_within ds n Q) : td_within (ends Q) (entry false N_within ds n) := by
  obtain ⟨⟨b, k⟩, rfl, ⟨h1, h2⟩, q⟩ := h
  have h1' : b.length ≤ 1000 := h1
  have h2' : k ≤ 1000 := h2
  refine ⟨_, rfl, fit (by rfl), _, rfl, by simp, by show (0 : Int) ≤ (k : Int); omega, by show (k : Int) ≤ 1000; omega, by show 1 ≤ 1000; decide, ?_⟩
  show addR (.tuple (natsD b)) (.tuple (List.replicate k [PyData.int 0]).flatten) _
  rw [rep0]
  refine ⟨by rw [natsD_len, natsD_len, List.length_replicate, sizeLine_eq]; omega, ?_⟩
  rw [natsD_app]
  refine ⟨fit (by rfl), by show (natsD (b ++ List.replicate k 0)).length + 1 ≤ _; rw [natsD_len, List.length_append, List.length_replicate, sizeLine_eq]; omega, ?_⟩
  show Q (.tuple (natsD (b ++ List.replicate k 0) ++ natsD [1])) n
  rw [natsD_app]
  exact q
def D_nearer : DX := pureD (fun a : Cut × Option Cut => [a.1.d, endD a.2]) (fun a => a.1.b.length ≤ 1000 ∧ ∀ h, a.2 = some h → h.b.length ≤ 1000) fun a => (nearer a.1 a.2).d
theorem pm_nearer : Pm 2 D_nearer := pm_pure fun _ => rfl
theorem wp_nearer (ds : List PyData) (n : Nat) (Q : QN) (h : D_nearer ds n Q) : td_nearer D_within (ends Q) (entry false N_nearer ds n) := by
  obtain ⟨⟨c, h⟩, rfl, ⟨h1, h2⟩, q⟩ := h
  have h1' : c.b.length ≤ 1000 := h1
  have q' : Q (nearer c h).d n := q
  refine ⟨_, rfl, _, rfl, _, _, rfl, _, _, rfl, _, _, rfl, rfl, ?_⟩
  cases h with
  | none =>
    exact ⟨_, rfl, rfl, _, rfl, _, rfl, _, rfl, _, rfl, (c.b, 0), rfl, ⟨h1', Nat.zero_le _⟩, fit (by rfl), q'⟩
  | some h =>
    have h2' : h.b.length ≤ 1000 := h2 h rfl
    refine ⟨_, rfl, rfl, _, rfl, _, rfl, _, rfl, _, rfl, _, _, rfl, ?_, ?_, ?_⟩
    · refine ⟨fun x hx y hy => ?_, fun x hx => ?_⟩
      · simp only [List.mem_cons, List.not_mem_nil, or_false] at hx hy
        rcases hx with rfl | rfl <;> rcases hy with rfl | rfl <;> rfl
      · simp only [List.mem_cons, List.not_mem_nil, or_false] at hx
        rcases hx with rfl | rfl <;> simp
    · exact Nat.le_of_ble_eq_true rfl
    · have e : (if dataLt (.int 0) (.int (((natsD h.b).length : Nat) - ((natsD c.b).length : Nat) : Int)) = true then PyData.int (((natsD h.b).length : Nat) - ((natsD c.b).length : Nat) : Int) else .int 0) = .int ((h.b.length - c.b.length : Nat) : Int) := by
        rw [PySem.W.dataLt_int, natsD_len, natsD_len]
        by_cases hc : c.b.length < h.b.length
        · rw [if_pos (by rw [decide_eq_true_iff]; omega)]
          congr 1
          omega
        · rw [if_neg (by rw [decide_eq_true_iff]; omega)]
          congr 1
          omega
      show dRet (dTup (dCons (dVar 2) (dCons (dCall D_within (dCons (dVar 3) (dCons (dVar 5) dNil))) (dCons (dC c_FINAL_TAIL) dNil)))) (ends Q) ⟨[.d c.d, .d h.d, .d (.int (c.ep : Int)), .d (.tuple (natsD c.b)), .d (.tuple (natsD c.l)), .d (if dataLt (.int 0) (.int (((natsD h.b).length : Nat) - ((natsD c.b).length : Nat) : Int)) = true then PyData.int (((natsD h.b).length : Nat) - ((natsD c.b).length : Nat) : Int) else .int 0)], n⟩
      rw [e]
      exact ⟨_, rfl, _, rfl, _, rfl, (c.b, h.b.length - c.b.length), rfl, ⟨h1', by show h.b.length - c.b.length ≤ 1000; omega⟩, fit (by rfl), q'⟩
end V

set_option Elab.async false
set_option linter.all false
set_option maxRecDepth 100000
set_option maxHeartbeats 4000000
namespace V
open PySem PySem.Spec PyProof.Rows L2 DL
open PySem.W (alike alikeAll dataLt)
open TL (numL joinL tl)
theorem nf_ok {k : Ky} (h : k.t.ok) : k.nf.t.ok := by
  unfold Ky.nf
  split
  · exact h
  · split
    · exact fun i n e => nomatch e
    · exact fun i n e => nomatch e
theorem nfo_ok {k : Ky} (h : k.t.ok) : k.nfo.t.ok := by
  unfold Ky.nfo
  split
  · exact fol_ok h
  · exact h
theorem nf_b (k : Ky) : k.nf.b = k.b := by
  unfold Ky.nf
  split
  · rfl
  · split <;> rfl
theorem nfo_b (k : Ky) : k.nfo.b = k.b := by
  unfold Ky.nfo
  split <;> rfl
theorem near_ok (c : Cut) (h : Option Cut) : (nearer c h).t.ok := fun i n e => nomatch e
theorem near_len {m : Nat} {c : Cut} {h : Option Cut} (h1 : c.Ok m) (h2 : EndOk m h) : (nearer c h).b.length ≤ m + 1 := by
  have := h1.ln
  cases h with
  | none =>
    show (c.b ++ List.replicate 0 0 ++ [1]).length ≤ m + 1
    simp only [List.length_append, List.length_replicate, List.length_cons, List.length_nil]
    omega
  | some h =>
    have := (h2 h rfl).ln
    show (c.b ++ List.replicate (h.b.length - c.b.length) 0 ++ [1]).length ≤ m + 1
    simp only [List.length_append, List.length_replicate, List.length_cons, List.length_nil]
    omega
theorem below_le {k : Ky} {h : Option Cut} : below k h = true ↔ h = none ∨ ∃ c, h = some c ∧ k.cut.lt c = true := by
  cases h with
  | none => simp [below]
  | some c => simp [below]
def D_first_in : DX := pureD (fun a : Span × Bool => [a.1.d, .bool a.2]) (fun a => SpanOk 900 a.1) fun a => okD (firstIn a.1 a.2)
theorem pm_first_in : Pm 2 D_first_in := pm_pure fun _ => rfl
theorem first_ok {m : Nat} {s : Span} {f : Bool} {k : Ky} (h : SpanOk m s) (e : firstIn s f = some k) : k.cut.Ok (m + 1) := by
  obtain ⟨⟨ep, b, t⟩, hi⟩ := s
  obtain ⟨h1, h2⟩ := h
  unfold firstIn at e
  cases t with
  | none =>
    have e' := Option.some.inj e
    have hl := near_len h1 h2
    cases f with
    | true => rw [if_pos rfl] at e'; subst e'; exact ⟨hl, fun t z => Option.some.inj z ▸ near_ok _ _⟩
    | false => rw [if_neg Bool.false_ne_true] at e'; subst e'; exact ⟨hl, fun t z => Option.some.inj z ▸ fol_ok (near_ok _ _)⟩
  | some t =>
    have ht : (Ky.mk ep b t).t.ok := h1.t t rfl
    have hb := h1.ln
    cases f with
    | true =>
      have e' : (if below (Ky.mk ep b t).nf hi = true then some (Ky.mk ep b t).nf else none) = some k := e
      split at e'
      · have e2 := Option.some.inj e'
        subst e2
        exact ⟨by show (Ky.mk ep b t).nf.b.length ≤ m + 1; rw [nf_b]; exact Nat.le_succ_of_le hb, fun t z => Option.some.inj z ▸ nf_ok ht⟩
      · cases e'
    | false =>
      have e' : (if below (Ky.mk ep b t).nfo hi = true then some (Ky.mk ep b t).nfo else none) = some k := e
      split at e'
      · have e2 := Option.some.inj e'
        subst e2
        exact ⟨by show (Ky.mk ep b t).nfo.b.length ≤ m + 1; rw [nfo_b]; exact Nat.le_succ_of_le hb, fun t z => Option.some.inj z ▸ nfo_ok ht⟩
      · cases e'
theorem wp_first_in (ds : List PyData) (n : Nat) (Q : QN) (h : D_first_in ds n Q) : td_first_in D_is_after D_nearer D_following_key D_next_final D_next_forerunner (ends Q) (entry false N_first_in ds n) := by
  obtain ⟨⟨⟨⟨ep, b, t⟩, hi⟩, f⟩, rfl, ⟨h1, h2⟩, q⟩ := h
  have q' : Q (okD (firstIn (⟨ep, b, t⟩, hi) f)) n := q
  have hl1 : b.length ≤ 1000 := Nat.le_trans h1.ln (by decide)
  have hl2 : ∀ h, hi = some h → h.b.length ≤ 1000 := fun h e => Nat.le_trans (h2 h e).ln (by decide)
  unfold firstIn at q'
  refine ⟨_, rfl, _, rfl, _, _, rfl, _, _, rfl, rfl, ?_⟩
  refine ⟨_, rfl, ⟨ep, b, t⟩, rfl, trivial, _, rfl, ?_⟩
  cases t with
  | none =>
    refine onT rfl ⟨_, rfl, _, rfl, (⟨ep, b, none⟩, hi), rfl, ⟨hl1, hl2⟩, _, rfl, _, rfl, ?_⟩
    cases f with
    | true => exact onT rfl ⟨_, rfl, q'⟩
    | false => exact onF rfl ⟨_, rfl, nearer ⟨ep, b, none⟩ hi, rfl, near_ok _ _, q'⟩
  | some t =>
    have ht : (Ky.mk ep b t).t.ok := h1.t t rfl
    refine onF rfl ⟨_, rfl, _, rfl, ?_⟩
    have fin : ∀ k : Ky, Q (okD (if below k hi = true then some k else none)) n → (dRet (dIf (dOr (dTest (dOp isR (dVar 3) (dC .none))) (dTest (dOp ltR (dVar 4) (dVar 3)))) (dVar 4) (dC .none))) (ends Q) ⟨[.d (Span.d (⟨ep, b, some t⟩, hi)), .d (.bool f), .d (Cut.d ⟨ep, b, some t⟩), .d (endD hi), .d k.d], n⟩ := fun k hk => by
      cases hi with
      | none => exact ⟨_, rfl, rfl, _, rfl, _, rfl, hk⟩
      | some h =>
        refine ⟨_, rfl, rfl, _, rfl, _, rfl, _, rfl, alike_cut k.cut h, cut_ne k.cut, depth_cut k.cut, _, rfl, ?_⟩
        show if dataLt k.d h.d = true then _ else _
        rw [lt_key']
        have hk' : Q (okD (if k.cut.lt h = true then some k else none)) n := hk
        cases hb : k.cut.lt h with
        | true => rw [hb] at hk'; exact onT rfl ⟨_, rfl, hk'⟩
        | false => rw [hb] at hk'; exact onF rfl hk'
    cases f with
    | true => exact onT rfl ⟨_, rfl, ⟨ep, b, t⟩, rfl, ht, fin _ q'⟩
    | false => exact onF rfl ⟨_, rfl, ⟨ep, b, t⟩, rfl, ht, fin _ q'⟩
def D_above : DX := pureD (fun a : Span × Ky × Bool => [a.1.d, a.2.1.d, .bool a.2.2]) (fun a => SpanOk 800 a.1 ∧ a.2.1.cut.Ok 900) fun a => okD (above a.1 a.2.1 a.2.2)
theorem pm_above : Pm 3 D_above := pm_pure fun _ => rfl
theorem wp_above (ds : List PyData) (n : Nat) (Q : QN) (h : D_above ds n Q) : td_above D_following_key D_first_in (ends Q) (entry false N_above ds n) := by
  obtain ⟨⟨⟨lo, hi⟩, k, f⟩, rfl, ⟨⟨h1, h2⟩, h3⟩, q⟩ := h
  have q' : Q (okD (above (lo, hi) k f)) n := q
  have h3' : k.cut.Ok 900 := h3
  unfold above at q'
  have o1 : lo.Ok 900 := ⟨Nat.le_trans h1.ln (by decide), h1.t⟩
  have o2 : EndOk 900 hi := fun c e => ⟨Nat.le_trans (h2 c e).ln (by decide), (h2 c e).t⟩
  refine ⟨_, rfl, _, rfl, _, _, rfl, _, _, rfl, rfl, ?_⟩
  -- from the start on
  have last : ∀ c : Cut, c.Ok 900 → Q (okD (if closed hi c = true then none else firstIn (c, hi) f)) n → (dSeq (dIfS (dAnd (dTest (dOp isntR (dVar 4) (dC .none))) (dTest (dOp leR (dVar 4) (dVar 5)))) (dRet (dC .none)) dNext)
  (dRet (dCall D_first_in (dCons (dTup (dCons (dVar 5) (dCons (dVar 4) dNil))) (dCons (dVar 2) dNil))))) (ends Q) ⟨[.d (Span.d (lo, hi)), .d k.d, .d (.bool f), .d lo.d, .d (endD hi), .d c.d], n⟩ := fun c hc hq => by
    cases hi with
    | none => exact ⟨_, rfl, rfl, _, rfl, _, rfl, _, rfl, fit (by rfl), _, rfl, ((c, none), f), rfl, ⟨hc, o2⟩, hq⟩
    | some h =>
      refine ⟨_, rfl, rfl, _, rfl, _, rfl, _, rfl, alike_cut _ _, cut_ne _, depth_cut _, _, rfl, ?_⟩
      show if (!dataLt c.d h.d) = true then _ else _
      rw [lt_key]
      have hq' : Q (okD (if (!c.lt h) = true then none else firstIn (c, some h) f)) n := hq
      cases hb : c.lt h with
      | true => rw [hb] at hq'; exact onF rfl ⟨_, rfl, _, rfl, fit (by rfl), _, rfl, ((c, some h), f), rfl, ⟨hc, o2⟩, hq'⟩
      | false => rw [hb] at hq'; exact onT rfl hq'
  have mid : Q (okD (if closed hi (if k.cut.lt lo then lo else k.fol.cut) = true then none else firstIn (if k.cut.lt lo then lo else k.fol.cut, hi) f)) n → (dSeq (dAsg (dIf (dTest (dOp gtR (dVar 3) (dVar 1))) (dVar 3) (dCall D_following_key (dCons (dVar 1) dNil))) (gdName 5))
  (dSeq (dIfS (dAnd (dTest (dOp isntR (dVar 4) (dC .none))) (dTest (dOp leR (dVar 4) (dVar 5)))) (dRet (dC .none)) dNext)
  (dRet (dCall D_first_in (dCons (dTup (dCons (dVar 5) (dCons (dVar 4) dNil))) (dCons (dVar 2) dNil)))))) (ends Q) ⟨[.d (Span.d (lo, hi)), .d k.d, .d (.bool f), .d lo.d, .d (endD hi), .un], n⟩ := fun hq => by
    refine ⟨_, rfl, _, rfl, alike_cut lo k.cut, cut_ne _, depth_cut _, _, rfl, ?_⟩
    show if dataLt k.d lo.d = true then _ else _
    rw [lt_key']
    cases hb : k.cut.lt lo with
    | true => rw [hb] at hq; exact onT rfl ⟨_, rfl, last lo o1 hq⟩
    | false =>
      rw [hb] at hq
      have hk : k.t.ok := h3'.t k.t rfl
      exact onF rfl ⟨_, rfl, k, rfl, hk, last k.fol.cut ⟨h3'.ln, fun t e => Option.some.inj e ▸ fol_ok hk⟩ hq⟩
  cases hi with
  | none => exact ⟨_, rfl, rfl, _, rfl, mid q'⟩
  | some h =>
    refine ⟨_, rfl, rfl, _, rfl, _, rfl, _, rfl, alike_cut h k.cut, cut_ne h, depth_cut h, _, rfl, ?_⟩
    show if (!dataLt k.d h.d) = true then _ else _
    rw [lt_key']
    have hq' : Q (okD (if (!k.cut.lt h) = true then none else if closed (some h) (if k.cut.lt lo then lo else k.fol.cut) = true then none else firstIn (if k.cut.lt lo then lo else k.fol.cut, some h) f)) n := q'
    cases hb : k.cut.lt h with
    | true => rw [hb] at hq'; exact onF rfl (mid hq')
    | false => rw [hb] at hq'; exact onT rfl hq'
end V

set_option Elab.async false
set_option linter.all false
set_option maxRecDepth 100000
set_option maxHeartbeats 4000000
namespace V
open PySem PySem.Spec PyProof.Rows L2 DL
open PySem.W (alike alikeAll dataLt)
open TL (numL joinL tl)
def prD : Option (Ky × Ky) → PyData
  | none => .none
  | some z => .tuple [z.1.d, z.2.d]
def D_lesser_forerunner : DX := fun _ _ _ => False
theorem pm_lesser_forerunner : Pm 2 D_lesser_forerunner := ⟨fun _ _ _ _ _ h => False.elim h, fun _ _ _ h => False.elim h⟩
def D_pair_behind : DX := pureD (fun a : Span × List Span => [a.1.d, .bool true, spsD a.2, .bool false]) (fun a => SpanOk 20 a.1 ∧ ∀ o ∈ a.2, SpanOk 20 o) fun a => prD (behind a.1 a.2)
theorem pm_pair_behind : Pm 4 D_pair_behind := pm_pure fun _ => rfl
theorem Cut.Ok.mono {m m' : Nat} {c : Cut} (h : c.Ok m) (hm : m ≤ m') : c.Ok m' := ⟨Nat.le_trans h.ln hm, h.t⟩
theorem EndOk.mono {m m' : Nat} {h : Option Cut} (h1 : EndOk m h) (hm : m ≤ m') : EndOk m' h := fun c e => (h1 c e).mono hm
theorem SpanOk.mono {m m' : Nat} {s : Span} (h : SpanOk m s) (hm : m ≤ m') : SpanOk m' s := ⟨h.1.mono hm, h.2.mono hm⟩
def bndOf (g : Ky) (h : Option Cut) : Option Cut := match h with
  | none => some g.cut
  | some h => if g.cut.lt h then some g.cut else some h
theorem behind_cons (s o : Span) (os : List Span) : behind s (o :: os) = if closed o.2 s.1 then behind s os else
      match firstIn (if s.1.lt o.1 then o.1 else s.1, o.2) false with
      | none => behind s os
      | some g => some (nearer s.1 (bndOf g s.2), g) := rfl
def phC : TDS := (dSeq (dAsg (dCall D_nearer (dCons (dOp ixR (dVar 0) (dC (.int 0))) (dCons (dVar 9) dNil))) (gdName 10))
  (dRet (dTup (dCons (dIf (dTest (dVar 1)) (dVar 10) (dCall D_lesser_forerunner (dCons (dOp ixR (dVar 0) (dC (.int 0))) (dCons (dVar 9) dNil)))) (dCons (dVar 8) dNil)))))
def phB : TDS := (dIfS (dTest (dOp isntR (dVar 8) (dC .none))) (dSeq (dAsg (dIf (dOr (dTest (dOp isR (dOp ixR (dVar 0) (dC (.int 1))) (dC .none))) (dTest (dOp ltR (dVar 8) (dOp ixR (dVar 0) (dC (.int 1)))))) (dVar 8) (dOp ixR (dVar 0) (dC (.int 1)))) (gdName 9)) phC) dNext)
def phA2 : TDS := (dSeq (dAsg (dCall D_first_in (dCons (dTup (dCons (dVar 7) (dCons (dVar 6) dNil))) (dCons (dVar 3) dNil))) (gdName 8)) phB)
def phA1 : TDS := (dSeq (dAsg (dIf (dTest (dOp gtR (dVar 5) (dOp ixR (dVar 0) (dC (.int 0))))) (dVar 5) (dOp ixR (dVar 0) (dC (.int 0)))) (gdName 7)) phA2)
def phBody : TDS := (dSeq (dAsg (dVar 4) (gdTup (gdCons (gdName 5) (gdCons (gdName 6) gdNil))))
  (dSeq (dIfS (dAnd (dTest (dOp isntR (dVar 6) (dC .none))) (dTest (dOp leR (dVar 6) (dOp ixR (dVar 0) (dC (.int 0)))))) dCont dNext) phA1))
def phS (s : Span) (x : PyData) (n : Nat) (s4 s5 s6 s7 s8 s9 s10 : Sl) : DS := ⟨[.d s.d, .d (.bool true), .d x, .d (.bool false), s4, s5, s6, s7, s8, s9, s10], n⟩
theorem phC_ok {D : DEnds} {n : Nat} {x : PyData} {s : Span} {g : Ky} {b : Option Cut} {o4 o5 o6 o7 o10 : Sl} (hs : SpanOk 20 s) (hb : EndOk 21 b) (q : ∀ r, D.rt (.tuple [(nearer s.1 b).d, g.d]) ⟨r, n⟩) : phC D (phS s x n o4 o5 o6 o7 (.d g.d) (.d (endD b)) o10) :=
  ⟨_, rfl, _, rfl, _, rfl, (s.1, b), rfl, ⟨Nat.le_trans hs.1.ln (by decide), fun h e => Nat.le_trans (hb h e).ln (by decide)⟩, _, rfl, _, rfl, _, rfl, _, rfl, fit (by rfl), q _⟩
theorem phB_none {D : DEnds} {n : Nat} {x : PyData} {s : Span} {o4 o5 o6 o7 o9 o10 : Sl} (q : ∀ o4 o5 o6 o7 o8 o9 o10, D.nx (phS s x n o4 o5 o6 o7 o8 o9 o10)) : phB D (phS s x n o4 o5 o6 o7 (.d .none) o9 o10) := ⟨_, rfl, rfl, _, rfl, q _ _ _ _ _ _ _⟩
theorem phB_some {D : DEnds} {n : Nat} {x : PyData} {s : Span} {g : Ky} {o4 o5 o6 o7 o9 o10 : Sl} (hs : SpanOk 20 s) (hg : g.cut.Ok 21) (q : ∀ r, D.rt (.tuple [(nearer s.1 (bndOf g s.2)).d, g.d]) ⟨r, n⟩) : phB D (phS s x n o4 o5 o6 o7 (.d g.d) o9 o10) := by
  obtain ⟨sl, sh⟩ := s
  refine ⟨_, rfl, rfl, _, rfl, ?_⟩
  cases sh with
  | none => exact ⟨_, rfl, _, rfl, rfl, _, rfl, _, rfl, phC_ok (b := some g.cut) hs (EndOk.some hg) q⟩
  | some h =>
    refine ⟨_, rfl, _, rfl, rfl, _, rfl, _, rfl, _, rfl, _, rfl, alike_cut g.cut h, cut_ne g.cut, depth_cut g.cut, _, rfl, ?_⟩
    have e : bndOf g (some h) = if g.cut.lt h = true then some g.cut else some h := rfl
    show if dataLt g.d h.d = true then _ else _
    rw [lt_key']
    cases hb : g.cut.lt h with
    | true =>
      rw [hb, if_pos rfl] at e
      rw [show bndOf g (sl, some h).2 = some g.cut from e] at q
      exact onT rfl ⟨_, rfl, phC_ok (b := some g.cut) hs (EndOk.some hg) q⟩
    | false =>
      rw [hb, if_neg Bool.false_ne_true] at e
      rw [show bndOf g (sl, some h).2 = some h from e] at q
      exact onF rfl ⟨_, rfl, _, rfl, phC_ok (b := some h) hs ((hs.2).mono (by decide)) q⟩
theorem phA2_ok {D : DEnds} {n : Nat} {x : PyData} {s : Span} {c : Cut} {hi : Option Cut} {o4 o5 o8 o9 o10 : Sl} (hs : SpanOk 20 s) (ho : SpanOk 20 (c, hi)) (q0 : firstIn (c, hi) false = none → ∀ o4 o5 o6 o7 o8 o9 o10, D.nx (phS s x n o4 o5 o6 o7 o8 o9 o10))
    (q1 : ∀ g, firstIn (c, hi) false = some g → ∀ r, D.rt (.tuple [(nearer s.1 (bndOf g s.2)).d, g.d]) ⟨r, n⟩) : phA2 D (phS s x n o4 o5 (.d (endD hi)) (.d c.d) o8 o9 o10) := by
  refine ⟨_, rfl, _, rfl, fit (by rfl), _, rfl, ((c, hi), false), rfl, ho.mono (by decide), ?_⟩
  show phB D (phS s x n o4 o5 (.d (endD hi)) (.d c.d) (.d (okD (firstIn (c, hi) false))) o9 o10)
  cases hf : firstIn (c, hi) false with
  | none => exact phB_none (q0 hf)
  | some g => exact phB_some hs (first_ok (m := 20) ho hf) (q1 g hf)
theorem phA1_ok {D : DEnds} {n : Nat} {x : PyData} {s : Span} {lo : Cut} {hi : Option Cut} {o4 o7 o8 o9 o10 : Sl} (hs : SpanOk 20 s) (ho : SpanOk 20 (lo, hi)) (q0 : firstIn (if s.1.lt lo then lo else s.1, hi) false = none → ∀ o4 o5 o6 o7 o8 o9 o10, D.nx (phS s x n o4 o5 o6 o7 o8 o9 o10))
    (q1 : ∀ g, firstIn (if s.1.lt lo then lo else s.1, hi) false = some g → ∀ r, D.rt (.tuple [(nearer s.1 (bndOf g s.2)).d, g.d]) ⟨r, n⟩) : phA1 D (phS s x n o4 (.d lo.d) (.d (endD hi)) o7 o8 o9 o10) := by
  refine ⟨_, rfl, _, rfl, _, rfl, alike_cut lo s.1, cut_ne lo, depth_cut lo, _, rfl, ?_⟩
  show if dataLt s.1.d lo.d = true then _ else _
  rw [lt_key]
  cases hb : s.1.lt lo with
  | true =>
    rw [hb, if_pos rfl] at q0 q1
    exact onT rfl ⟨_, rfl, phA2_ok hs ho q0 q1⟩
  | false =>
    rw [hb, if_neg Bool.false_ne_true] at q0 q1
    exact onF rfl ⟨_, rfl, _, rfl, phA2_ok hs ⟨hs.1, ho.2⟩ q0 q1⟩
theorem phBody_ok {D : DEnds} {n : Nat} {x : PyData} {s : Span} {lo : Cut} {hi : Option Cut} {o5 o6 o7 o8 o9 o10 : Sl} (hs : SpanOk 20 s) (ho : SpanOk 20 (lo, hi)) (qc : closed hi s.1 = true → ∀ o4 o5 o6 o7 o8 o9 o10, D.ct (phS s x n o4 o5 o6 o7 o8 o9 o10)) (q0 : closed hi s.1 = false → firstIn (if s.1.lt lo then lo else s.1, hi) false = none → ∀ o4 o5 o6 o7 o8 o9 o10, D.nx (phS s x n o4 o5 o6 o7 o8 o9 o10))
    (q1 : closed hi s.1 = false → ∀ g, firstIn (if s.1.lt lo then lo else s.1, hi) false = some g → ∀ r, D.rt (.tuple [(nearer s.1 (bndOf g s.2)).d, g.d]) ⟨r, n⟩) : phBody D (phS s x n (.d (Span.d (lo, hi))) o5 o6 o7 o8 o9 o10) := by
  refine ⟨_, rfl, _, rfl, _, _, rfl, _, _, rfl, rfl, ?_⟩
  cases hi with
  | none => exact ⟨_, rfl, rfl, _, rfl, phA1_ok hs ho (q0 rfl) (q1 rfl)⟩
  | some h =>
    refine ⟨_, rfl, rfl, _, rfl, _, rfl, _, rfl, _, rfl, alike_cut h s.1, cut_ne h, depth_cut h, _, rfl, ?_⟩
    have e : closed (some h) s.1 = !s.1.lt h := rfl
    show if (!dataLt s.1.d h.d) = true then _ else _
    rw [lt_key]
    cases hb : s.1.lt h with
    | true => exact onF rfl (phA1_ok hs ho (q0 (by rw [e, hb]; rfl)) (q1 (by rw [e, hb]; rfl)))
    | false => exact onT rfl (qc (by rw [e, hb]; rfl) _ _ _ _ _ _ _)
theorem behind_go {n : Nat} {x : PyData} {D : DEnds} {s : Span} (hs : SpanOk 20 s) : ∀ (up : List Span) (o4 o5 o6 o7 o8 o9 o10 : Sl), (∀ o ∈ up, SpanOk 20 o) →
    (behind s up = none → ∀ o4 o5 o6 o7 o8 o9 o10, D.nx (phS s x n o4 o5 o6 o7 o8 o9 o10)) → (∀ z, behind s up = some z → ∀ r, D.rt (prD (some z)) ⟨r, n⟩) →
    forGo (gdName 4) phBody D (up.map Span.d) (phS s x n o4 o5 o6 o7 o8 o9 o10)
  | [], o4, o5, o6, o7, o8, o9, o10, h, q, qr => q rfl _ _ _ _ _ _ _
  | (lo, hi) :: up, o4, o5, o6, o7, o8, o9, o10, h, q, qr => by
    have hup : ∀ o ∈ up, SpanOk 20 o := fun z hz => h z (List.mem_cons_of_mem _ hz)
    rw [behind_cons] at q qr
    refine phBody_ok hs (h (lo, hi) List.mem_cons_self) (fun hc o4 o5 o6 o7 o8 o9 o10 => ?_) (fun hc hf o4 o5 o6 o7 o8 o9 o10 => ?_) (fun hc g hf r => ?_)
    · have hc' : closed (lo, hi).2 s.1 = true := hc
      rw [hc', if_pos rfl] at q qr
      exact behind_go hs up _ _ _ _ _ _ _ hup q qr
    · have hc' : closed (lo, hi).2 s.1 = false := hc
      have hf' : firstIn (if s.1.lt (lo, hi).1 then (lo, hi).1 else s.1, (lo, hi).2) false = none := hf
      rw [hc', if_neg Bool.false_ne_true, hf'] at q qr
      exact behind_go hs up _ _ _ _ _ _ _ hup q qr
    · have hc' : closed (lo, hi).2 s.1 = false := hc
      have hf' : firstIn (if s.1.lt (lo, hi).1 then (lo, hi).1 else s.1, (lo, hi).2) false = some g := hf
      rw [hc', if_neg Bool.false_ne_true, hf'] at qr
      exact qr _ rfl r
theorem wp_pair_behind (ds : List PyData) (n : Nat) (Q : QN) (h : D_pair_behind ds n Q) : td_pair_behind D_first_in D_nearer D_lesser_forerunner (ends Q) (entry false N_pair_behind ds n) := by
  obtain ⟨⟨s, up⟩, rfl, ⟨h1, h2⟩, q⟩ := h
  have q' : Q (prD (behind s up)) n := q
  refine ⟨_, rfl, _, rfl, ?_⟩
  refine behind_go (x := spsD up) (n := n) h1 up _ _ _ _ _ _ _ h2 (fun e o4 o5 o6 o7 o8 o9 o10 => ?_) (fun z e r => ?_)
  · rw [e] at q'
    exact q'
  · rw [e] at q'
    exact q'
end V

set_option Elab.async false
set_option linter.all false
set_option maxRecDepth 100000
set_option maxHeartbeats 4000000
namespace V
open PySem PySem.Spec PyProof.Rows L2 DL
open PySem.W (alike alikeAll dataLt)
open TL (numL joinL tl)
def D_pair_above : DX := pureD (fun a : List Span × List Span => [spsD a.1, .bool true, spsD a.2, .bool false]) (fun a => (∀ o ∈ a.1, SpanOk 20 o) ∧ (∀ o ∈ a.2, SpanOk 20 o) ∧ a.2.length ≤ 1000) fun a => prD (pairAbove a.1 a.2)
theorem pm_pair_above : Pm 4 D_pair_above := pm_pure fun _ => rfl
def paS (lo x : PyData) (n : Nat) (s4 s5 s6 s7 s8 s9 : Sl) : DS := ⟨[.d lo, .d (.bool true), .d x, .d (.bool false), s4, s5, s6, s7, s8, s9], n⟩
theorem shaped_keys (ks : List Ky) : SeqAt.shaped (.list (ks.map Ky.d)) = true := by
  have h1 : PyData.canLayAll0 (ks.map Ky.d) = true := by
    induction ks with
    | nil => rfl
    | cons k ks ih =>
      have hk : PyData.canLay0 k.d = true := by
        show PyData.canLay0 (keyD k.ep k.b k.t.l) = true
        unfold keyD
        simp only [PyData.canLay0, PyData.canLayAll0, lay_nats, Bool.and_self]
      rw [List.map_cons]
      simp only [PyData.canLayAll0, hk, ih, Bool.and_self]
  have h2 : PyData.depthAll (ks.map Ky.d) ≤ 2 := by
    induction ks with
    | nil => exact Nat.zero_le _
    | cons k ks ih =>
      have hk : k.d.depth = 2 := depth_key _ _ _
      rw [List.map_cons]
      simp only [PyData.depthAll, hk]
      have := ih (by rw [List.map_cons] at h1; simp only [PyData.canLayAll0, Bool.and_eq_true] at h1; exact h1.2)
      omega
  refine Bool.and_eq_true_iff.mpr ⟨h1, decide_eq_true ?_⟩
  simp only [PyData.depth]
  omega
theorem keys_nil (ks : List Ky) : PyData.eqv (.list (ks.map Ky.d)) (.list []) = ks.isEmpty := by
  cases ks <;> rfl
theorem keep_map (f : Span → Option Ky) : ∀ up : List Span, (up.filter fun o => (f o).isSome).map (fun o => okD (f o)) = (up.filterMap f).map Ky.d
  | [] => rfl
  | o :: up => by
    have ih := keep_map f up
    cases h : f o with
    | none =>
      rw [List.filter_cons_of_neg (by rw [h]; exact Bool.false_ne_true), List.filterMap_cons_none h]
      exact ih
    | some k =>
      rw [List.filter_cons_of_pos (by rw [h]; rfl), List.filterMap_cons_some h, List.map_cons, List.map_cons, h, ih]
      rfl
def paF : TDS := (dIfS (dTest (dCall D_is_after (dCons (dOp ixR (dVar 4) (dC (.int 0))) dNil))) (dAsg (dCall D_pair_behind (dCons (dVar 4) (dCons (dVar 1) (dCons (dVar 2) (dCons (dVar 3) dNil))))) (gdName 5)) (dSeq (dAsg (dCall D_first_in (dCons (dVar 4) (dCons (dVar 1) dNil))) (gdName 6))
  (dSeq (dAsg (dIf (dTest (dOp isR (dVar 6) (dC .none))) (dLst dNil) (dFrz (dLc (diL (dVar 2)) (gdName 8) dYes (dCall D_above (dCons (dVar 8) (dCons (dVar 6) (dCons (dVar 3) dNil)))) [8]))) (gdName 7))
  (dSeq (dAsg (dFrz (dLc (diL (dVar 7)) (gdName 9) (dTest (dOp isntR (dVar 9) (dC .none))) (dVar 9) [9])) (gdName 7))
  (dAsg (dIf (dTest (dOp neR (dVar 7) (dLst dNil))) (dTup (dCons (dVar 6) (dCons (dOp ixR (dVar 7) (dC (.int 0))) dNil))) (dC .none)) (gdName 5))))))
def paBody : TDS := dSeq paF (dIfS (dTest (dOp isntR (dVar 5) (dC .none))) (dRet (dVar 5)) dNext)
theorem paF_ok {D : DEnds} {n : Nat} {lo : PyData} {s : Span} {up : List Span} {o5 o6 o7 o8 o9 : Sl} (hs : SpanOk 20 s) (hu : ∀ o ∈ up, SpanOk 20 o) (hl : up.length ≤ 1000) (q : ∀ o6 o7, D.nx (paS lo (spsD up) n (.d s.d) (.d (prD (pairIn s up))) o6 o7 o8 o9)) : paF D (paS lo (spsD up) n (.d s.d) o5 o6 o7 o8 o9) := by
  obtain ⟨⟨ep, b, t⟩, hi⟩ := s
  refine ⟨_, rfl, _, rfl, ⟨ep, b, t⟩, rfl, trivial, _, rfl, ?_⟩
  cases t with
  | none => exact onT rfl ⟨_, rfl, _, rfl, _, rfl, _, rfl, ((⟨ep, b, none⟩, hi), up), rfl, ⟨hs, hu⟩, q _ _⟩
  | some t =>
    refine onF rfl ⟨_, rfl, _, rfl, ((⟨ep, b, some t⟩, hi), true), rfl, hs.mono (by decide), ?_⟩
    have q' : ∀ o6 o7, D.nx (paS lo (spsD up) n (.d (Span.d (⟨ep, b, some t⟩, hi))) (.d (prD (match firstIn (⟨ep, b, some t⟩, hi) true with
      | none => none
      | some k => (up.filterMap fun o => above o k false).head?.map fun g => (k, g)))) o6 o7 o8 o9) := q
    show (dSeq (dAsg (dIf (dTest (dOp isR (dVar 6) (dC .none))) (dLst dNil) (dFrz (dLc (diL (dVar 2)) (gdName 8) dYes (dCall D_above (dCons (dVar 8) (dCons (dVar 6) (dCons (dVar 3) dNil)))) [8]))) (gdName 7))
  (dSeq (dAsg (dFrz (dLc (diL (dVar 7)) (gdName 9) (dTest (dOp isntR (dVar 9) (dC .none))) (dVar 9) [9])) (gdName 7))
  (dAsg (dIf (dTest (dOp neR (dVar 7) (dLst dNil))) (dTup (dCons (dVar 6) (dCons (dOp ixR (dVar 7) (dC (.int 0))) dNil))) (dC .none)) (gdName 5)))) D (paS lo (spsD up) n (.d (Span.d (⟨ep, b, some t⟩, hi))) o5 (.d (okD (firstIn (⟨ep, b, some t⟩, hi) true))) o7 o8 o9)
    cases hf : firstIn (⟨ep, b, some t⟩, hi) true with
    | none =>
      rw [hf] at q'
      exact ⟨_, rfl, rfl, _, rfl, fit (by rfl), _, rfl, _, rfl, fit (by rfl), _, rfl, fit (by rfl), by decide, by decide, _, rfl, q' _ _⟩
    | some k =>
      rw [hf] at q'
      have q2 : ∀ o6 o7, D.nx (paS lo (spsD up) n (.d (Span.d (⟨ep, b, some t⟩, hi))) (.d (prD ((up.filterMap fun o => above o k false).head?.map fun g => (k, g)))) o6 o7 o8 o9) := q'
      have hk := first_ok hs hf
      refine ⟨_, rfl, rfl, _, rfl, _, rfl, _, rfl, by rw [List.length_map, sizeLine_eq]; omega, ?_⟩
      refine lc_pure Span.d (fun _ => true) (fun o => okD (above o k false)) up [] (fun o ho K K0 k1 _ => ⟨_, rfl, _, rfl, _, rfl, (o, k, false), rfl, ⟨(hu o ho).mono (by decide), hk.mono (by decide)⟩, k1 rfl⟩) ?_
      rw [List.nil_append, List.filter_eq_self.mpr (fun _ _ => rfl)]
      refine ⟨_, rfl, _, rfl, by rw [List.length_map, sizeLine_eq]; omega, ?_⟩
      refine lc_pure (fun o => okD (above o k false)) (fun o => (above o k false).isSome) (fun o => okD (above o k false)) up [] (fun o ho K K0 k1 k0 => ?_) ?_
      · refine ⟨_, rfl, rfl, _, rfl, ?_⟩
        cases ha : above o k false with
        | none => exact onF rfl (k0 (by rw [ha]; rfl))
        | some g => exact onT rfl ⟨_, rfl, by have := k1 (by rw [ha]; rfl); rw [ha] at this; exact this⟩
      · rw [List.nil_append, keep_map]
        refine ⟨_, rfl, fit (by rfl), shaped_keys _, by decide, _, rfl, ?_⟩
        show if (!PyData.eqv (.list (List.map Ky.d (up.filterMap fun o => above o k false))) (.list [])) = true then _ else _
        rw [keys_nil]
        cases he : up.filterMap fun o => above o k false with
        | nil =>
          rw [he] at q2
          exact onF rfl (q2 _ _)
        | cons g gs =>
          rw [he] at q2
          exact onT rfl ⟨_, rfl, _, rfl, _, at0, fit (by rfl), q2 _ _⟩
theorem pa_go {n : Nat} {lo : PyData} {D : DEnds} {up : List Span} (hu : ∀ o ∈ up, SpanOk 20 o) (hl : up.length ≤ 1000) : ∀ (ss : List Span) (o4 o5 o6 o7 o8 o9 : Sl), (∀ o ∈ ss, SpanOk 20 o) →
    (pairAbove ss up = none → ∀ o4 o5 o6 o7 o8 o9, D.nx (paS lo (spsD up) n o4 o5 o6 o7 o8 o9)) → (∀ z, pairAbove ss up = some z → ∀ r, D.rt (prD (some z)) ⟨r, n⟩) →
    forGo (gdName 4) paBody D (ss.map Span.d) (paS lo (spsD up) n o4 o5 o6 o7 o8 o9)
  | [], o4, o5, o6, o7, o8, o9, h, q, qr => q rfl _ _ _ _ _ _
  | s :: ss, o4, o5, o6, o7, o8, o9, h, q, qr => by
    have hss : ∀ o ∈ ss, SpanOk 20 o := fun z hz => h z (List.mem_cons_of_mem _ hz)
    have e : pairAbove (s :: ss) up = match pairIn s up with
      | none => pairAbove ss up
      | some z => some z := rfl
    rw [e] at q qr
    refine paF_ok (h s List.mem_cons_self) hu hl fun o6 o7 => ?_
    cases hp : pairIn s up with
    | none =>
      rw [hp] at q qr
      exact ⟨_, rfl, rfl, _, rfl, pa_go hu hl ss _ _ _ _ _ _ hss q qr⟩
    | some z =>
      rw [hp] at qr
      exact ⟨_, rfl, rfl, _, rfl, _, rfl, qr z rfl _⟩
theorem wp_pair_above (ds : List PyData) (n : Nat) (Q : QN) (h : D_pair_above ds n Q) : td_pair_above D_is_after D_pair_behind D_first_in D_above (ends Q) (entry false N_pair_above ds n) := by
  obtain ⟨⟨ss, up⟩, rfl, ⟨h1, h2, h3⟩, q⟩ := h
  have q' : Q (prD (pairAbove ss up)) n := q
  refine ⟨_, rfl, _, rfl, ?_⟩
  refine pa_go (lo := spsD ss) (n := n) h2 h3 ss _ _ _ _ _ _ h1 (fun e o4 o5 o6 o7 o8 o9 => ?_) (fun z e r => ?_)
  · rw [e] at q'
    exact q'
  · rw [e] at q'
    exact q'
def D_is_naming_felt : DX := pureD (fun ss : List Span => [spsD ss]) (fun ss => (∀ o ∈ ss, SpanOk 20 o) ∧ ss.length ≤ 1000) fun ss => prD (pairAbove ss ss)
theorem pm_is_naming_felt : Pm 1 D_is_naming_felt := pm_pure fun _ => rfl
theorem wp_is_naming_felt (ds : List PyData) (n : Nat) (Q : QN) (h : D_is_naming_felt ds n Q) : td_is_naming_felt D_pair_above (ends Q) (entry false N_is_naming_felt ds n) := by
  obtain ⟨ss, rfl, ⟨h1, h2⟩, q⟩ := h
  exact ⟨_, rfl, _, rfl, (ss, ss), rfl, ⟨h1, h1, h2⟩, q⟩
end V

set_option Elab.async false
set_option linter.all false
set_option maxRecDepth 100000
set_option maxHeartbeats 4000000
namespace V
open PySem PySem.Spec PyProof.Rows L2 DL
open PySem.W (alike alikeAll dataLt)
open TL (numL joinL tl)
/-! ### bounds -/
structure Tl.Bd (m : Nat) (t : Tl) : Prop where
  fo : ∀ i n, t.fo = some (i, n) → i < 3 ∧ n ≤ 10 ^ 9 + m
  po : ∀ n, t.po = some n → n ≤ 10 ^ 9 + m
  de : ∀ n, t.de = some n → n ≤ 10 ^ 9 + m
structure Cut.Bd (L m : Nat) (c : Cut) : Prop where
  ep : c.ep ≤ 10 ^ 9
  ln : c.b.length ≤ L
  nb : ∀ n ∈ c.b, n ≤ 10 ^ 9 + 1
  t : ∀ t, c.t = some t → t.Bd m
def EndBd (L m : Nat) (h : Option Cut) : Prop := ∀ c, h = some c → c.Bd L m
def SpanBd (L m : Nat) (s : Span) : Prop := s.1.Bd L m ∧ EndBd L m s.2
theorem Tl.Bd.mono {m m' : Nat} {t : Tl} (h : t.Bd m) (hm : m ≤ m') : t.Bd m' :=
  ⟨fun i n e => ⟨(h.fo i n e).1, Nat.le_trans (h.fo i n e).2 (Nat.add_le_add_left hm _)⟩, fun n e => Nat.le_trans (h.po n e) (Nat.add_le_add_left hm _), fun n e => Nat.le_trans (h.de n e) (Nat.add_le_add_left hm _)⟩
theorem Cut.Bd.mono {L L' m m' : Nat} {c : Cut} (h : c.Bd L m) (hL : L ≤ L') (hm : m ≤ m') : c.Bd L' m' := ⟨h.ep, Nat.le_trans h.ln hL, h.nb, fun t e => (h.t t e).mono hm⟩
theorem EndBd.mono {L L' m m' : Nat} {c : Option Cut} (h : EndBd L m c) (hL : L ≤ L') (hm : m ≤ m') : EndBd L' m' c := fun x e => (h x e).mono hL hm
theorem EndBd.none {L m : Nat} : EndBd L m none := fun _ h => nomatch h
theorem EndBd.some {L m : Nat} {c : Cut} (h : c.Bd L m) : EndBd L m (some c) := fun _ e => Option.some.inj e ▸ h
theorem Tl.Bd.ok {m : Nat} {t : Tl} (h : t.Bd m) : t.ok := fun i n e => (h.fo i n e).1
theorem Cut.Bd.ok {L m : Nat} {c : Cut} (h : c.Bd L m) : c.Ok L := ⟨h.ln, fun t e => (h.t t e).ok⟩
theorem SpanBd.ok {L m : Nat} {s : Span} (h : SpanBd L m s) : SpanOk L s := ⟨h.1.ok, fun c e => (h.2 c e).ok⟩
theorem fol_bd {m : Nat} {t : Tl} (h : t.Bd m) : t.fol.Bd (m + 1) := by
  have hm := h.mono (Nat.le_succ m)
  unfold Tl.fol
  split
  · rename_i d e
    exact ⟨hm.fo, hm.po, fun n e' => by have := Option.some.inj e'; have := h.de _ e; omega⟩
  · refine ⟨hm.fo, fun n e' => ?_, fun n e' => by have := Option.some.inj e'; omega⟩
    have e2 := Option.some.inj e'
    split at e2
    · omega
    · rename_i p e; have := h.po _ e; omega
theorem first_bd (m : Nat) : firstT.Bd m := ⟨fun i n e => (nomatch e), fun n e => (nomatch e), fun n e => by have := Option.some.inj e; omega⟩
theorem plain_bd (m : Nat) : plain.Bd m := ⟨fun i n e => (nomatch e), fun n e => (nomatch e), fun n e => (nomatch e)⟩
theorem least_bd (L m : Nat) : least.Bd L m := ⟨Nat.zero_le _, Nat.zero_le _, fun n h => (nomatch h), fun t e => Option.some.inj e ▸ first_bd m⟩
theorem near_bd {L m m' : Nat} {c : Cut} {h : Option Cut} (h1 : c.Bd L m) (h2 : ∀ x, h = some x → x.b.length ≤ L) : (nearer c h).cut.Bd (L + 1) m' := by
  refine ⟨h1.ep, ?_, fun n hn => ?_, fun t e => Option.some.inj e ▸ plain_bd _⟩
  · have := h1.ln
    cases h with
    | none =>
      show (c.b ++ List.replicate 0 0 ++ [1]).length ≤ L + 1
      simp only [List.length_append, List.length_replicate, List.length_cons, List.length_nil]
      omega
    | some h =>
      have := h2 h rfl
      show (c.b ++ List.replicate (h.b.length - c.b.length) 0 ++ [1]).length ≤ L + 1
      simp only [List.length_append, List.length_replicate, List.length_cons, List.length_nil]
      omega
  · rcases List.mem_append.mp hn with hn | hn
    · rcases List.mem_append.mp hn with hn | hn
      · exact h1.nb n hn
      · have := List.eq_of_mem_replicate hn; omega
    · have := List.mem_singleton.mp hn; omega
theorem nf_bd {L m : Nat} {k : Ky} (h : k.cut.Bd L m) : k.nf.cut.Bd L m := by
  have ht := h.t _ rfl
  cases hf : k.fin with
  | true => rw [nf_fin hf]; exact h
  | false =>
    by_cases hp : k.t.fo = none ∧ ∃ p, k.t.po = some p
    · obtain ⟨e1, p, e2⟩ := hp
      rw [nf_post hf e1 e2]
      exact ⟨h.ep, h.ln, h.nb, fun t e => Option.some.inj e ▸ ⟨fun i n e => (nomatch e), fun n e => Option.some.inj e ▸ ht.po p e2, fun n e => (nomatch e)⟩⟩
    · rw [nf_else hf hp]
      exact ⟨h.ep, h.ln, h.nb, fun t e => Option.some.inj e ▸ plain_bd _⟩
theorem kfol_bd {L m : Nat} {k : Ky} (h : k.cut.Bd L m) : k.fol.cut.Bd L (m + 1) := ⟨h.ep, h.ln, h.nb, fun t e => Option.some.inj e ▸ fol_bd (h.t _ rfl)⟩
theorem nfo_bd {L m : Nat} {k : Ky} (h : k.cut.Bd L m) : k.nfo.cut.Bd L (m + 1) := by
  unfold Ky.nfo
  split
  · exact kfol_bd h
  · exact h.mono (Nat.le_refl _) (Nat.le_succ _)
theorem firstIn_bd {L m : Nat} {s : Span} {f : Bool} {k : Ky} (h1 : s.1.Bd L m) (h2 : ∀ x, s.2 = some x → x.b.length ≤ L) (e : firstIn s f = some k) : k.cut.Bd (L + 1) (m + 1) := by
  obtain ⟨⟨ep, b, t⟩, hi⟩ := s
  unfold firstIn at e
  cases t with
  | none =>
    have e' := Option.some.inj e
    cases f with
    | true => rw [if_pos rfl] at e'; subst e'; exact near_bd h1 h2
    | false => rw [if_neg Bool.false_ne_true] at e'; subst e'; exact kfol_bd (near_bd h1 h2)
  | some t =>
    have hk : (Ky.mk ep b t).cut.Bd L m := h1
    cases f with
    | true =>
      have e' : (if below (Ky.mk ep b t).nf hi = true then some (Ky.mk ep b t).nf else none) = some k := e
      split at e'
      · have e2 := Option.some.inj e'
        subst e2
        exact (nf_bd hk).mono (Nat.le_succ _) (Nat.le_succ _)
      · cases e'
    | false =>
      have e' : (if below (Ky.mk ep b t).nfo hi = true then some (Ky.mk ep b t).nfo else none) = some k := e
      split at e'
      · have e2 := Option.some.inj e'
        subst e2
        exact (nfo_bd hk).mono (Nat.le_succ _) (Nat.le_refl _)
      · cases e'
theorem above_bd {L m : Nat} {s : Span} {k g : Ky} {f : Bool} (hs : SpanBd L m s) (hk : k.cut.Bd (L + 1) (m + 1)) (e : above s k f = some g) : g.cut.Bd (L + 2) (m + 3) := by
  unfold above at e
  have hc : Cut.Bd (L + 1) (m + 2) (if k.cut.lt s.1 = true then s.1 else k.fol.cut) := by
    split
    · exact hs.1.mono (Nat.le_succ _) (by omega)
    · exact kfol_bd hk
  generalize (if k.cut.lt s.1 = true then s.1 else k.fol.cut) = c at e hc
  split at e
  · cases e
  · split at e
    · cases e
    · exact firstIn_bd (L := L + 1) (m := m + 2) (s := (c, s.2)) hc (fun x ex => Nat.le_succ_of_le (hs.2 x ex).ln) e
theorem behind_bd {L m : Nat} {s : Span} (hs : SpanBd L m s) : ∀ {up : List Span} {z : Ky × Ky}, (∀ o ∈ up, SpanBd L m o) → behind s up = some z → z.1.cut.Bd (L + 2) (m + 3) ∧ z.2.cut.Bd (L + 2) (m + 3)
  | [], z, h, e => nomatch e
  | o :: os, z, h, e => by
    rw [behind_cons] at e
    have ho := h o List.mem_cons_self
    have again := fun e => behind_bd (z := z) hs (fun x hx => h x (List.mem_cons_of_mem _ hx)) e
    split at e
    · exact again e
    · split at e
      · exact again e
      · rename_i g hg
        have e' := Option.some.inj e
        subst e'
        have hc : Cut.Bd L m (if s.1.lt o.1 = true then o.1 else s.1) := by
          split
          · exact ho.1
          · exact hs.1
        have gb : g.cut.Bd (L + 1) (m + 1) := firstIn_bd (s := (if s.1.lt o.1 = true then o.1 else s.1, o.2)) hc (fun x ex => (ho.2 x ex).ln) hg
        refine ⟨near_bd (L := L + 1) (hs.1.mono (Nat.le_succ _) (Nat.le_refl _)) (fun x ex => ?_), gb.mono (by omega) (by omega)⟩
        unfold bndOf at ex
        split at ex
        · exact Option.some.inj ex ▸ gb.ln
        · rename_i h' eh
          split at ex
          · exact Option.some.inj ex ▸ gb.ln
          · exact Option.some.inj ex ▸ Nat.le_succ_of_le (hs.2 _ eh).ln
theorem pairIn_bd {L m : Nat} {s : Span} {up : List Span} {z : Ky × Ky} (hs : SpanBd L m s) (hu : ∀ o ∈ up, SpanBd L m o) (e : pairIn s up = some z) : z.1.cut.Bd (L + 2) (m + 3) ∧ z.2.cut.Bd (L + 2) (m + 3) := by
  unfold pairIn at e
  split at e
  · exact behind_bd hs hu e
  · split at e
    · cases e
    · rename_i k hk
      have kb : k.cut.Bd (L + 1) (m + 1) := firstIn_bd hs.1 (fun x ex => (hs.2 x ex).ln) hk
      obtain ⟨g, hg, e2⟩ := Option.map_eq_some_iff.mp e
      subst e2
      obtain ⟨o, ho, eo⟩ := List.mem_filterMap.mp (List.mem_of_mem_head? hg)
      exact ⟨kb.mono (by omega) (by omega), above_bd (hu o ho) kb eo⟩
theorem pairAbove_bd {L m : Nat} {up : List Span} (hu : ∀ o ∈ up, SpanBd L m o) : ∀ {ss : List Span} {z : Ky × Ky}, (∀ o ∈ ss, SpanBd L m o) → pairAbove ss up = some z → z.1.cut.Bd (L + 2) (m + 3) ∧ z.2.cut.Bd (L + 2) (m + 3)
  | [], z, h, e => nomatch e
  | s :: ss, z, h, e => by
    unfold pairAbove at e
    split at e
    · exact pairAbove_bd hu (fun x hx => h x (List.mem_cons_of_mem _ hx)) e
    · rename_i z' hz
      exact Option.some.inj e ▸ pairIn_bd (h s List.mem_cons_self) hu hz
theorem key_bd {p : Pt} (h : p.Sm) : p.key.cut.Bd 8 0 :=
  ⟨h.eb, Nat.le_trans (strip_len _) h.ln, fun n hn => Nat.le_succ_of_le (h.nb n (strip_mem hn)), fun t e => Option.some.inj e ▸ ⟨h.fo, h.po, h.de⟩⟩
theorem bump_mem {ns : List Nat} (h : ∀ n ∈ ns, n ≤ 10 ^ 9) : ∀ n ∈ bump ns, n ≤ 10 ^ 9 + 1 := by
  intro n hn
  rcases List.mem_append.mp hn with hn | hn
  · exact Nat.le_succ_of_le (h n (List.dropLast_subset _ hn))
  · rw [List.mem_singleton.mp hn]
    cases hl : ns.getLast? with
    | none =>
      have : ns = [] := List.getLast?_eq_none_iff.mp hl
      rw [this]
      decide
    | some x =>
      have hx := h x (List.mem_of_getLast? hl)
      rw [List.getLastD_eq_getLast?, hl]
      exact Nat.succ_le_succ hx
theorem bump_len_le (ns : List Nat) : (bump ns).length ≤ ns.length + 1 := by
  unfold bump
  rw [List.length_append, List.length_dropLast]
  simp only [List.length_cons, List.length_nil]
  omega
theorem blk_bd {e : Nat} {ns : List Nat} (he : e ≤ 10 ^ 9) (hl : ns.length ≤ 8) (h : ∀ n ∈ ns, n ≤ 10 ^ 9) : (blk e ns).1.Bd 9 1 ∧ (blk e ns).2.Bd 9 1 :=
  ⟨⟨he, Nat.le_trans (strip_len _) (Nat.le_succ_of_le hl), fun n hn => Nat.le_succ_of_le (h n (strip_mem hn)), fun t e => Option.some.inj e ▸ first_bd _⟩,
    ⟨he, Nat.le_trans (strip_len _) (Nat.le_trans (bump_len_le ns) (Nat.succ_le_succ hl)), fun n hn => bump_mem h n (strip_mem hn), fun t e => Option.some.inj e ▸ first_bd _⟩⟩
theorem outs_bd {lo hi : Cut} (h1 : lo.Bd 9 1) (h2 : hi.Bd 9 1) : ∀ s ∈ outs lo hi, SpanBd 9 1 s := by
  intro s hs
  rcases List.mem_append.mp hs with hs | hs
  · split at hs
    · rw [List.mem_singleton.mp hs]; exact ⟨least_bd _ _, EndBd.some h1⟩
    · cases hs
  · rw [List.mem_singleton.mp hs]; exact ⟨h2, EndBd.none⟩
theorem Cl.G.bd {c : Cl} (h : c.G) : ∀ s ∈ c.spans, SpanBd 9 1 s := by
  have hS := h.sm
  have k0 := key_bd hS
  have k1 : c.p.key.cut.Bd 9 1 := k0.mono (by decide) (by decide)
  have k2 : c.p.key.fol.cut.Bd 9 1 := (kfol_bd k0).mono (by decide) (by decide)
  have hb := blk_bd hS.eb hS.ln hS.nb
  have hb2 := blk_bd (ns := c.p.ns.dropLast) hS.eb (Nat.le_trans (by rw [List.length_dropLast]; omega) hS.ln) (fun n hn => hS.nb n (List.dropLast_subset _ hn))
  have hz : ∀ t : Option Tl, (t = none ∨ t = some firstT) → (Cut.mk c.p.ep (strip c.p.ns) t).Bd 9 1 := fun t ht => ⟨hS.eb, Nat.le_trans (strip_len _) (Nat.le_succ_of_le hS.ln), fun n hn => Nat.le_succ_of_le (hS.nb n (strip_mem hn)), fun t' e => by
    rcases ht with rfl | rfl
    · cases e
    · exact Option.some.inj e ▸ first_bd _⟩
  intro s hs
  unfold Cl.spans at hs
  split at hs
  · split at hs
    · rw [List.mem_singleton.mp hs]; exact ⟨hb.1, EndBd.some hb.2⟩
    · exact outs_bd hb.1 hb.2 s hs
  · split at hs
    · split at hs
      · rw [List.mem_singleton.mp hs]; exact ⟨least_bd _ _, EndBd.some (hz _ (.inr rfl))⟩
      · cases hs
    · rw [List.mem_singleton.mp hs]; exact ⟨hz _ (.inl rfl), EndBd.none⟩
    · rw [List.mem_singleton.mp hs]; exact ⟨k1, EndBd.none⟩
    · rw [List.mem_singleton.mp hs]; exact ⟨k1, EndBd.some hb2.2⟩
    · exact outs_bd k1 k2 s hs
    · rw [List.mem_singleton.mp hs]; exact ⟨k1, EndBd.some k2⟩
    · rw [List.mem_singleton.mp hs]; exact ⟨least_bd _ _, EndBd.some k2⟩
theorem meet1_bd {L m : Nat} {s s' : Span} (h : SpanBd L m s) (h' : SpanBd L m s') : ∀ z ∈ meet1 s s', SpanBd L m z := by
  have hc : (cmax s.1 s'.1).Bd L m := by
    unfold cmax
    split
    · exact h'.1
    · exact h.1
  have he : EndBd L m (lesser s.2 s'.2) := by
    have a := h.2
    have b := h'.2
    cases h1 : s.2 with
    | none => exact b
    | some c =>
      rw [h1] at a
      cases h2 : s'.2 with
      | none => exact a
      | some c' =>
        rw [h2] at b
        refine EndBd.some ?_
        split
        · exact b _ rfl
        · exact a _ rfl
  intro z hz
  unfold meet1 at hz
  split at hz
  · rw [List.mem_singleton.mp hz]; exact ⟨hc, EndBd.none⟩
  · rename_i e el
    rw [el] at he
    split at hz
    · rw [List.mem_singleton.mp hz]; exact ⟨hc, he⟩
    · cases hz
theorem meet_bd {L m : Nat} {a b : List Span} (h : ∀ s ∈ a, SpanBd L m s) (h' : ∀ s ∈ b, SpanBd L m s) : ∀ z ∈ meet a b, SpanBd L m z := by
  intro z hz
  obtain ⟨s, hs, hz⟩ := List.mem_flatMap.mp hz
  obtain ⟨s', hs', hz⟩ := List.mem_flatMap.mp hz
  exact meet1_bd (h s hs) (h' s' hs') z hz
theorem fold_bd : ∀ (cs : List Cl) (a : List Span), (∀ c ∈ cs, c.G) → (∀ s ∈ a, SpanBd 9 1 s) → ∀ s ∈ cs.foldl (fun a c => meet a c.spans) a, SpanBd 9 1 s
  | [], a, _, h => h
  | c :: cs, a, hc, h => fold_bd cs (meet a c.spans) (fun z hz => hc z (List.mem_cons_of_mem _ hz)) (meet_bd h (hc c List.mem_cons_self).bd)
theorem spansOf_bd {cs : List Cl} (h : ReqG cs) : ∀ s ∈ spansOf cs, SpanBd 9 1 s := fold_bd cs _ h.2 (fun s hs => by rw [List.mem_singleton.mp hs]; exact ⟨least_bd _ _, EndBd.none⟩)
theorem fold_len : ∀ (cs : List Cl) (a : List Span), (cs.foldl (fun a c => meet a c.spans) a).length ≤ a.length * 2 ^ cs.length
  | [], a => by simp
  | c :: cs, a => by
    have h1 := fold_len cs (meet a c.spans)
    have h2 := meet_len a c.spans
    have h3 := c.spans_len
    have h4 : (meet a c.spans).length ≤ a.length * 2 := Nat.le_trans h2 (Nat.mul_le_mul_left _ h3)
    have h5 : (meet a c.spans).length * 2 ^ cs.length ≤ a.length * 2 * 2 ^ cs.length := Nat.mul_le_mul_right _ h4
    refine Nat.le_trans h1 (Nat.le_trans h5 ?_)
    rw [List.length_cons, Nat.pow_succ, Nat.mul_assoc, Nat.mul_comm 2]
    exact Nat.le_refl _
theorem spansOf_len {cs : List Cl} (h : ReqG cs) : (spansOf cs).length ≤ 16 := by
  have h1 := fold_len cs [(least, none)]
  have h2 : (2 : Nat) ^ cs.length ≤ 2 ^ 4 := Nat.pow_le_pow_right (by decide) h.1
  have h3 : (spansOf cs).length ≤ 1 * 2 ^ cs.length := h1
  omega
theorem bd_G {L m : Nat} {k : Ky} (h : k.cut.Bd L m) (hL : L ≤ 60) (hm : m ≤ 100) : k.pt.G := by
  have ht := h.t _ rfl
  have hb : ∀ n : Nat, n ≤ 10 ^ 9 + m → n < 10 ^ 24 := fun n hn => by omega
  refine ⟨?_, ?_, fun n hn => ?_, hb _ (Nat.le_trans h.ep (Nat.le_add_right _ _)), ⟨fun i n e => ⟨(ht.fo i n e).1, hb n (ht.fo i n e).2⟩, fun n e => hb n (ht.po n e), fun n e => hb n (ht.de n e)⟩⟩
  · show (if k.b = [] then [0] else k.b) ≠ []
    split
    · simp
    · assumption
  · show (if k.b = [] then [0] else k.b).length ≤ 60
    split
    · decide
    · exact Nat.le_trans h.ln hL
  · have hn' : n ∈ (if k.b = [] then [0] else k.b) := hn
    split at hn'
    · rw [List.mem_singleton.mp hn']; decide
    · have := h.nb n hn'; omega
theorem felt_G {cs : List Cl} (h : ReqG cs) {z : Ky × Ky} (e : pairAbove (spansOf cs) (spansOf cs) = some z) : z.1.pt.G ∧ z.2.pt.G := by
  have hb := spansOf_bd h
  obtain ⟨h1, h2⟩ := pairAbove_bd hb hb e
  exact ⟨bd_G h1 (by decide) (by decide), bd_G h2 (by decide) (by decide)⟩
end V

set_option Elab.async false
set_option linter.all false
set_option maxRecDepth 100000
set_option maxHeartbeats 4000000
namespace V
open PySem PySem.Spec PyProof.Rows L2 DL
open PySem.W (alike alikeAll dataLt)
open TL (numL joinL tl)
abbrev Rel := Pt × Bool
def relD (v : Rel) : PyData := .tuple [.str v.1.tx, .bool v.2]
def relsD (vs : List Rel) : PyData := .tuple (vs.map relD)
def D_shown : DX := pureD (fun ks : List Ky => [.tuple (ks.map Ky.d)]) (fun ks => (∀ k ∈ ks, k.pt.G) ∧ ks.length ≤ 1000) fun ks => relsD (ks.map fun k => (k.pt, false))
theorem pm_shown : Pm 1 D_shown := pm_pure fun _ => rfl
theorem wp_shown (ds : List PyData) (n : Nat) (Q : QN) (h : D_shown ds n Q) : td_shown D_text_of (ends Q) (entry false N_shown ds n) := by
  obtain ⟨ks, rfl, ⟨h1, h2⟩, q⟩ := h
  have q' : Q (.tuple ((ks.map fun k => (k.pt, false)).map relD)) n := q
  rw [List.map_map] at q'
  refine ⟨_, rfl, _, rfl, by rw [List.length_map, sizeLine_eq]; omega, ?_⟩
  refine lc_pure Ky.d (fun _ => true) (fun k => relD (k.pt, false)) ks [] (fun k hk K K0 k1 _ => ⟨_, rfl, k, rfl, h1 k hk, fit (by rfl), k1 rfl⟩) ?_
  rw [List.nil_append, List.filter_eq_self.mpr (fun _ _ => rfl)]
  exact q'
/-- what falling tells -/
def feltD : Option (Ky × Ky) → PyData
  | none => .none
  | some z => .tuple [relsD [(z.2.pt, false)], relsD [(z.2.pt, false), (z.1.pt, false)]]
def D_falling : DX := pureD (fun cs : List Cl => [clsD cs]) ReqG fun cs => feltD (felt cs)
theorem pm_falling : Pm 1 D_falling := pm_pure fun _ => rfl
theorem wp_falling (ds : List PyData) (n : Nat) (Q : QN) (h : D_falling ds n Q) : td_falling D_is_naming_felt D_spans_of D_need_requirement D_names_of D_shown (ends Q) (entry false N_falling ds n) := by
  obtain ⟨cs, rfl, h, q⟩ := h
  have q' : Q (feltD (felt cs)) n := q
  have hb := spansOf_bd h
  have hl := spansOf_len h
  refine ⟨_, rfl, cs, rfl, h, cs, rfl, h, spansOf cs, rfl, ⟨fun o ho => (hb o ho).ok.mono (by decide), by omega⟩, ?_⟩
  show (dSeq (dIfS (dOr (dTest (dCall D_names_of (dCons (dVar 0) dNil))) (dTest (dOp isR (dVar 1) (dC .none)))) (dRet (dC .none)) dNext)
  (dRet (dTup (dCons (dCall D_shown (dCons (dSl (dVar 1) (dPart (dC (.int 1))) dNoPart) dNil)) (dCons (dCall D_shown (dCons (dRevT (dVar 1)) dNil)) dNil))))) (ends Q) ⟨[.d (clsD cs), .d (prD (pairAbove (spansOf cs) (spansOf cs)))], n⟩
  unfold felt at q'
  refine ⟨_, rfl, cs, rfl, h, _, rfl, ?_⟩
  cases hn : naming cs with
  | true =>
    rw [hn] at q'
    exact onT rfl q'
  | false =>
    rw [hn, if_neg Bool.false_ne_true] at q'
    cases hp : pairAbove (spansOf cs) (spansOf cs) with
    | none =>
      rw [hp] at q'
      exact onF rfl ⟨_, rfl, rfl, _, rfl, q'⟩
    | some z =>
      rw [hp] at q'
      obtain ⟨g1, g2⟩ := felt_G h hp
      refine onF rfl ⟨_, rfl, rfl, _, rfl, _, rfl, _, rfl, [z.2], congrArg (fun l => [PyData.tuple l]) (cut_tail [z.1.d, z.2.d]), ⟨fun k hk => by rw [List.mem_singleton.mp hk]; exact g2, by show 1 ≤ 1000; decide⟩, ?_⟩
      refine ⟨_, rfl, _, _, rfl, [z.2, z.1], rfl, ⟨fun k hk => ?_, by show 2 ≤ 1000; decide⟩, fit (by rfl), q'⟩
      rcases List.mem_cons.mp hk with rfl | hk
      · exact g2
      · rw [List.mem_singleton.mp hk]; exact g1
def D_is_rising : DX := pureD (fun cs : List Cl => [clsD cs]) ReqG fun cs => .bool (felt cs).isNone
theorem pm_is_rising : Pm 1 D_is_rising := pm_pure fun _ => rfl
theorem wp_is_rising (ds : List PyData) (n : Nat) (Q : QN) (h : D_is_rising ds n Q) : td_is_rising D_falling (ends Q) (entry false N_is_rising ds n) := by
  obtain ⟨cs, rfl, h, q⟩ := h
  have q' : Q (.bool (felt cs).isNone) n := q
  refine ⟨_, rfl, cs, rfl, h, rfl, ?_⟩
  show Q (.bool (isNone (feltD (felt cs)))) n
  cases hf : felt cs with
  | none => rw [hf] at q'; exact q'
  | some z => rw [hf] at q'; exact q'
/-! ### releases -/
def D_is_release : DX := pureD (fun v : Rel => [relD v]) (fun v => v.1.G) fun _ => .bool true
theorem pm_is_release : Pm 1 D_is_release := pm_pure fun _ => rfl
theorem wp_is_release (ds : List PyData) (n : Nat) (Q : QN) (h : D_is_release ds n Q) : td_is_release D_is_version (ends Q) (entry false N_is_release ds n) := by
  obtain ⟨v, rfl, h, q⟩ := h
  exact ⟨_, rfl, _, rfl, _, rfl, rfl, rfl, _, rfl, _, rfl, _, rfl, v.1, rfl, h, _, rfl, _, rfl, _, rfl, q⟩
theorem Tl.l_inj {t t' : Tl} (h : t.l = t'.l) : t = t' := by
  obtain ⟨fo, po, de⟩ := t
  obtain ⟨fo', po', de'⟩ := t'
  rcases fo with _ | ⟨i, a⟩ <;> rcases po with _ | p <;> rcases de with _ | d <;> rcases fo' with _ | ⟨i', a'⟩ <;> rcases po' with _ | p' <;> rcases de' with _ | d' <;> simp_all [Tl.l, ownL]
theorem Ky.ext' {k k' : Ky} (h1 : k.ep = k'.ep) (h2 : k.b = k'.b) (h3 : k.t = k'.t) : k = k' := by
  obtain ⟨a, b, c⟩ := k
  obtain ⟨a', b', c'⟩ := k'
  dsimp only at h1 h2 h3
  rw [h1, h2, h3]
theorem key_eqv (k k' : Ky) : PyData.eqv k.d k'.d = decide (k = k') := by
  rw [show PyData.eqv k.d k'.d = _ from eqv_key _ _ _ _ _ _]
  refine decide_eq_decide.mpr ⟨fun ⟨a, b, c⟩ => Ky.ext' a b (Tl.l_inj c), fun e => e ▸ ⟨rfl, rfl, rfl⟩⟩
theorem keys_any (ks : List Ky) (k : Ky) : ((ks.map Ky.d).any fun z => PyData.eqv z k.d) = decide (k ∈ ks) := by
  induction ks with
  | nil => rfl
  | cons a ks ih =>
    rw [List.map_cons, List.any_cons, ih, key_eqv, Bool.eq_iff_iff]
    simp only [Bool.or_eq_true, decide_eq_true_eq, List.mem_cons]
    exact ⟨fun h => h.imp Eq.symm id, fun h => h.imp Eq.symm id⟩
def relKeys (vs : List Rel) : List Ky := vs.map fun v => v.1.key
def D_need_releases : DX := pureD (fun vs : List Rel => [relsD vs]) (fun vs => (∀ v ∈ vs, v.1.G) ∧ vs.length ≤ 40 ∧ (relKeys vs).Nodup) relsD
theorem pm_need_releases : Pm 1 D_need_releases := pm_pure fun _ => rfl
theorem rel_go {x : PyData} {n : Nat} {D : DEnds} : ∀ (vs : List Rel) (i : Nat) (ks : List Ky) (o2 o3 : Sl), (∀ v ∈ vs, v.1.G) → ks.length + vs.length ≤ 40 → (ks ++ relKeys vs).Nodup → (∀ r, r[0]? = some (.d x) → D.nx ⟨r, n⟩) →
    forGo (gdTup (gdCons (gdName 2) (gdCons (gdName 3) gdNil))) (dSeq (dIfS (dOr (dNot (dTest (dCall D_is_release (dCons (dVar 3) dNil)))) (dTest (dInOwn false 1 (dCall D_key_of (dCons (dOp ixR (dVar 3) (dC (.int 0))) dNil))))) dNever dNext)
  (dDrop (dApp 1 (dCall D_key_of (dCons (dOp ixR (dVar 3) (dC (.int 0))) dNil))))) D (enumGo i (vs.map relD)) ⟨[.d x, .own (ks.map Ky.d), o2, o3], n⟩
  | [], i, ks, o2, o3, h, hl, hd, q => q _ rfl
  | v :: vs, i, ks, o2, o3, h, hl, hd, q => by
    have hv := h v List.mem_cons_self
    have hk : v.1.key ∉ ks := fun hm => (List.nodup_append.mp hd).2.2 _ hm _ List.mem_cons_self rfl
    rw [List.length_cons] at hl
    refine ⟨_, rfl, _, _, rfl, _, _, rfl, rfl, ?_⟩
    refine ⟨_, rfl, v, rfl, hv, _, rfl, ?_⟩
    refine ⟨_, rfl, _, rfl, v.1, rfl, hv, _, rfl, shaped_key _ _ _, shaped_keys ks, _, congrArg PyData.bool ((keys_any ks v.1.key).trans (decide_eq_false hk)), ?_⟩
    refine ⟨⟨_, rfl⟩, _, rfl, _, rfl, v.1, rfl, hv, _, rfl, by rw [List.length_map, sizeLine_eq]; omega, ?_⟩
    have e : ks.map Ky.d ++ [v.1.key.d] = (ks ++ [v.1.key]).map Ky.d := by rw [List.map_append]; rfl
    show forGo _ _ _ _ ⟨[.d x, .own (ks.map Ky.d ++ [v.1.key.d]), _, _], n⟩
    rw [e]
    refine rel_go vs (i + 1) (ks ++ [v.1.key]) _ _ (fun z hz => h z (List.mem_cons_of_mem _ hz)) (by rw [List.length_append]; simp only [List.length_cons, List.length_nil]; omega) ?_ q
    rw [List.append_assoc]
    exact hd
theorem wp_need_releases (ds : List PyData) (n : Nat) (Q : QN) (h : D_need_releases ds n Q) : td_need_releases D_is_release D_key_of (ends Q) (entry false N_need_releases ds n) := by
  obtain ⟨vs, rfl, ⟨h1, h2, h3⟩, q⟩ := h
  have hl : (vs.map relD).length ≤ 40 := by rw [List.length_map]; exact h2
  refine ⟨_, rfl, _, rfl, _, rfl, by simp only [alike], by simp, by simp only [PyData.depth]; omega, _, rfl, ?_⟩
  refine onF (by show dataLt (.int 40) (.int ((vs.map relD).length : Nat)) = false; rw [PySem.W.dataLt_int, decide_eq_false (by omega)]) ?_
  refine ⟨by decide, ?_⟩
  refine ⟨_, rfl, _, rfl, ?_⟩
  refine rel_go (x := relsD vs) vs 0 [] _ _ h1 (by simp only [List.length_nil]; omega) h3 fun r hr => ⟨_, hr, q⟩
end V

set_option Elab.async false
set_option linter.all false
set_option maxRecDepth 100000
set_option maxHeartbeats 4000000
namespace V
open PySem PySem.Spec PyProof.Rows L2 DL
open TL (numL joinL tl pre)
/-! ### where a text stands in a text -/
theorem strIn_iff {y z : Str} (hy : tl y ≠ []) : strIn y z = true ↔ ∃ i, pre (tl y) ((tl z).drop i) = true := by
  unfold strIn
  rw [PySem.StrLaws.found_iff]
  exact ⟨fun ⟨i, h⟩ => ⟨i, (TL.at_iff hy i).mp h⟩, fun ⟨i, h⟩ => ⟨i, (TL.at_iff hy i).mpr h⟩⟩
theorem pre_iff {S l : List Nat} : pre S l = true ↔ ∃ r, l = S ++ r := by
  unfold pre
  rw [beq_iff_eq]
  constructor
  · intro h
    have e := (List.take_append_drop S.length l).symm
    rw [h] at e
    exact ⟨_, e⟩
  · rintro ⟨r, rfl⟩
    rw [List.take_left']
    rfl
theorem strIn_no {s : Nat} {S l : List Nat} (h : s ∉ l) : strIn (tx (s :: S)) (tx l) = false := by
  cases hb : strIn (tx (s :: S)) (tx l) with
  | false => rfl
  | true =>
    obtain ⟨i, hi⟩ := (strIn_iff (by rw [tl_tx]; simp)).mp hb
    obtain ⟨r, hr⟩ := pre_iff.mp hi
    rw [tl_tx, tl_tx] at hr
    exact absurd (List.mem_of_mem_drop (i := i) (a := s) (by rw [hr]; simp)) h
theorem strIn_yes {a S b : List Nat} (h : S ≠ []) : strIn (tx S) (tx (a ++ (S ++ b))) = true := by
  refine (strIn_iff (by rw [tl_tx]; exact h)).mpr ⟨a.length, pre_iff.mpr ⟨b, ?_⟩⟩
  rw [tl_tx, tl_tx, List.drop_left]
/-! ### partition -/
theorem free2 {s0 s1 : Nat} {S p q : List Nat} (h : s1 ∉ p) (h2 : s1 ≠ s0) : ∀ i, i < p.length → pre (s0 :: s1 :: S) ((p ++ (s0 :: s1 :: S ++ q)).drop i) = false := by
  intro i hi
  cases hb : pre (s0 :: s1 :: S) ((p ++ (s0 :: s1 :: S ++ q)).drop i) with
  | false => rfl
  | true =>
    obtain ⟨r, hr⟩ := pre_iff.mp hb
    have e : ((p ++ (s0 :: s1 :: S ++ q)).drop i)[1]? = some s1 := by rw [hr]; rfl
    rw [List.getElem?_drop] at e
    by_cases h3 : i + 1 < p.length
    · rw [List.getElem?_append_left h3] at e
      exact absurd (List.mem_of_getElem? e) h
    · have : i + 1 = p.length := by omega
      rw [List.getElem?_append_right (by omega), this, Nat.sub_self] at e
      exact absurd (Option.some.inj e).symm h2
theorem free2' {s0 s1 : Nat} {S p : List Nat} (h : s1 ∉ p) : ∀ i, i < p.length → pre (s0 :: s1 :: S) (p.drop i) = false := by
  intro i hi
  cases hb : pre (s0 :: s1 :: S) (p.drop i) with
  | false => rfl
  | true =>
    obtain ⟨r, hr⟩ := pre_iff.mp hb
    exact absurd (List.mem_of_mem_drop (i := i) (a := s1) (by rw [hr]; simp)) h
theorem part_at {s0 s1 : Nat} {S p q : List Nat} (h : s1 ∉ p) (h2 : s1 ≠ s0) : Txt.partition (tx (p ++ (s0 :: s1 :: S ++ q))) (tx (s0 :: s1 :: S)) = (tx p, tx (s0 :: s1 :: S), tx q) := by
  rw [TL.partition_par _ _ (by rw [tl_tx]; simp), tl_tx, tl_tx, TL.par_part (by simp) (free2 h h2)]
  rfl
theorem part_no {s0 s1 : Nat} {S p : List Nat} (h : s1 ∉ p) : Txt.partition (tx p) (tx (s0 :: s1 :: S)) = (tx p, tx [], tx []) := by
  rw [TL.partition_par _ _ (by rw [tl_tx]; simp), tl_tx, tl_tx, TL.par_none (free2' h)]
  rfl
theorem part1_at {s : Nat} {S p q : List Nat} (h : s ∉ p) : Txt.partition (tx (p ++ (s :: S ++ q))) (tx (s :: S)) = (tx p, tx (s :: S), tx q) := by
  rw [TL.partition_par _ _ (by rw [tl_tx]; simp), tl_tx, tl_tx, TL.par_part1 h]
  rfl
/-! ### rpartition by one sign -/
theorem at_one {c i : Nat} {l : List Nat} : PySem.StrLaws.At (tx l) (tx [c]) (tx l).length i ↔ l[i]? = some c := by
  rw [TL.at_iff (by rw [tl_tx]; simp), tl_tx, tl_tx]
  exact PySem.StrLaws.take1_drop
theorem sub_tx (l : List Nat) (i j : Nat) : Builtin.Str.strSub (tx l) i j = tx ((l.drop i).take (j - i)) := TL.ext_tl (TL.tl_strSub (tx l) i j)
theorem rpart_no {c : Nat} {l : List Nat} (h : c ∉ l) : Txt.rpartition (tx l) (tx [c]) = (tx [], tx [], tx l) := by
  unfold Txt.rpartition
  rcases PySem.StrLaws.last_spec (tx l) (tx [c]) with ⟨e, _⟩ | ⟨i, e, hi, _⟩
  · rw [e]; rfl
  · exact absurd (List.mem_of_getElem? (at_one.mp hi)) h
theorem rpart_at {c : Nat} {a b : List Nat} (h : c ∉ b) : Txt.rpartition (tx (a ++ c :: b)) (tx [c]) = (tx a, tx [c], tx b) := by
  have h0 : (a ++ c :: b)[a.length]? = some c := by rw [List.getElem?_append_right (Nat.le_refl _), Nat.sub_self]; rfl
  unfold Txt.rpartition
  rcases PySem.StrLaws.last_spec (tx (a ++ c :: b)) (tx [c]) with ⟨e, hn⟩ | ⟨i, e, hi, hk⟩
  · exact absurd (at_one.mpr h0) (hn _)
  · have hi' := at_one.mp hi
    have e1 : i = a.length := by
      rcases Nat.lt_trichotomy i a.length with h1 | h1 | h1
      · exact absurd (at_one.mpr h0) (hk _ h1)
      · exact h1
      · rw [List.getElem?_append_right (by omega)] at hi'
        obtain ⟨j, hj⟩ : ∃ j, i - a.length = j + 1 := ⟨i - a.length - 1, by omega⟩
        rw [hj, List.getElem?_cons_succ] at hi'
        exact absurd (List.mem_of_getElem? hi') h
    rw [e]
    subst e1
    have e2 : Builtin.Str.strSub (tx (a ++ c :: b)) 0 a.length = tx a := by
      rw [sub_tx, List.drop_zero, Nat.sub_zero, List.take_left]
    have e3 : Builtin.Str.strSub (tx (a ++ c :: b)) (a.length + (tx [c]).length) (tx (a ++ c :: b)).length = tx b := by
      rw [sub_tx, tx_len, tx_len]
      have : (a ++ c :: b).drop (a.length + [c].length) = b := by
        rw [show a ++ c :: b = (a ++ [c]) ++ b by simp, ← List.length_append, List.drop_left]
      rw [this, List.take_of_length_le]
      rw [List.length_append, List.length_cons]
      simp only [List.length_cons, List.length_nil]
      omega
    show (_, _, _) = _
    rw [e2, e3]
/-! ### numbers -/
theorem int_zero {n : Nat} (h : n < 10 ^ 24) : intText? (tx (48 :: numL n)) = some (n : Int) := by
  have hd : PySem.NumText.AllDigits (48 :: numL n) := fun c hc => by
    rcases List.mem_cons.mp hc with rfl | hc
    · decide
    · exact TL.numL_digits n c hc
  have hl := len_num h
  have e := PySem.intText_digits (x := tx (48 :: numL n)) hd (fun z => nomatch (z : 48 :: numL n = [])) (by rw [tx_len, List.length_cons]; omega)
  rw [e]
  have := TL.numL_val n
  unfold PySem.NumText.digitsVal at this ⊢
  show some ((List.foldl _ (0 * 10 + (48 - 48)) (numL n) : Nat) : Int) = _
  rw [show 0 * 10 + (48 - 48) = 0 from rfl, this]
theorem int_zero0 : intText? (tx [48]) = some 0 := by
  have := int_tx (n := 0) (by decide)
  rw [num_zero] at this
  exact this
end V

set_option Elab.async false
set_option linter.all false
set_option maxRecDepth 100000
set_option maxHeartbeats 4000000
namespace V
open PySem PySem.Spec PyProof.Rows L2 DL
open PySem.W (alike alikeAll dataLt)
open TL (numL joinL tl)
theorem pm_law_mixed : Pm 2 D_mixed := ⟨fun ds n Q Q' k ⟨a, e, h, q⟩ => ⟨a, e, h, fun d n' p => k _ _ (q d n' p)⟩, fun ds n Q ⟨a, e, _⟩ => by rw [e]; rfl⟩
theorem wp_law_mixed (ds : List PyData) (n : Nat) (Q : QN) (h : D_mixed ds n Q) : td_law_mixed (ends Q) (entry false N_law_mixed ds n) := by
  obtain ⟨⟨c, k⟩, rfl, ⟨h1, h2⟩, q⟩ := h
  have h1' : (0 : Int) ≤ k := h1
  have h2' : k < 2 ^ 62 := h2
  have hc : 0 ≤ Int.fmod c 2147483647 ∧ Int.fmod c 2147483647 < 2147483647 := ⟨Int.fmod_nonneg_of_pos _ (by decide), Int.fmod_lt_of_pos _ (by decide)⟩
  have n1 : (2147483647 : Int) ≠ 0 := by decide
  have n2 : (2147483629 : Int) ≠ 0 := by decide
  have c1 : CMul (Int.fmod c 2147483647) (48271 + 2 * k * k) := .inl ⟨by omega, by omega⟩
  have c2 : ∀ i, CMul 2 i := fun i => .inl ⟨by decide, by decide⟩
  have c3 : ∀ i, CMul 69621 i := fun i => .inl ⟨by decide, by decide⟩
  have c4 : ∀ i, CMul i 69621 := fun i => .inr ⟨by decide, by decide⟩
  have c5 : ∀ i, CMul i k := fun i => .inr ⟨by omega, by omega⟩
  refine ⟨_, rfl, n1, ?_⟩
  refine ⟨_, rfl, _, rfl, c2 k, _, rfl, c5 (2 * k), ?_⟩
  refine ⟨c1, _, rfl, c3 k, n1, c4 _, n2, ?_⟩
  exact q _ _ ⟨rfl, _, rfl, Int.fmod_nonneg_of_pos _ (by decide), Int.lt_trans (Int.fmod_lt_of_pos _ (by decide)) (by decide)⟩
/-! ### _law_parts -/
def lfD : Option (Nat × Nat) → PyData
  | none => .list []
  | some (i, n) => .list [.str (wordS i), .int (n : Int)]
def loD : Option Nat → PyData
  | none => .list []
  | some n => .list [.int (n : Int)]
def Pt.lp (p : Pt) : PyData := .tuple [.int (p.ep : Int), .list (natsD p.ns), lfD p.t.fo, loD p.t.po, loD p.t.de]
def D_law_parts : DX := pureD (fun p : Pt => [.str p.tx]) Pt.G Pt.lp
theorem pm_law_parts : Pm 1 D_law_parts := pm_pure fun _ => rfl
def pnL : Option Nat → List Nat
  | none => []
  | some n => numL n
def edL (e : Nat) : List Nat := if e = 0 then [] else numL e
theorem asc_pn (o : Option Nat) : Asc (pnL o) := by
  cases o with
  | none => exact fun c h => nomatch h
  | some n => exact asc_num n
theorem num_ne (n : Nat) : numL n ≠ [] := TL.numL_ne n
theorem pn_eq (o : Option Nat) : decide (pnL o = []) = o.isNone := by
  cases o with
  | none => rfl
  | some n => exact decide_eq_false (num_ne n)
theorem dot_part {ns : List Nat} (h : ns ≠ []) : Txt.split (tx (joinN ns)) (Str.ofString ".") = ns.map fun n => tx (numL n) := by
  have e := TL.split_join (y := Str.ofString ".") (s := 46) (S := []) (by rw [lit_dot]; rfl) (by decide +kernel) (parts := ns.map fun n => tx (numL n)) (by simpa using h) (fun p hp => by
    obtain ⟨n, _, rfl⟩ := List.mem_map.mp hp
    rw [tl_tx]
    exact free_num (by decide))
  rw [join_tx] at e
  exact e
/-- the end, from the numbers on -/
def lpC : TDS := (dSeq (dAsg (dFrz (dLc (diL (dBM splitR (dVar 3) (dCons (dC (.str ".")) dNil))) (gdName 8) dYes (dCB intR1 (dCons (dVar 8) dNil)) [8])) (gdName 9))
  (dRet (dTup (dCons (dCB intR1 (dCons (dOp addR (dC (.str "0")) (dVar 1)) dNil)) (dCons (dVar 9) (dCons (dVar 6) (dCons (dIf (dTest (dOp neR (dVar 5) (dC (.str "")))) (dLst (dCons (dCB intR1 (dCons (dVar 5) dNil)) dNil)) (dLst dNil)) (dCons (dIf (dTest (dOp neR (dVar 4) (dC (.str "")))) (dLst (dCons (dCB intR1 (dCons (dVar 4) dNil)) dNil)) (dLst dNil)) dNil))))))))
def lpS (t e m r de po fo sg nb ns : Sl) (n : Nat) : DS := ⟨[t, e, m, r, de, po, fo, sg, nb, ns], n⟩
theorem lpEnd_ok {n : Nat} {Q : QN} {p : Pt} {t m r sg nb : Sl} (h : p.G) (q : Q p.lp n) : (dRet (dTup (dCons (dCB intR1 (dCons (dOp addR (dC (.str "0")) (dVar 1)) dNil)) (dCons (dVar 9) (dCons (dVar 6) (dCons (dIf (dTest (dOp neR (dVar 5) (dC (.str "")))) (dLst (dCons (dCB intR1 (dCons (dVar 5) dNil)) dNil)) (dLst dNil)) (dCons (dIf (dTest (dOp neR (dVar 4) (dC (.str "")))) (dLst (dCons (dCB intR1 (dCons (dVar 4) dNil)) dNil)) (dLst dNil)) dNil))))))) (ends Q)
    (lpS t (.d (.str (tx (edL p.ep)))) m r (.d (.str (tx (pnL p.t.de)))) (.d (.str (tx (pnL p.t.po)))) (.d (lfD p.t.fo)) sg nb (.d (.list (natsD p.ns))) n) := by
  obtain ⟨ep, ns, fo, po, de⟩ := p
  have hpo : ∀ k, po = some k → k < 10 ^ 24 := h.t.2.1
  have hde : ∀ k, de = some k → k < 10 ^ 24 := h.t.2.2
  have hep : ep < 10 ^ 24 := h.eb
  have hl : (edL ep).length ≤ 24 := by
    unfold edL
    split
    · decide
    · exact len_num hep
  -- the last two
  have rest : ∀ z : PyData, z = .int (ep : Int) → (∃ x, (lpS t (.d (.str (tx (edL ep)))) m r (.d (.str (tx (pnL de)))) (.d (.str (tx (pnL po)))) (.d (lfD fo)) sg nb (.d (.list (natsD ns))) n).r[9]? = some (.d x) ∧ ∃ y, (lpS t (.d (.str (tx (edL ep)))) m r (.d (.str (tx (pnL de)))) (.d (.str (tx (pnL po)))) (.d (lfD fo)) sg nb (.d (.list (natsD ns))) n).r[6]? = some (.d y) ∧
      (dCons (dIf (dTest (dOp neR (dVar 5) (dC (.str "")))) (dLst (dCons (dCB intR1 (dCons (dVar 5) dNil)) dNil)) (dLst dNil)) (dCons (dIf (dTest (dOp neR (dVar 4) (dC (.str "")))) (dLst (dCons (dCB intR1 (dCons (dVar 4) dNil)) dNil)) (dLst dNil)) dNil)) (lpS t (.d (.str (tx (edL ep)))) m r (.d (.str (tx (pnL de)))) (.d (.str (tx (pnL po)))) (.d (lfD fo)) sg nb (.d (.list (natsD ns))) n) fun xs s => (z :: x :: y :: xs).length ≤ sizeLine ∧ Q (.tuple (z :: x :: y :: xs)) s.n) := by
    rintro _ rfl
    have e1 : ∀ o : Option Nat, (!PyData.eqv (.str (tx (pnL o))) (.str (Str.ofString ""))) = o.isSome := fun o => by
      rw [lit_empty, eqv_tx, pn_eq]
      cases o <;> rfl
    refine ⟨_, rfl, _, rfl, _, rfl, shaped_tx (asc_pn _), sh_empty, _, rfl, ?_⟩
    rw [e1]
    have q' : Q (.tuple [.int (ep : Int), .list (natsD ns), lfD fo, loD po, loD de]) n := q
    have two : ∀ w : PyData, w = loD po → (dCons (dIf (dTest (dOp neR (dVar 4) (dC (.str "")))) (dLst (dCons (dCB intR1 (dCons (dVar 4) dNil)) dNil)) (dLst dNil)) dNil) (lpS t (.d (.str (tx (edL ep)))) m r (.d (.str (tx (pnL de)))) (.d (.str (tx (pnL po)))) (.d (lfD fo)) sg nb (.d (.list (natsD ns))) n) fun xs s => (PyData.int (ep : Int) :: .list (natsD ns) :: lfD fo :: w :: xs).length ≤ sizeLine ∧ Q (.tuple (.int (ep : Int) :: .list (natsD ns) :: lfD fo :: w :: xs)) s.n := by
      rintro _ rfl
      refine ⟨_, rfl, shaped_tx (asc_pn _), sh_empty, _, rfl, ?_⟩
      rw [e1]
      cases de with
      | none => exact onF rfl ⟨fit (by rfl), fit (by rfl), q'⟩
      | some d => exact onT rfl ⟨_, rfl, _, int_tx (hde d rfl), by rw [tx_len]; exact Nat.le_trans (len_num (hde d rfl)) (by decide), fit (by rfl), fit (by rfl), q'⟩
    cases po with
    | none => exact onF rfl ⟨fit (by rfl), two _ rfl⟩
    | some p => exact onT rfl ⟨_, rfl, _, int_tx (hpo p rfl), by rw [tx_len]; exact Nat.le_trans (len_num (hpo p rfl)) (by decide), fit (by rfl), two _ rfl⟩
  refine ⟨_, rfl, by rw [lit_0, tx_len, tx_len, sizeLine_eq]; simp only [List.length_cons, List.length_nil]; omega, ?_⟩
  rw [lit_0, tx_app]
  by_cases h0 : ep = 0
  · have e0 : [48] ++ edL ep = [48] := by unfold edL; rw [if_pos h0]; rfl
    rw [e0]
    refine ⟨0, int_zero0, by rw [tx_len]; decide, ?_⟩
    obtain ⟨x, hx, y, hy, r⟩ := rest (.int 0) (by rw [h0]; rfl)
    exact ⟨x, hx, y, hy, r⟩
  · have e0 : [48] ++ edL ep = 48 :: numL ep := by unfold edL; rw [if_neg h0]; rfl
    rw [e0]
    refine ⟨_, int_zero hep, by rw [tx_len, List.length_cons]; have := len_num hep; omega, ?_⟩
    obtain ⟨x, hx, y, hy, r⟩ := rest _ rfl
    exact ⟨x, hx, y, hy, r⟩
theorem lpC_ok {n : Nat} {Q : QN} {p : Pt} {t m sg nb n9 : Sl} (h : p.G) (q : Q p.lp n) : lpC (ends Q) (lpS t (.d (.str (tx (edL p.ep)))) m (.d (.str (tx (joinN p.ns)))) (.d (.str (tx (pnL p.t.de)))) (.d (.str (tx (pnL p.t.po)))) (.d (lfD p.t.fo)) sg nb n9 n) := by
  have hl := len_join h.nb
  have hn := h.ln
  refine ⟨_, rfl, _, rfl, by decide +kernel, by rw [tx_len, sizeLine_eq]; omega, _, rfl, ?_⟩
  rw [dot_part h.ne, List.map_map]
  refine ⟨by rw [List.length_map, sizeLine_eq]; omega, ?_⟩
  refine lc_pure (fun n : Nat => .str (tx (numL n))) (fun _ => true) (fun n : Nat => .int (n : Int)) p.ns [] (fun k hk K K0 k1 _ => ⟨_, rfl, _, int_tx (h.nb k hk), by rw [tx_len]; exact Nat.le_trans (len_num (h.nb k hk)) (by decide), k1 rfl⟩) ?_
  rw [List.nil_append, List.filter_eq_self.mpr (fun _ _ => rfl)]
  exact lpEnd_ok h q
end V

set_option Elab.async false
set_option linter.all false
set_option maxRecDepth 100000
set_option maxHeartbeats 4000000
namespace V
open PySem PySem.Spec PyProof.Rows L2 DL
open PySem.W (alike alikeAll dataLt)
open TL (numL joinL tl)
theorem lay_tx {l : List Nat} (h : Asc l) : PyData.canLay0 (.str (tx l)) = true := (Bool.and_eq_true_iff.mp (shaped_tx h)).1
theorem shaped_lf (fo : Option (Nat × Nat)) : SeqAt.shaped (lfD fo) = true := by
  cases fo with
  | none => decide
  | some a =>
    obtain ⟨i, n⟩ := a
    have h1 : PyData.canLay0 (.str (wordS i)) = true := by rw [word_tx]; exact lay_tx (asc_word i)
    refine Bool.and_eq_true_iff.mpr ⟨?_, rfl⟩
    show (PyData.canLay0 (.str (wordS i)) && _) = true
    rw [h1]
    rfl
theorem shaped_lo (o : Option Nat) : SeqAt.shaped (loD o) = true := by
  cases o <;> rfl
theorem shaped_nl (ns : List Nat) : SeqAt.shaped (.list (natsD ns)) = true := shaped_nats ns
def lpSign : TDS := (dIfS (dAnd (dTest (dOp eqR (dVar 6) (dLst dNil))) (dTest (dOp inR (dVar 7) (dVar 3)))) (dSeq (dAsg (dBM partR (dVar 3) (dCons (dVar 7) dNil)) (gdTup (gdCons (gdName 3) (gdCons (gdName 2) (gdCons (gdName 8) gdNil)))))
  (dAsg (dLst (dCons (dVar 7) (dCons (dCB intR1 (dCons (dVar 8) dNil)) dNil))) (gdName 6))) dNext)
/-- no sign here -/
theorem sign_no {D : DEnds} {n : Nat} {y : Str} {L : List Nat} {t e m de po nb n9 : Sl} (h : strIn y (tx L) = false) (q : D.nx (lpS t e m (.d (.str (tx L))) de po (.d (.list [])) (.d (.str y)) nb n9 n)) :
    lpSign D (lpS t e m (.d (.str (tx L))) de po (.d (.list [])) (.d (.str y)) nb n9 n) :=
  ⟨_, rfl, fit (by rfl), rfl, rfl, _, rfl, onT rfl ⟨_, rfl, _, rfl, false, congrArg PyData.bool h, onF rfl q⟩⟩
/-- found before -/
theorem sign_had {D : DEnds} {n i k : Nat} {y : Str} {r t e m de po nb n9 : Sl} (q : D.nx (lpS t e m r de po (.d (lfD (some (i, k)))) (.d (.str y)) nb n9 n)) :
    lpSign D (lpS t e m r de po (.d (lfD (some (i, k)))) (.d (.str y)) nb n9 n) :=
  ⟨_, rfl, fit (by rfl), shaped_lf _, rfl, false, rfl, onF rfl q⟩
/-- found here -/
theorem sign_is {D : DEnds} {n i k : Nat} {y : Str} {ns : List Nat} {t e m de po nb n9 : Sl} (hk : k < 10 ^ 24) (hy : y = wordS i) (hl : (joinN ns ++ (wordL i ++ numL k)).length ≤ 10000) (h : strIn y (tx (joinN ns ++ (wordL i ++ numL k))) = true) (hp : Txt.partition (tx (joinN ns ++ (wordL i ++ numL k))) y = (tx (joinN ns), y, tx (numL k)))
    (hz : (y.length == 0) = false) (q : ∀ m nb, D.nx (lpS t e m (.d (.str (tx (joinN ns)))) de po (.d (lfD (some (i, k)))) (.d (.str y)) nb n9 n)) :
    lpSign D (lpS t e m (.d (.str (tx (joinN ns ++ (wordL i ++ numL k))))) de po (.d (.list [])) (.d (.str y)) nb n9 n) := by
  subst hy
  refine ⟨_, rfl, fit (by rfl), rfl, rfl, _, rfl, onT rfl ⟨_, rfl, _, rfl, true, congrArg PyData.bool h, onT rfl ?_⟩⟩
  refine ⟨_, rfl, _, rfl, _, rfl, hz, by rw [tx_len, sizeLine_eq]; omega, ?_⟩
  refine ⟨_, congrArg three hp, _, _, rfl, _, _, rfl, _, _, rfl, rfl, ?_⟩
  exact ⟨_, rfl, _, rfl, _, int_tx hk, by rw [tx_len]; exact Nat.le_trans (len_num hk) (by decide), fit (by rfl), q _ _⟩
theorem free_dig {c : Nat} {ns : List Nat} {l : List Nat} (h1 : ¬ isDig c) (h2 : c ≠ 46) (h3 : c ∉ l) : c ∉ joinN ns ++ l := fun hc => (List.mem_append.mp hc).elim (free_join h1 h2 ns) h3
theorem rc_no {ns l : List Nat} (h : 114 ∉ l) : strIn (Str.ofString "rc") (tx (joinN ns ++ l)) = false := by rw [lit_rc]; exact strIn_no (free_dig (by decide) (by decide) h)
theorem b_no {ns l : List Nat} (h : 98 ∉ l) : strIn (Str.ofString "b") (tx (joinN ns ++ l)) = false := by rw [lit_b]; exact strIn_no (free_dig (by decide) (by decide) h)
theorem a_no {ns l : List Nat} (h : 97 ∉ l) : strIn (Str.ofString "a") (tx (joinN ns ++ l)) = false := by rw [lit_a]; exact strIn_no (free_dig (by decide) (by decide) h)
theorem num_free {c n : Nat} (h : ¬ isDig c) : c ∉ numL n := free_num h
theorem signs_ok {D : DEnds} {n : Nat} {fo : Option (Nat × Nat)} {ns : List Nat} {t e m de po sg nb n9 : Sl} (hf : ∀ i k, fo = some (i, k) → i < 3 ∧ k < 10 ^ 24) (hl : (joinN ns ++ foL fo).length ≤ 10000) (q : ∀ m sg nb, D.nx (lpS t e m (.d (.str (tx (joinN ns)))) de po (.d (lfD fo)) sg nb n9 n)) :
    (dFor (diT (dTup (dCons (dC (.str "rc")) (dCons (dC (.str "b")) (dCons (dC (.str "a")) dNil))))) (gdName 7) lpSign) D (lpS t e m (.d (.str (tx (joinN ns ++ foL fo)))) de po (.d (.list [])) sg nb n9 n) := by
  refine ⟨fit (by rfl), _, rfl, ?_⟩
  cases fo with
  | none =>
    have e0 : joinN ns ++ foL none = joinN ns ++ [] := rfl
    rw [e0]
    refine sign_no (rc_no (by simp)) ?_
    refine sign_no (b_no (by simp)) ?_
    refine sign_no (a_no (by simp)) ?_
    rw [List.append_nil]
    exact q _ _ _
  | some a =>
    obtain ⟨i, k⟩ := a
    obtain ⟨hi, hk⟩ := hf i k rfl
    have e0 : joinN ns ++ foL (some (i, k)) = joinN ns ++ (wordL i ++ numL k) := rfl
    rw [e0] at hl ⊢
    have hi3 : i = 0 ∨ i = 1 ∨ i = 2 := by omega
    rcases hi3 with rfl | rfl | rfl
    · refine sign_no (rc_no (fun hc => by rcases List.mem_append.mp hc with hc | hc; revert hc; decide; exact num_free (by decide) hc)) ?_
      refine sign_no (b_no (fun hc => by rcases List.mem_append.mp hc with hc | hc; revert hc; decide; exact num_free (by decide) hc)) ?_
      exact sign_is hk rfl hl (by rw [lit_a]; exact strIn_yes (by decide)) (by rw [lit_a]; exact part1_at (S := []) (free_join (by decide) (by decide) ns)) (by decide +kernel) fun m nb => q _ _ _
    · refine sign_no (rc_no (fun hc => by rcases List.mem_append.mp hc with hc | hc; revert hc; decide; exact num_free (by decide) hc)) ?_
      refine sign_is hk rfl hl (by rw [lit_b]; exact strIn_yes (by decide)) (by rw [lit_b]; exact part1_at (S := []) (free_join (by decide) (by decide) ns)) (by decide +kernel) fun m nb => ?_
      exact sign_had (q _ _ _)
    · refine sign_is hk rfl hl (by rw [lit_rc]; exact strIn_yes (by decide)) (by rw [lit_rc]; exact part1_at (S := [99]) (free_join (by decide) (by decide) ns)) (by decide +kernel) fun m nb => ?_
      refine sign_had ?_
      exact sign_had (q _ _ _)
/-! ### the partitions -/
theorem free_fo {c : Nat} (h1 : c ≠ 97) (h2 : c ≠ 98) (h3 : c ≠ 114) (h4 : c ≠ 99) (hd : ¬ isDig c) (fo : Option (Nat × Nat)) : c ∉ foL fo := by
  cases fo with
  | none => exact fun h => nomatch h
  | some a => exact fun h => (List.mem_append.mp h).elim (free_word h1 h2 h3 h4) (free_num hd)
theorem p_post (ns : List Nat) (fo : Option (Nat × Nat)) (po : Option Nat) : ∃ m, Txt.partition (tx (joinN ns ++ (foL fo ++ poL po))) (Str.ofString ".post") = (tx (joinN ns ++ foL fo), m, tx (pnL po)) := by
  have hf : 112 ∉ joinN ns ++ foL fo := free_dig (by decide) (by decide) (free_fo (by decide) (by decide) (by decide) (by decide) (by decide) fo)
  rw [lit_post, ← List.append_assoc]
  cases po with
  | none =>
    rw [show joinN ns ++ foL fo ++ poL none = joinN ns ++ foL fo from List.append_nil _]
    exact ⟨_, part_no hf⟩
  | some p => exact ⟨_, part_at hf (by decide)⟩
theorem p_dev (ns : List Nat) (fo : Option (Nat × Nat)) (po de : Option Nat) : ∃ m, Txt.partition (tx (joinN ns ++ (foL fo ++ (poL po ++ deL de)))) (Str.ofString ".dev") = (tx (joinN ns ++ (foL fo ++ poL po)), m, tx (pnL de)) := by
  have hp : 100 ∉ poL po := by
    cases po with
    | none => exact fun h => nomatch h
    | some p => exact fun h => (List.mem_append.mp h).elim (by decide) (free_num (by decide))
  have hf : 100 ∉ joinN ns ++ (foL fo ++ poL po) := free_dig (by decide) (by decide) fun h => (List.mem_append.mp h).elim (free_fo (by decide) (by decide) (by decide) (by decide) (by decide) fo) hp
  have e : joinN ns ++ (foL fo ++ (poL po ++ deL de)) = joinN ns ++ (foL fo ++ poL po) ++ deL de := by simp only [List.append_assoc]
  rw [lit_dev, e]
  cases de with
  | none =>
    rw [show joinN ns ++ (foL fo ++ poL po) ++ deL none = joinN ns ++ (foL fo ++ poL po) from List.append_nil _]
    exact ⟨_, part_no hf⟩
  | some p => exact ⟨_, part_at hf (by decide)⟩
theorem p_mark (p : Pt) : ∃ m, Txt.rpartition p.tx (Str.ofString "!") = (tx (edL p.ep), m, tx (joinN p.ns ++ tlL p.t)) := by
  rw [lit_mark]
  unfold Pt.tx ren epL edL
  by_cases h0 : p.ep = 0
  · rw [if_pos h0, if_pos h0, List.nil_append]
    exact ⟨_, rpart_no (free33 p)⟩
  · rw [if_neg h0, if_neg h0]
    refine ⟨tx [33], ?_⟩
    have e : numL p.ep ++ [33] ++ (joinN p.ns ++ tlL p.t) = numL p.ep ++ 33 :: (joinN p.ns ++ tlL p.t) := by simp
    rw [e]
    exact rpart_at (free33 p)
theorem wp_law_parts (ds : List PyData) (n : Nat) (Q : QN) (h : D_law_parts ds n Q) : td_law_parts (ends Q) (entry false N_law_parts ds n) := by
  obtain ⟨p, rfl, h, q⟩ := h
  have hr := len_ren h
  have hj := len_join h.nb
  have hn := h.ln
  have ht := len_tlL h.t
  obtain ⟨m1, e1⟩ := p_mark p
  obtain ⟨m2, e2⟩ := p_dev p.ns p.t.fo p.t.po p.t.de
  obtain ⟨m3, e3⟩ := p_post p.ns p.t.fo p.t.po
  have l1 : (foL p.t.fo).length + ((poL p.t.po).length + (deL p.t.de).length) ≤ 100 := by
    have : tlL p.t = foL p.t.fo ++ (poL p.t.po ++ deL p.t.de) := rfl
    rw [this, List.length_append, List.length_append] at ht
    exact ht
  refine ⟨_, rfl, _, rfl, by decide +kernel, txl (Nat.le_trans hr (by decide)), _, congrArg three e1, _, _, rfl, _, _, rfl, _, _, rfl, rfl, ?_⟩
  refine ⟨_, rfl, _, rfl, by decide +kernel, by show (tx _).length ≤ _; exact txl (by simp only [List.length_append, tlL]; omega), _, congrArg three e2, _, _, rfl, _, _, rfl, _, _, rfl, rfl, ?_⟩
  refine ⟨_, rfl, _, rfl, by decide +kernel, txl (by simp only [List.length_append]; omega), _, congrArg three e3, _, _, rfl, _, _, rfl, _, _, rfl, rfl, ?_⟩
  refine ⟨fit (by rfl), ?_⟩
  exact signs_ok (D := { ends Q with nx := lpC (ends Q) }) (t := .d (.str p.tx)) h.t.1 (by simp only [List.length_append]; omega) fun m sg nb => lpC_ok h q
end V

set_option Elab.async false
set_option linter.all false
set_option maxRecDepth 100000
set_option maxHeartbeats 4000000
namespace V
open PySem PySem.Spec PyProof.Rows L2 DL
open PySem.W (alike alikeAll dataLt)
open TL (numL joinL tl)
/-! ### _law_base -/
def baseD (e : Nat) (b : List Nat) : PyData := .tuple [.int (e : Int), .list (natsD b)]
def D_law_base : DX := pureD (fun p : Pt => [p.lp]) (fun p => p.ns.length ≤ 1000) fun p => baseD p.ep (strip p.ns)
theorem pm_law_base : Pm 1 D_law_base := pm_pure fun _ => rfl
theorem wp_law_base (ds : List PyData) (n : Nat) (Q : QN) (h : D_law_base ds n Q) : td_law_base (ends Q) (entry false N_law_base ds n) := by
  obtain ⟨p, rfl, hl, q⟩ := h
  have q' : Q (baseD p.ep (strip p.ns)) n := q
  refine ⟨_, rfl, _, rfl, _, .inl rfl, ?_⟩
  refine ⟨fun m s => ∃ xs : List Nat, xs.length = m ∧ strip xs = strip p.ns ∧ s = ⟨[.d p.lp, .own (natsD xs)], n⟩, ⟨p.ns.length, p.ns, rfl, rfl, rfl⟩, ?_⟩
  rintro m s ⟨xs, hm, hs, rfl⟩
  have fin : strip xs = xs → dRet (dTup (dCons (dOp ixR (dVar 0) (dC (.int 0))) (dCons (dGive 1) dNil))) (ends Q) ⟨[.d p.lp, .own (natsD xs)], n⟩ := fun e => by
    rw [← hs, e] at q'
    exact ⟨_, rfl, _, at0, _, rfl, fit (by rfl), q'⟩
  refine ⟨⟨_, rfl⟩, fit (by rfl), _, rfl, rfl, rfl, shaped_nl xs, _, rfl, ?_⟩
  by_cases hx : xs = []
  · subst hx
    exact onF rfl (fin rfl)
  · have e0 : (!PyData.eqv (.list (natsD xs)) (.list [])) = true := by
      cases xs with
      | nil => exact absurd rfl hx
      | cons => rfl
    refine onT e0 ⟨⟨_, rfl⟩, _, rfl, _, _, _, rfl, rfl, getLast_at hx, rfl, rfl, _, rfl, ?_⟩
    have ex : xs.dropLast ++ [xs.getLastD 0] = xs := by
      rw [show xs.getLastD 0 = xs.getLast hx by rw [List.getLastD_eq_getLast?, List.getLast?_eq_some_getLast hx]; rfl]
      exact List.dropLast_concat_getLast hx
    have ed : natsD xs = natsD xs.dropLast ++ [.int ((xs.getLastD 0 : Nat) : Int)] := by
      conv => lhs; rw [← ex]
      unfold natsD
      rw [List.map_append]
      rfl
    by_cases h0 : xs.getLastD 0 = 0
    · refine onT (by show PyData.eqv (.int ((xs.getLastD 0 : Nat) : Int)) (.int 0) = true; rw [h0]; rfl) ?_
      refine ⟨natsD xs.dropLast, .int ((xs.getLastD 0 : Nat) : Int), congrArg (fun l => some (Sl.own l)) ed, ?_⟩
      refine ⟨xs.dropLast.length, ?_, xs.dropLast, rfl, ?_, rfl⟩
      · rw [List.length_dropLast, ← hm]
        have := List.length_pos_iff.mpr hx
        omega
      · rw [← hs]
        conv => rhs; rw [← ex, h0, strip_snoc0]
    · refine onF (by show PyData.eqv (.int ((xs.getLastD 0 : Nat) : Int)) (.int 0) = false; simp only [PyData.eqv]; rw [beq_eq_false_iff_ne]; omega) ?_
      refine fin ?_
      conv => lhs; rw [← ex, strip_snoc h0]
      exact ex
/-! ### _law_key -/
def stN (t : Tl) : Nat := if t.po.isNone && t.de.isSome then 0 else 2
def stageD (t : Tl) : PyData := match t.fo with
  | some (i, n) => .list [.int 1, .str (wordS i), .int (n : Int)]
  | none => .list [.int (stN t : Int)]
def postD : Option Nat → PyData
  | none => .list [.int (-1)]
  | some n => .list [.int (n : Int)]
def devD : Option Nat → PyData
  | none => .list [.int 1]
  | some n => .list [.int 0, .int (n : Int)]
def Ky.lk (k : Ky) : PyData := .tuple [baseD k.ep k.b, stageD k.t, postD k.t.po, devD k.t.de]
def D_law_key : DX := pureD (fun p : Pt => [.str p.tx]) Pt.G fun p => p.key.lk
theorem pm_law_key : Pm 1 D_law_key := pm_pure fun _ => rfl
theorem wp_law_key (ds : List PyData) (n : Nat) (Q : QN) (h : D_law_key ds n Q) : td_law_key D_law_parts D_law_base (ends Q) (entry false N_law_key ds n) := by
  obtain ⟨p, rfl, h, q⟩ := h
  have q' : Q (.tuple [baseD p.ep (strip p.ns), stageD p.t, postD p.t.po, devD p.t.de]) n := q
  refine ⟨_, rfl, p, rfl, h, ?_⟩
  refine ⟨_, rfl, _, rfl, _, _, rfl, _, _, rfl, _, _, rfl, _, _, rfl, _, _, rfl, rfl, ?_⟩
  have hn : p.ns.length ≤ 1000 := Nat.le_trans h.ln (by decide)
  have last : ∀ s : PyData, s = stageD p.t → dRet (dTup (dCons (dCall D_law_base (dCons (dVar 1) dNil)) (dCons (dVar 7) (dCons (dIf (dTest (dOp neR (dVar 5) (dLst dNil))) (dVar 5) (dLst (dCons (dNeg (dC (.int 1))) dNil))) (dCons (dIf (dTest (dOp neR (dVar 6) (dLst dNil))) (dOp addR (dLst (dCons (dC (.int 0)) dNil)) (dVar 6)) (dLst (dCons (dC (.int 1)) dNil))) dNil))))) (ends Q)
      ⟨[.d (.str p.tx), .d p.lp, .d (.int (p.ep : Int)), .d (.list (natsD p.ns)), .d (lfD p.t.fo), .d (loD p.t.po), .d (loD p.t.de), .d s], n⟩ := by
    rintro _ rfl
    refine ⟨_, rfl, p, rfl, hn, _, rfl, _, rfl, fit (by rfl), shaped_lo _, rfl, _, rfl, ?_⟩
    have dev : ∀ w : PyData, w = postD p.t.po → (dCons (dIf (dTest (dOp neR (dVar 6) (dLst dNil))) (dOp addR (dLst (dCons (dC (.int 0)) dNil)) (dVar 6)) (dLst (dCons (dC (.int 1)) dNil))) dNil) ⟨[.d (.str p.tx), .d p.lp, .d (.int (p.ep : Int)), .d (.list (natsD p.ns)), .d (lfD p.t.fo), .d (loD p.t.po), .d (loD p.t.de), .d (stageD p.t)], n⟩ fun xs s => (baseD p.ep (strip p.ns) :: stageD p.t :: w :: xs).length ≤ sizeLine ∧ Q (.tuple (baseD p.ep (strip p.ns) :: stageD p.t :: w :: xs)) s.n := by
      rintro _ rfl
      refine ⟨_, rfl, fit (by rfl), shaped_lo _, rfl, _, rfl, ?_⟩
      cases hd : p.t.de with
      | none =>
        rw [hd] at q'
        exact onF rfl ⟨fit (by rfl), fit (by rfl), q'⟩
      | some d =>
        rw [hd] at q'
        exact onT rfl ⟨fit (by rfl), _, rfl, fit2 (by rfl), fit (by rfl), q'⟩
    cases hp : p.t.po with
    | none => rw [hp] at dev; exact onF rfl ⟨_, rfl, fit (by rfl), dev _ rfl⟩
    | some k => rw [hp] at dev; exact onT rfl ⟨_, rfl, dev _ rfl⟩
  refine ⟨_, rfl, fit (by rfl), shaped_lf _, rfl, _, rfl, ?_⟩
  cases hf : p.t.fo with
  | some a =>
    obtain ⟨i, k⟩ := a
    rw [hf] at last
    refine onT rfl ⟨fit (by rfl), _, rfl, fit2 (by rfl), ?_⟩
    exact last _ (by unfold stageD; rw [hf]; rfl)
  | none =>
    rw [hf] at last
    refine onF rfl ⟨_, rfl, fit (by rfl), shaped_lo _, rfl, _, rfl, ?_⟩
    have es : stageD p.t = .list [.int (stN p.t : Int)] := by unfold stageD; rw [hf]
    cases hp : p.t.po with
    | some k =>
      rw [hp] at last
      refine onF rfl (onF rfl ⟨fit (by rfl), last _ ?_⟩)
      rw [es]
      unfold stN
      rw [hp]
      rfl
    | none =>
      rw [hp] at last
      refine onT rfl ⟨_, rfl, fit (by rfl), shaped_lo _, rfl, _, rfl, ?_⟩
      cases hd : p.t.de with
      | none =>
        rw [hd] at last
        refine onF rfl ⟨fit (by rfl), last _ ?_⟩
        rw [es]
        unfold stN
        rw [hp, hd]
        rfl
      | some d =>
        rw [hd] at last
        refine onT rfl ⟨fit (by rfl), last _ ?_⟩
        rw [es]
        unfold stN
        rw [hp, hd]
        rfl
def D_law_is_forerunner : DX := pureD (fun p : Pt => [.str p.tx]) Pt.G fun p => .bool (!p.key.fin)
theorem pm_law_is_forerunner : Pm 1 D_law_is_forerunner := pm_pure fun _ => rfl
theorem wp_law_is_forerunner (ds : List PyData) (n : Nat) (Q : QN) (h : D_law_is_forerunner ds n Q) : td_law_is_forerunner D_law_parts (ends Q) (entry false N_law_is_forerunner ds n) := by
  obtain ⟨p, rfl, h, q⟩ := h
  have q' : Q (.bool (!(p.t.fo.isNone && p.t.de.isNone))) n := q
  refine ⟨_, rfl, p, rfl, h, ?_⟩
  refine ⟨_, rfl, lfD p.t.fo, by rfl, fit (by rfl), shaped_lf _, rfl, _, rfl, ?_⟩
  cases hf : p.t.fo with
  | some a => rw [hf] at q'; exact onT rfl q'
  | none =>
    rw [hf] at q'
    refine onF rfl ⟨_, rfl, loD p.t.de, by rfl, fit (by rfl), shaped_lo _, rfl, ?_⟩
    cases hd : p.t.de with
    | none => rw [hd] at q'; exact q'
    | some d => rw [hd] at q'; exact q'
end V

set_option Elab.async false
set_option linter.all false
set_option maxRecDepth 100000
set_option maxHeartbeats 4000000
namespace V
open PySem PySem.Spec PyProof.Rows L2 DL
open PySem.W (alike alikeAll dataLt)
open TL (numL joinL tl)
/-! ### the order of the law's keys -/
theorem word_lt : ∀ i j, i < 3 → j < 3 → dataLt (.str (wordS i)) (.str (wordS j)) = decide (i < j) := by
  have h : ∀ i j : Fin 3, dataLt (.str (wordS i.1)) (.str (wordS j.1)) = decide (i.1 < j.1) := by
    intro i j
    rw [PySem.W.dataLt_str, word_tx, word_tx]
    revert i j
    decide
  exact fun i j hi hj => h ⟨i, hi⟩ ⟨j, hj⟩
theorem word_eq : ∀ i j, i < 3 → j < 3 → PyData.eqv (.str (wordS i)) (.str (wordS j)) = decide (i = j) := by
  intro i j hi hj
  rw [word_tx, word_tx, eqv_tx]
  have h : ∀ i j : Fin 3, decide (wordL i.1 = wordL j.1) = decide (i.1 = j.1) := by decide
  exact h ⟨i, hi⟩ ⟨j, hj⟩
theorem one_int (a b : Int) : dataLt (.list [.int a]) (.list [.int b]) = decide (a < b) := by
  rw [PySem.W.dataLt_list, PySem.W.dataLt_cons (by simp [alike]), PySem.W.dataLt_int]
  by_cases h : a = b
  · subst h; simp [PyData.eqv]; exact lex_irrefl _
  · simp [PyData.eqv, h]
theorem alike_base (e e' : Nat) (b b' : List Nat) : alike (baseD e b) (baseD e' b') = true := by
  unfold baseD
  simp [alike, alikeAll, alike_nats]
theorem alike_stage (t t' : Tl) : alike (stageD t) (stageD t') = true := by
  unfold stageD
  split <;> split <;> simp [alike, alikeAll]
theorem alike_post (o o' : Option Nat) : alike (postD o) (postD o') = true := by
  cases o <;> cases o' <;> simp [postD, alike, alikeAll]
theorem alike_dev (o o' : Option Nat) : alike (devD o) (devD o') = true := by
  cases o <;> cases o' <;> simp [devD, alike, alikeAll]
theorem alike_lk (k k' : Ky) : alike k.lk k'.lk = true := by
  unfold Ky.lk
  simp [alike, alikeAll, alike_base, alike_stage, alike_post, alike_dev]
theorem eqv_base (e e' : Nat) (b b' : List Nat) : PyData.eqv (baseD e b) (baseD e' b') = decide (e = e' ∧ b = b') := by
  unfold baseD
  simp only [PyData.eqv, PyData.eqvAll, eqv_nats, Bool.and_true]
  by_cases h : e = e'
  · subst h; simp
  · have : ¬ ((e : Int) = (e' : Int)) := by omega
    simp [h, this]
theorem lt_base (e e' : Nat) (b b' : List Nat) : dataLt (baseD e b) (baseD e' b') = if e = e' then ltL b b' else decide (e < e') := by
  unfold baseD
  rw [PySem.W.dataLt_tuple, PySem.W.dataLt_cons (by simp [alike])]
  by_cases h : e = e'
  · subst h
    rw [if_pos (by simp [PyData.eqv]), if_pos rfl, PySem.W.dataLt_cons (by simp [alike, alike_nats])]
    by_cases h2 : b = b'
    · subst h2
      rw [if_pos (by simp [PyData.eqv, eqv_nats]), show PyProof.Rows.lexLt itemOrd (PySem.W.keyToksAll []) (PySem.W.keyToksAll []) = false from lex_irrefl _, ← lt_nats]
      exact (lex_irrefl _).symm
    · rw [if_neg (by simp [PyData.eqv, eqv_nats, h2]), PySem.W.dataLt_list, lt_nats]
  · rw [if_neg (by simp [PyData.eqv]; omega), if_neg h, PySem.W.dataLt_int]
    refine decide_eq_decide.mpr ?_
    omega
theorem post_row (o o' : Option Nat) (X : Bool) : (if PyData.eqv (postD o) (postD o') = true then X else dataLt (postD o) (postD o')) = match o, o' with
    | none, none => X
    | none, some _ => true
    | some _, none => false
    | some p, some p' => if p = p' then X else decide (p < p') := by
  cases o with
  | none =>
    cases o' with
    | none => rfl
    | some p =>
      have : ¬ ((-1 : Int) = (p : Int)) := by omega
      simp only [postD, one_int, PyData.eqv, PyData.eqvAll, Bool.and_true, beq_iff_eq, this, if_false]
      exact decide_eq_true (by omega)
  | some p =>
    cases o' with
    | none =>
      have : ¬ ((p : Int) = (-1 : Int)) := by omega
      simp only [postD, one_int, PyData.eqv, PyData.eqvAll, Bool.and_true, beq_iff_eq, this, if_false]
      exact decide_eq_false (by omega)
    | some p' =>
      simp only [postD, one_int, PyData.eqv, PyData.eqvAll, Bool.and_true, beq_iff_eq]
      by_cases h : p = p'
      · subst h; rw [if_pos rfl, if_pos rfl]
      · rw [if_neg (by omega), if_neg h]
        exact decide_eq_decide.mpr (by omega)
theorem dev_row (o o' : Option Nat) (X : Bool) : (if PyData.eqv (devD o) (devD o') = true then X else dataLt (devD o) (devD o')) = match o, o' with
    | none, none => X
    | none, some _ => false
    | some _, none => true
    | some p, some p' => if p = p' then X else decide (p < p') := by
  cases o with
  | none =>
    cases o' with
    | none => rfl
    | some p =>
      rw [if_neg (by simp [devD, PyData.eqv, PyData.eqvAll])]
      unfold devD
      rw [PySem.W.dataLt_list, PySem.W.dataLt_cons (by simp [alike]), if_neg (by simp [PyData.eqv]), PySem.W.dataLt_int]
      rfl
  | some p =>
    cases o' with
    | none =>
      rw [if_neg (by simp [devD, PyData.eqv, PyData.eqvAll])]
      unfold devD
      rw [PySem.W.dataLt_list, PySem.W.dataLt_cons (by simp [alike]), if_neg (by simp [PyData.eqv]), PySem.W.dataLt_int]
      rfl
    | some p' =>
      have e : PyData.eqv (devD (some p)) (devD (some p')) = decide (p = p') := by
        simp only [devD, PyData.eqv, PyData.eqvAll, Bool.and_true]
        by_cases h : p = p'
        · subst h; simp
        · have : ¬ ((p : Int) = (p' : Int)) := by omega
          simp [h, this]
      rw [e]
      show _ = if p = p' then X else decide (p < p')
      by_cases h : p = p'
      · rw [if_pos (decide_eq_true h), if_pos h]
      · rw [if_neg (by rw [decide_eq_true_iff]; exact h), if_neg h]
        unfold devD
        rw [PySem.W.dataLt_list, PySem.W.dataLt_cons (by simp [alike]), if_pos (by simp [PyData.eqv]), PySem.W.dataLt_cons (by simp [alike]), if_neg (by simp [PyData.eqv]; omega), PySem.W.dataLt_int]
        exact decide_eq_decide.mpr (by omega)
theorem stage_row (t t' : Tl) (h : t.ok) (h' : t'.ok) (X : Bool) : (if PyData.eqv (stageD t) (stageD t') = true then X else dataLt (stageD t) (stageD t')) = match t.fo, t'.fo with
    | some (i, n), some (i', n') => if i = i' then (if n = n' then X else decide (n < n')) else decide (i < i')
    | some _, none => decide (1 < stN t')
    | none, some _ => decide (stN t < 1)
    | none, none => if stN t = stN t' then X else decide (stN t < stN t') := by
  unfold stageD
  cases hf : t.fo with
  | none =>
    cases hf' : t'.fo with
    | none =>
      simp only [one_int, PyData.eqv, PyData.eqvAll, Bool.and_true, beq_iff_eq]
      by_cases h : stN t = stN t'
      · rw [if_pos (by omega), if_pos h]
      · rw [if_neg (by omega), if_neg h]
        exact decide_eq_decide.mpr (by omega)
    | some a =>
      obtain ⟨i', n'⟩ := a
      have : ¬ ((stN t : Int) = 1) := by unfold stN; split <;> omega
      simp only [PyData.eqv, PyData.eqvAll, Bool.and_false, if_false, Bool.false_eq_true]
      rw [PySem.W.dataLt_list, PySem.W.dataLt_cons (by simp [alike]), if_neg (by simp [PyData.eqv]; exact this), PySem.W.dataLt_int]
      exact decide_eq_decide.mpr (by omega)
  | some a =>
    obtain ⟨i, n⟩ := a
    cases hf' : t'.fo with
    | none =>
      have : ¬ ((1 : Int) = (stN t' : Int)) := by unfold stN; split <;> omega
      simp only [PyData.eqv, PyData.eqvAll, Bool.and_false, if_false, Bool.false_eq_true]
      rw [PySem.W.dataLt_list, PySem.W.dataLt_cons (by simp [alike]), if_neg (by simp [PyData.eqv]; exact this), PySem.W.dataLt_int]
      exact decide_eq_decide.mpr (by omega)
    | some a' =>
      obtain ⟨i', n'⟩ := a'
      have w := word_eq i i' (h _ _ hf) (h' _ _ hf')
      have e : PyData.eqv (.list [.int 1, .str (wordS i), .int (n : Int)]) (.list [.int 1, .str (wordS i'), .int (n' : Int)]) = (decide (i = i') && decide (n = n')) := by
        have w2 : PyData.eqv (.int (n : Int)) (.int (n' : Int)) = decide (n = n') := by
          simp only [PyData.eqv]
          by_cases h : n = n'
          · subst h; simp
          · have : ¬ ((n : Int) = (n' : Int)) := by omega
            simp [h, this]
        show (PyData.eqv (.int 1) (.int 1) && (PyData.eqv (.str (wordS i)) (.str (wordS i')) && (PyData.eqv (.int (n : Int)) (.int (n' : Int)) && true))) = _
        rw [w, w2, Bool.and_true]
        rfl
      show (if PyData.eqv (.list [.int 1, .str (wordS i), .int (n : Int)]) (.list [.int 1, .str (wordS i'), .int (n' : Int)]) = true then X else dataLt (.list [.int 1, .str (wordS i), .int (n : Int)]) (.list [.int 1, .str (wordS i'), .int (n' : Int)])) = if i = i' then (if n = n' then X else decide (n < n')) else decide (i < i')
      rw [e, PySem.W.dataLt_list, PySem.W.dataLt_cons (by simp [alike]), if_pos (show PyData.eqv (.int 1) (.int 1) = true from rfl), PySem.W.dataLt_cons (by simp [alike]), w, word_lt i i' (h _ _ hf) (h' _ _ hf')]
      by_cases hi : i = i'
      · subst hi
        by_cases hn : n = n'
        · subst hn; simp
        · rw [if_neg (by simp [hn]), if_pos (by simp), if_pos rfl, if_neg hn, PySem.W.dataLt_cons (by simp [alike]), if_neg (by simp [PyData.eqv]; omega), PySem.W.dataLt_int]
          exact decide_eq_decide.mpr (by omega)
      · rw [if_neg (by simp [hi]), if_neg (by simp [hi]), if_neg hi]
theorem lt_tail (t t' : Tl) (h : t.ok) (h' : t'.ok) : PyProof.Rows.lexLt itemOrd (PySem.W.keyToksAll [stageD t, postD t.po, devD t.de]) (PySem.W.keyToksAll [stageD t', postD t'.po, devD t'.de]) = ltL t.l t'.l := by
  rw [PySem.W.dataLt_cons (alike_stage _ _), PySem.W.dataLt_cons (alike_post _ _), PySem.W.dataLt_cons (alike_dev _ _), show PyProof.Rows.lexLt itemOrd (PySem.W.keyToksAll []) (PySem.W.keyToksAll []) = false from lex_irrefl _, dev_row, post_row, stage_row _ _ h h']
  obtain ⟨fo, po, de⟩ := t
  obtain ⟨fo', po', de'⟩ := t'
  rcases fo with _ | ⟨i, a⟩ <;> rcases po with _ | p <;> rcases de with _ | d <;> rcases fo' with _ | ⟨i', a'⟩ <;> rcases po' with _ | p' <;> rcases de' with _ | d' <;> simp [Tl.l, ownL, stN, ltL]
theorem lt_lk (k k' : Ky) (h : k.t.ok) (h' : k'.t.ok) : dataLt k.lk k'.lk = k.cut.lt k'.cut := by
  unfold Ky.lk
  rw [PySem.W.dataLt_tuple, PySem.W.dataLt_cons (alike_base _ _ _ _), eqv_base, lt_tail _ _ h h', lt_base]
  unfold Cut.lt
  show _ = if k.ep = k'.ep then (if k.b = k'.b then ltL k.t.l k'.t.l else ltL k.b k'.b) else decide (k.ep < k'.ep)
  by_cases h1 : k.ep = k'.ep
  · by_cases h2 : k.b = k'.b
    · rw [if_pos (decide_eq_true ⟨h1, h2⟩), if_pos h1, if_pos h2]
    · rw [if_neg (by simp [h2]), if_pos h1, if_pos h1, if_neg h2]
  · rw [if_neg (by simp [h1]), if_neg h1, if_neg h1]
end V

set_option Elab.async false
set_option linter.all false
set_option maxRecDepth 100000
set_option maxHeartbeats 4000000
namespace V
open PySem PySem.Spec PyProof.Rows L2 DL
open PySem.W (alike alikeAll dataLt)
open TL (numL joinL tl)
theorem eqv_int (a b : Nat) : PyData.eqv (.int (a : Int)) (.int (b : Int)) = decide (a = b) := by
  simp only [PyData.eqv]
  by_cases h : a = b
  · subst h; simp
  · have : ¬ ((a : Int) = (b : Int)) := by omega
    simp [h, this]
theorem eqv_post (o o' : Option Nat) : PyData.eqv (postD o) (postD o') = decide (o = o') := by
  cases o <;> cases o'
  · rfl
  · rename_i p
    have : ¬ ((-1 : Int) = (p : Int)) := by omega
    simp [postD, PyData.eqv, PyData.eqvAll, this]
  · rename_i p
    have : ¬ ((p : Int) = (-1 : Int)) := by omega
    simp [postD, PyData.eqv, PyData.eqvAll, this]
  · rename_i p p'
    show (PyData.eqv (.int (p : Int)) (.int (p' : Int)) && true) = _
    rw [eqv_int]
    simp
theorem eqv_dev (o o' : Option Nat) : PyData.eqv (devD o) (devD o') = decide (o = o') := by
  cases o <;> cases o'
  · rfl
  · simp [devD, PyData.eqv, PyData.eqvAll]
  · simp [devD, PyData.eqv, PyData.eqvAll]
  · rename_i p p'
    show (PyData.eqv (.int 0) (.int 0) && (PyData.eqv (.int (p : Int)) (.int (p' : Int)) && true)) = _
    rw [eqv_int, show PyData.eqv (.int 0) (.int 0) = true from rfl]
    simp
theorem eqv_stage (t t' : Tl) (h : t.ok) (h' : t'.ok) : PyData.eqv (stageD t) (stageD t') = match t.fo, t'.fo with
    | some (i, n), some (i', n') => decide (i = i' ∧ n = n')
    | none, none => decide (stN t = stN t')
    | _, _ => false := by
  unfold stageD
  cases hf : t.fo with
  | none =>
    cases hf' : t'.fo with
    | none =>
      show (PyData.eqv (.int (stN t : Int)) (.int (stN t' : Int)) && true) = decide (stN t = stN t')
      rw [eqv_int, Bool.and_true]
    | some a => obtain ⟨i, n⟩ := a; simp [PyData.eqv, PyData.eqvAll]
  | some a =>
    obtain ⟨i, n⟩ := a
    cases hf' : t'.fo with
    | none => simp [PyData.eqv, PyData.eqvAll]
    | some a' =>
      obtain ⟨i', n'⟩ := a'
      show (PyData.eqv (.int 1) (.int 1) && (PyData.eqv (.str (wordS i)) (.str (wordS i')) && (PyData.eqv (.int (n : Int)) (.int (n' : Int)) && true))) = decide (i = i' ∧ n = n')
      rw [word_eq i i' (h _ _ hf) (h' _ _ hf'), eqv_int, show PyData.eqv (.int 1) (.int 1) = true from rfl, Bool.and_true, Bool.true_and, Bool.decide_and]
theorem eqv_lk (k k' : Ky) (h : k.t.ok) (h' : k'.t.ok) : PyData.eqv k.lk k'.lk = decide (k = k') := by
  show (PyData.eqv (baseD k.ep k.b) (baseD k'.ep k'.b) && (PyData.eqv (stageD k.t) (stageD k'.t) && (PyData.eqv (postD k.t.po) (postD k'.t.po) && (PyData.eqv (devD k.t.de) (devD k'.t.de) && true)))) = _
  rw [eqv_base, eqv_stage _ _ h h', eqv_post, eqv_dev]
  obtain ⟨e, b, fo, po, de⟩ := k
  obtain ⟨e', b', fo', po', de'⟩ := k'
  rw [Bool.eq_iff_iff]
  rcases fo with _ | ⟨i, a⟩ <;> rcases fo' with _ | ⟨i', a'⟩ <;> rcases po with _ | p <;> rcases po' with _ | p' <;> rcases de with _ | d <;> rcases de' with _ | d' <;> simp [stN, and_assoc]
theorem lay_base (e : Nat) (b : List Nat) : PyData.canLay0 (baseD e b) = true := by
  unfold baseD
  simp only [PyData.canLay0, PyData.canLayAll0, lay_nats, Bool.and_self]
theorem lay_stage (t : Tl) : PyData.canLay0 (stageD t) = true := by
  unfold stageD
  split
  · rename_i i n _
    have h1 : PyData.canLay0 (.str (wordS i)) = true := by rw [word_tx]; exact lay_tx (asc_word i)
    show (true && (PyData.canLay0 (.str (wordS i)) && (true && true))) = true
    rw [h1]
    rfl
  · rfl
theorem lay_post (o : Option Nat) : PyData.canLay0 (postD o) = true := by cases o <;> rfl
theorem lay_dev (o : Option Nat) : PyData.canLay0 (devD o) = true := by cases o <;> rfl
theorem lay_lk (k : Ky) : PyData.canLay0 k.lk = true := by
  show (PyData.canLay0 _ && (PyData.canLay0 _ && (PyData.canLay0 _ && (PyData.canLay0 _ && true)))) = true
  rw [lay_base, lay_stage, lay_post, lay_dev]
  rfl
theorem depth_base (e : Nat) (b : List Nat) : (baseD e b).depth = 2 := by
  unfold baseD
  simp only [PyData.depth, PyData.depthAll, depth_nats]
  decide
theorem depth_stage (t : Tl) : (stageD t).depth = 1 := by
  unfold stageD
  split <;> simp [PyData.depth, PyData.depthAll]
theorem depth_post (o : Option Nat) : (postD o).depth = 1 := by cases o <;> rfl
theorem depth_dev (o : Option Nat) : (devD o).depth = 1 := by cases o <;> rfl
theorem depth_lk (k : Ky) : k.lk.depth = 3 := by
  unfold Ky.lk
  simp only [PyData.depth, PyData.depthAll, depth_base, depth_stage, depth_post, depth_dev]
  decide
theorem shaped_lk (k : Ky) : SeqAt.shaped k.lk = true := Bool.and_eq_true_iff.mpr ⟨lay_lk k, decide_eq_true (by rw [depth_lk]; decide)⟩
theorem lk_ne (k : Ky) : k.lk ≠ .none := fun h => nomatch h
/-! ### _law_text -/
def D_law_text : DX := pureD (fun p : Pt => [.int (p.ep : Int), .list (natsD p.ns), lfD p.t.fo, loD p.t.po, loD p.t.de]) Pt.G fun p => .str p.tx
theorem pm_law_text : Pm 5 D_law_text := pm_pure fun _ => rfl
theorem wp_law_text (ds : List PyData) (n : Nat) (Q : QN) (h : D_law_text ds n Q) : td_law_text (ends Q) (entry false N_law_text ds n) := by
  obtain ⟨⟨ep, ns, fo, po, de⟩, rfl, h, q⟩ := h
  have hr := len_ren h
  have hf : ∀ i k, fo = some (i, k) → i < 3 ∧ k < 10 ^ 24 := h.t.1
  have hpo : ∀ k, po = some k → k < 10 ^ 24 := h.t.2.1
  have hde : ∀ k, de = some k → k < 10 ^ 24 := h.t.2.2
  have hep : ep < 10 ^ 24 := h.eb
  have hnb : ∀ k ∈ ns, k < 10 ^ 24 := h.nb
  have hnl : ns.length ≤ 60 := h.ln
  have er : ren ⟨ep, ns, ⟨fo, po, de⟩⟩ = epL ep ++ joinN ns ++ foL fo ++ poL po ++ deL de := by unfold ren tlL; simp only [List.append_assoc]
  have q' : Q (.str (tx (epL ep ++ joinN ns ++ foL fo ++ poL po ++ deL de))) n := by rw [← er]; exact q
  rw [er] at hr
  simp only [List.length_append] at hr
  have S := fun z : PyData => (⟨[.d (.int (ep : Int)), .d (.list (natsD ns)), .d (lfD fo), .d (loD po), .d (loD de), .d z, .un], n⟩ : DS)
  have e3 : (dRet (dOp addR (dVar 5) (dIf (dTest (dOp neR (dVar 4) (dLst dNil))) (dOp addR (dC (.str ".dev")) (dCB strR1 (dCons (dOp ixR (dVar 4) (dC (.int 0))) dNil))) (dC (.str ""))))) (ends Q) ⟨[.d (.int (ep : Int)), .d (.list (natsD ns)), .d (lfD fo), .d (loD po), .d (loD de), .d (.str (tx (epL ep ++ joinN ns ++ foL fo ++ poL po))), .un], n⟩ := by
    refine ⟨_, rfl, _, rfl, fit (by rfl), shaped_lo _, rfl, _, rfl, ?_⟩
    cases de with
    | none =>
      refine onF rfl ⟨by rw [lit_empty, tx_len, tx_len, sizeLine_eq]; simp only [List.length_append, List.length_nil]; omega, ?_⟩
      rw [lit_empty, tx_app]
      exact q'
    | some d =>
      have hd := len_num (hde d rfl)
      refine onT rfl ⟨_, rfl, .int (d : Int), at0, log_lt (hde d rfl), ?_⟩
      rw [lit_num, lit_dev]
      refine ⟨by rw [tx_len, tx_len, sizeLine_eq]; simp only [List.length_cons, List.length_nil]; omega, ?_⟩
      rw [tx_app]
      refine ⟨by rw [tx_len, tx_len, sizeLine_eq]; simp only [List.length_append, List.length_cons, List.length_nil]; omega, ?_⟩
      rw [tx_app]
      exact q'
  have e2 : (dSeq (dAsg (dOp addR (dVar 5) (dIf (dTest (dOp neR (dVar 3) (dLst dNil))) (dOp addR (dC (.str ".post")) (dCB strR1 (dCons (dOp ixR (dVar 3) (dC (.int 0))) dNil))) (dC (.str "")))) (gdName 5))
  (dRet (dOp addR (dVar 5) (dIf (dTest (dOp neR (dVar 4) (dLst dNil))) (dOp addR (dC (.str ".dev")) (dCB strR1 (dCons (dOp ixR (dVar 4) (dC (.int 0))) dNil))) (dC (.str "")))))) (ends Q) ⟨[.d (.int (ep : Int)), .d (.list (natsD ns)), .d (lfD fo), .d (loD po), .d (loD de), .d (.str (tx (epL ep ++ joinN ns ++ foL fo))), .un], n⟩ := by
    refine ⟨_, rfl, _, rfl, fit (by rfl), shaped_lo _, rfl, _, rfl, ?_⟩
    cases po with
    | none =>
      refine onF rfl ⟨by rw [lit_empty, tx_len, tx_len, sizeLine_eq]; simp only [List.length_append, List.length_nil]; omega, ?_⟩
      rw [lit_empty, tx_app]
      exact e3
    | some d =>
      have hd := len_num (hpo d rfl)
      refine onT rfl ⟨_, rfl, .int (d : Int), at0, log_lt (hpo d rfl), ?_⟩
      rw [lit_num, lit_post]
      refine ⟨by rw [tx_len, tx_len, sizeLine_eq]; simp only [List.length_cons, List.length_nil]; omega, ?_⟩
      rw [tx_app]
      refine ⟨by rw [tx_len, tx_len, sizeLine_eq]; simp only [List.length_append, List.length_cons, List.length_nil]; omega, ?_⟩
      rw [tx_app]
      exact e3
  have e1 : (dSeq (dAsg (dOp addR (dVar 5) (dIf (dTest (dOp neR (dVar 2) (dLst dNil))) (dOp addR (dOp ixR (dVar 2) (dC (.int 0))) (dCB strR1 (dCons (dOp ixR (dVar 2) (dC (.int 1))) dNil))) (dC (.str "")))) (gdName 5))
  (dSeq (dAsg (dOp addR (dVar 5) (dIf (dTest (dOp neR (dVar 3) (dLst dNil))) (dOp addR (dC (.str ".post")) (dCB strR1 (dCons (dOp ixR (dVar 3) (dC (.int 0))) dNil))) (dC (.str "")))) (gdName 5))
  (dRet (dOp addR (dVar 5) (dIf (dTest (dOp neR (dVar 4) (dLst dNil))) (dOp addR (dC (.str ".dev")) (dCB strR1 (dCons (dOp ixR (dVar 4) (dC (.int 0))) dNil))) (dC (.str ""))))))) (ends Q) ⟨[.d (.int (ep : Int)), .d (.list (natsD ns)), .d (lfD fo), .d (loD po), .d (loD de), .d (.str (tx (epL ep ++ joinN ns))), .un], n⟩ := by
    refine ⟨_, rfl, _, rfl, fit (by rfl), shaped_lf _, rfl, _, rfl, ?_⟩
    cases fo with
    | none =>
      refine onF rfl ⟨by rw [lit_empty, tx_len, tx_len, sizeLine_eq]; simp only [List.length_append, List.length_nil]; omega, ?_⟩
      rw [lit_empty, tx_app]
      exact e2
    | some a =>
      obtain ⟨i, d⟩ := a
      have hd := len_num (hf i d rfl).2
      refine onT rfl ⟨_, rfl, .str (wordS i), at0, _, rfl, .int (d : Int), at1, log_lt (hf i d rfl).2, ?_⟩
      rw [lit_num, word_tx]
      have hw : (wordL i).length ≤ 2 := by unfold wordL; split <;> decide
      refine ⟨by rw [tx_len, tx_len, sizeLine_eq]; omega, ?_⟩
      rw [tx_app]
      refine ⟨by rw [tx_len, tx_len, sizeLine_eq]; simp only [List.length_append]; omega, ?_⟩
      rw [tx_app]
      exact e2
  -- the numbers
  have nums : ∀ L : List Nat, L = epL ep → (dBM joinR (dC (.str ".")) (dCons (dFrz (dLc (diL (dVar 1)) (gdName 6) dYes (dCB strR1 (dCons (dVar 6) dNil)) [6])) dNil)) ⟨[.d (.int (ep : Int)), .d (.list (natsD ns)), .d (lfD fo), .d (loD po), .d (loD de), .un, .un], n⟩ fun y s2 => addR (.str (tx L)) y fun z => (dSeq (dAsg (dOp addR (dVar 5) (dIf (dTest (dOp neR (dVar 2) (dLst dNil))) (dOp addR (dOp ixR (dVar 2) (dC (.int 0))) (dCB strR1 (dCons (dOp ixR (dVar 2) (dC (.int 1))) dNil))) (dC (.str "")))) (gdName 5))
  (dSeq (dAsg (dOp addR (dVar 5) (dIf (dTest (dOp neR (dVar 3) (dLst dNil))) (dOp addR (dC (.str ".post")) (dCB strR1 (dCons (dOp ixR (dVar 3) (dC (.int 0))) dNil))) (dC (.str "")))) (gdName 5))
  (dRet (dOp addR (dVar 5) (dIf (dTest (dOp neR (dVar 4) (dLst dNil))) (dOp addR (dC (.str ".dev")) (dCB strR1 (dCons (dOp ixR (dVar 4) (dC (.int 0))) dNil))) (dC (.str ""))))))) (ends Q) { s2 with r := s2.r.set 5 (.d z) } := by
    rintro _ rfl
    refine ⟨_, rfl, _, rfl, _, rfl, by rw [natsD_len, sizeLine_eq]; omega, ?_⟩
    refine lc_pure (fun m : Nat => .int (m : Int)) (fun _ => true) (fun m : Nat => .str (tx (numL m))) ns [] (fun m hm K K0 h1 _ => ?_) ?_
    · refine ⟨_, rfl, log_lt (hnb m hm), ?_⟩
      rw [lit_num]
      exact h1 rfl
    · rw [List.nil_append, List.filter_eq_self.mpr (fun _ _ => rfl)]
      refine ⟨ns.map fun m => tx (numL m), by rw [List.map_map]; rfl, ?_, ?_⟩
      · have := join_len hnb
        rw [List.length_map, lit_dot, tx_len]
        simp only [List.length_cons, List.length_nil]
        omega
      · rw [join_tx]
        refine ⟨by rw [tx_len, tx_len, sizeLine_eq]; omega, ?_⟩
        rw [tx_app]
        exact e1
  refine ⟨_, rfl, by simp only [alike], by simp, by simp only [PyData.depth]; omega, _, rfl, ?_⟩
  by_cases h0 : ep = 0
  · refine onF (by show dataLt (.int 0) (.int (ep : Int)) = false; rw [PySem.W.dataLt_int, h0]; decide) ?_
    rw [lit_empty]
    exact nums [] (by rw [h0]; rfl)
  · refine onT (by show dataLt (.int 0) (.int (ep : Int)) = true; rw [PySem.W.dataLt_int]; exact decide_eq_true (by omega)) ⟨_, rfl, log_lt hep, ?_⟩
    rw [lit_num, lit_mark]
    have hn := len_num hep
    refine ⟨by rw [tx_len, tx_len, sizeLine_eq]; simp only [List.length_cons, List.length_nil]; omega, ?_⟩
    rw [tx_app]
    exact nums _ (by unfold epL; rw [if_neg h0])
end V

set_option Elab.async false
set_option linter.all false
set_option maxRecDepth 100000
set_option maxHeartbeats 4000000
namespace V
open PySem PySem.Spec PyProof.Rows L2 DL
open PySem.W (alike alikeAll dataLt)
open TL (numL joinL tl)
/-! ### a text has one reading -/
theorem pn_inj : ∀ {o o' : Option Nat}, pnL o = pnL o' → o = o'
  | none, none, _ => rfl
  | none, some n, h => absurd h.symm (num_ne n)
  | some n, none, h => absurd h (num_ne n)
  | some n, some n', h => congrArg some (TL.numL_inj h)
theorem ed_inj {e e' : Nat} (h : edL e = edL e') : e = e' := by
  unfold edL at h
  split at h <;> split at h
  · omega
  · exact absurd h.symm (num_ne e')
  · exact absurd h (num_ne e)
  · exact TL.numL_inj h
theorem ns_inj {ns ns' : List Nat} (h0 : ns ≠ []) (h1 : ns' ≠ []) (h : joinN ns = joinN ns') : ns = ns' := by
  have e := (dot_part h0).symm.trans ((congrArg (fun l => Txt.split (tx l) (Str.ofString ".")) h).trans (dot_part h1))
  have : ∀ a b : List Nat, a.map (fun n => tx (numL n)) = b.map (fun n => tx (numL n)) → a = b := by
    intro a
    induction a with
    | nil => intro b hb; cases b with
      | nil => rfl
      | cons => cases hb
    | cons x a ih =>
      intro b hb
      cases b with
      | nil => cases hb
      | cons y b =>
        rw [List.map_cons, List.map_cons] at hb
        injection hb with h1 h2
        rw [TL.numL_inj (tx_inj h1), ih b h2]
  exact this _ _ e
def lett (i : Nat) : Nat := if i = 0 then 97 else if i = 1 then 98 else 114
theorem lett_c (i : Nat) : lett i = 97 ∨ lett i = 98 ∨ lett i = 114 := by
  unfold lett
  split
  · exact .inl rfl
  · split
    · exact .inr (.inl rfl)
    · exact .inr (.inr rfl)
theorem lett_inj {i j : Nat} (hi : i < 3) (hj : j < 3) (h : lett i = lett j) : i = j := by
  have : ∀ i j : Fin 3, lett i.1 = lett j.1 → i = j := by decide
  exact congrArg Fin.val (this ⟨i, hi⟩ ⟨j, hj⟩ h)
theorem fo_letter {ns : List Nat} {fo : Option (Nat × Nat)} {c : Nat} (hc : c = 97 ∨ c = 98 ∨ c = 114) (hf : ∀ i k, fo = some (i, k) → i < 3) : c ∈ joinN ns ++ foL fo ↔ ∃ i k, fo = some (i, k) ∧ c = lett i := by
  have hd : ¬ isDig c := by unfold isDig; omega
  have h46 : c ≠ 46 := by omega
  rw [List.mem_append]
  constructor
  · rintro (h | h)
    · exact absurd h (free_join hd h46 ns)
    · cases fo with
      | none => cases h
      | some a =>
        obtain ⟨i, k⟩ := a
        refine ⟨i, k, rfl, ?_⟩
        have hi := hf i k rfl
        rcases List.mem_append.mp h with h | h
        · have hi3 : i = 0 ∨ i = 1 ∨ i = 2 := by omega
          rcases hi3 with rfl | rfl | rfl
          · simp [wordL] at h; simp [lett]; exact h
          · simp [wordL] at h; simp [lett]; exact h
          · simp [wordL] at h; simp [lett]; omega
        · exact absurd h (free_num hd)
  · rintro ⟨i, k, rfl, e⟩
    have hi := hf i k rfl
    refine .inr (List.mem_append_left _ ?_)
    have hi3 : i = 0 ∨ i = 1 ∨ i = 2 := by omega
    rcases hi3 with rfl | rfl | rfl <;> simp [wordL] <;> simp [lett] at e <;> omega
theorem tx_pt_inj {p q : Pt} (hp : p.G) (hq : q.G) (h : p.tx = q.tx) : p = q := by
  obtain ⟨m1, e1⟩ := p_mark p
  obtain ⟨m1', e1'⟩ := p_mark q
  rw [h] at e1
  have z1 := e1.symm.trans e1'
  have he := ed_inj (tx_inj (congrArg Prod.fst z1))
  have hr : joinN p.ns ++ tlL p.t = joinN q.ns ++ tlL q.t := tx_inj (congrArg (fun z => z.2.2) z1)
  obtain ⟨m2, e2⟩ := p_dev p.ns p.t.fo p.t.po p.t.de
  obtain ⟨m2', e2'⟩ := p_dev q.ns q.t.fo q.t.po q.t.de
  have hr' : joinN p.ns ++ (foL p.t.fo ++ (poL p.t.po ++ deL p.t.de)) = joinN q.ns ++ (foL q.t.fo ++ (poL q.t.po ++ deL q.t.de)) := hr
  rw [hr'] at e2
  have z2 := e2.symm.trans e2'
  have hde := pn_inj (tx_inj (congrArg (fun z => z.2.2) z2))
  have hr2 : joinN p.ns ++ (foL p.t.fo ++ poL p.t.po) = joinN q.ns ++ (foL q.t.fo ++ poL q.t.po) := tx_inj (congrArg Prod.fst z2)
  obtain ⟨m3, e3⟩ := p_post p.ns p.t.fo p.t.po
  obtain ⟨m3', e3'⟩ := p_post q.ns q.t.fo q.t.po
  rw [hr2] at e3
  have z3 := e3.symm.trans e3'
  have hpo := pn_inj (tx_inj (congrArg (fun z => z.2.2) z3))
  have hr3 : joinN p.ns ++ foL p.t.fo = joinN q.ns ++ foL q.t.fo := tx_inj (congrArg Prod.fst z3)
  have fp : ∀ i k, p.t.fo = some (i, k) → i < 3 := fun i k e => (hp.t.1 i k e).1
  have fq : ∀ i k, q.t.fo = some (i, k) → i < 3 := fun i k e => (hq.t.1 i k e).1
  have both : joinN p.ns = joinN q.ns ∧ p.t.fo = q.t.fo := by
    cases hf : p.t.fo with
    | none =>
      cases hg : q.t.fo with
      | none =>
        rw [hf, hg] at hr3
        exact ⟨by simpa [foL] using hr3, rfl⟩
      | some b =>
        obtain ⟨j, k⟩ := b
        have hj := fq j k hg
        have hc := lett_c j
        have := (fo_letter (ns := q.ns) hc fq).mpr ⟨j, k, hg, rfl⟩
        rw [← hr3] at this
        obtain ⟨i, k', e, _⟩ := (fo_letter hc fp).mp this
        rw [hf] at e
        cases e
    | some a =>
      obtain ⟨i, k⟩ := a
      have hi := fp i k hf
      have hc := lett_c i
      have := (fo_letter (ns := p.ns) hc fp).mpr ⟨i, k, hf, rfl⟩
      rw [hr3] at this
      obtain ⟨j, k', e, hij⟩ := (fo_letter hc fq).mp this
      have hj := fq j k' e
      have eij : i = j := lett_inj hi hj hij
      subst eij
      rw [hf, e] at hr3
      have hr4 : joinN p.ns ++ (wordL i ++ numL k) = joinN q.ns ++ (wordL i ++ numL k') := hr3
      have hi3 : i = 0 ∨ i = 1 ∨ i = 2 := by omega
      have split : joinN p.ns = joinN q.ns ∧ numL k = numL k' := by
        rcases hi3 with rfl | rfl | rfl
        · have z := (part1_at (s := 97) (S := []) (q := numL k) (free_join (by decide) (by decide) p.ns)).symm.trans ((congrArg (fun l => Txt.partition (tx l) (tx [97])) hr4).trans (part1_at (s := 97) (S := []) (q := numL k') (free_join (by decide) (by decide) q.ns)))
          exact ⟨tx_inj (congrArg Prod.fst z), tx_inj (congrArg (fun z => z.2.2) z)⟩
        · have z := (part1_at (s := 98) (S := []) (q := numL k) (free_join (by decide) (by decide) p.ns)).symm.trans ((congrArg (fun l => Txt.partition (tx l) (tx [98])) hr4).trans (part1_at (s := 98) (S := []) (q := numL k') (free_join (by decide) (by decide) q.ns)))
          exact ⟨tx_inj (congrArg Prod.fst z), tx_inj (congrArg (fun z => z.2.2) z)⟩
        · have z := (part1_at (s := 114) (S := [99]) (q := numL k) (free_join (by decide) (by decide) p.ns)).symm.trans ((congrArg (fun l => Txt.partition (tx l) (tx [114, 99])) hr4).trans (part1_at (s := 114) (S := [99]) (q := numL k') (free_join (by decide) (by decide) q.ns)))
          exact ⟨tx_inj (congrArg Prod.fst z), tx_inj (congrArg (fun z => z.2.2) z)⟩
      exact ⟨split.1, by rw [e, TL.numL_inj split.2]⟩
  have hns := ns_inj hp.ne hq.ne both.1
  obtain ⟨ep, ns, fo, po, de⟩ := p
  obtain ⟨ep', ns', fo', po', de'⟩ := q
  dsimp only at he hde hpo hns both
  rw [he, hns, both.2, hpo, hde]
/-- a text's key, as data -/
noncomputable def keyFn (d : PyData) : PyData := open Classical in if h : ∃ p : Pt, p.G ∧ d = .str p.tx then h.choose.key.lk else .none
theorem keyFn_at {p : Pt} (hp : p.G) : keyFn (.str p.tx) = p.key.lk := by
  have h : ∃ q : Pt, q.G ∧ PyData.str p.tx = .str q.tx := ⟨p, hp, rfl⟩
  unfold keyFn
  rw [dif_pos h]
  obtain ⟨h1, h2⟩ := h.choose_spec
  exact congrArg (fun q : Pt => q.key.lk) (tx_pt_inj hp h1 (PyData.str.inj h2)).symm
end V

set_option Elab.async false
set_option linter.all false
set_option maxRecDepth 100000
set_option maxHeartbeats 4000000
namespace V
open PySem PySem.Spec PyProof.Rows L2 DL
open PySem.W (alike alikeAll dataLt)
open TL (numL joinL tl)
/-! ### _law_in_block -/
def inBlk (p : Pt) (ns : List Nat) (e : Nat) : Bool := decide (p.ep = e) && decide ((p.ns ++ List.replicate ns.length 0).take ns.length = ns)
def D_law_in_block : DX := pureD (fun a : Pt × List Nat × Nat => [a.1.lp, .list (natsD a.2.1), .int (a.2.2 : Int)]) (fun a => a.1.ns.length ≤ 1000 ∧ a.2.1.length ≤ 1000) fun a => .bool (inBlk a.1 a.2.1 a.2.2)
theorem pm_law_in_block : Pm 3 D_law_in_block := pm_pure fun _ => rfl
theorem wp_law_in_block (ds : List PyData) (n : Nat) (Q : QN) (h : D_law_in_block ds n Q) : td_law_in_block (ends Q) (entry false N_law_in_block ds n) := by
  obtain ⟨⟨p, ns, e⟩, rfl, ⟨h1, h2⟩, q⟩ := h
  have h1' : p.ns.length ≤ 1000 := h1
  have h2' : ns.length ≤ 1000 := h2
  have q' : Q (.bool (inBlk p ns e)) n := q
  unfold inBlk at q'
  have hl : (natsD ns).length = ns.length := natsD_len ns
  refine ⟨_, rfl, .list (natsD p.ns), at1, fit (by rfl), _, rfl, by show (0 : Int) ≤ ((natsD ns).length : Nat); omega, by show (((natsD ns).length : Nat) : Int) ≤ 1000; omega, by show 1 ≤ 1000; decide, ?_⟩
  show addR (.list (natsD p.ns)) (.list (List.replicate (natsD ns).length [PyData.int 0]).flatten) _
  rw [rep0, hl]
  refine ⟨by rw [natsD_len, natsD_len, List.length_replicate, sizeLine_eq]; omega, ?_⟩
  rw [natsD_app]
  refine ⟨_, rfl, .int (p.ep : Int), at0, _, rfl, rfl, rfl, _, rfl, ?_⟩
  show if PyData.eqv (.int (p.ep : Int)) (.int (e : Int)) = true then _ else _
  rw [eqv_int]
  by_cases he : p.ep = e
  · rw [decide_eq_true he, Bool.true_and] at q'
    refine onT (decide_eq_true he) ⟨_, rfl, _, rfl, _, rfl, _, rfl, ?_⟩
    have ec : DL.cutD (natsD (p.ns ++ List.replicate ns.length 0)) none (some ((natsD ns).length : Int)) = natsD ((p.ns ++ List.replicate ns.length 0).take ns.length) := by
      rw [hl, cut_to]
      unfold natsD
      rw [List.map_take]
    refine ⟨by show SeqAt.shaped (.list (DL.cutD _ _ _)) = true; rw [ec]; exact shaped_nl _, shaped_nl _, ?_⟩
    show Q (.bool (PyData.eqv (.list (DL.cutD (natsD (p.ns ++ List.replicate ns.length 0)) none (some ((natsD ns).length : Int)))) (.list (natsD ns)))) n
    rw [ec]
    simp only [PyData.eqv]
    rw [eqv_nats]
    exact q'
  · rw [decide_eq_false he, Bool.false_and] at q'
    exact onF (decide_eq_false he) q'
/-! ### _law_clause_lets -/
def baseLt (p q : Pt) : Bool := if p.ep = q.ep then ltL (strip p.ns) (strip q.ns) else decide (p.ep < q.ep)
def clLets (c : Cl) (v : Pt) : Bool := if c.st = true then (inBlk v c.p.ns c.p.ep == decide (c.sg = 0)) else match c.sg with
  | 4 => baseLt v c.p
  | 5 => baseLt c.p v
  | 6 => (!v.key.cut.lt c.p.key.cut) && inBlk v c.p.ns.dropLast c.p.ep
  | 3 => !v.key.cut.lt c.p.key.cut
  | 2 => !c.p.key.cut.lt v.key.cut
  | 0 => decide (v.key = c.p.key)
  | _ => !decide (v.key = c.p.key)
def D_law_clause_lets : DX := pureD (fun a : Cl × Pt => [a.1.d, .str a.2.tx]) (fun a => a.1.G ∧ a.2.G) fun a => .bool (clLets a.1 a.2)
theorem pm_law_clause_lets : Pm 2 D_law_clause_lets := pm_pure fun _ => rfl
theorem Cl.end2 (c : Cl) : ∃ L : List Nat, cutS c.tx (some (-2)) none = V.tx L ∧ Asc L ∧ decide (L = [46, 42]) = c.st := by
  cases h : c.st with
  | true =>
    rw [Cl.tx_t h]
    refine ⟨[46, 42], ?_, fun x hx => by simp at hx; omega, by decide⟩
    refine (cutS_fromneg (ren c.p ++ [46, 42]) 2 (by decide)).trans ?_
    rw [List.length_append, show ([46, 42] : List Nat).length = 2 from rfl, Nat.add_sub_cancel, List.drop_left]
  | false =>
    rw [Cl.tx_f h]
    refine ⟨_, cutS_fromneg (ren c.p) 2 (by decide), fun x hx => asc_ren _ x (List.mem_of_mem_drop hx), decide_eq_false fun e => ?_⟩
    exact free42 c.p (List.mem_of_mem_drop (i := (ren c.p).length - 2) (a := 42) (by rw [e]; simp))
theorem Cl.end_eq (c : Cl) : PyData.eqv (.str (cutS c.tx (some (-2)) none)) (.str (Str.ofString ".*")) = c.st := by
  obtain ⟨L, e1, _, e2⟩ := c.end2
  rw [e1, lit_star, eqv_tx, e2]
theorem Cl.end_sh (c : Cl) : SeqAt.shaped (.str (cutS c.tx (some (-2)) none)) = true := by
  obtain ⟨L, e1, h, _⟩ := c.end2
  rw [e1]
  exact shaped_tx h
theorem eqv_bool (a b : Bool) : PyData.eqv (.bool a) (.bool b) = (a == b) := by cases a <;> cases b <;> rfl
def look4 (i : Nat) (x y z u : PyData) : Option PyData := ([(Str.ofString ">=", x), (Str.ofString "<=", y), (Str.ofString "==", z), (Str.ofString "!=", u)] : List (Str × PyData)).lookup (signS i)
theorem look_tab : ([(signS 3 == Str.ofString ">="), (signS 2 == Str.ofString ">="), (signS 2 == Str.ofString "<="), (signS 0 == Str.ofString ">="), (signS 0 == Str.ofString "<="), (signS 0 == Str.ofString "=="), (signS 1 == Str.ofString ">="), (signS 1 == Str.ofString "<="), (signS 1 == Str.ofString "=="), (signS 1 == Str.ofString "!=")] : List Bool) = [true, false, true, false, false, true, false, false, false, true] := by decide +kernel
theorem look_3 (x y z u : PyData) : look4 3 x y z u = some x := by
  have h := look_tab
  injection h with h1 h
  unfold look4
  rw [List.lookup_cons, h1]
theorem look_2 (x y z u : PyData) : look4 2 x y z u = some y := by
  have h := look_tab
  injection h with _ h
  injection h with h1 h
  injection h with h2 h
  unfold look4
  rw [List.lookup_cons, h1, List.lookup_cons, h2]
theorem look_0 (x y z u : PyData) : look4 0 x y z u = some z := by
  have h := look_tab
  injection h with _ h
  injection h with _ h
  injection h with _ h
  injection h with h1 h
  injection h with h2 h
  injection h with h3 h
  unfold look4
  rw [List.lookup_cons, h1, List.lookup_cons, h2, List.lookup_cons, h3]
theorem look_1 (x y z u : PyData) : look4 1 x y z u = some u := by
  have h := look_tab
  injection h with _ h
  injection h with _ h
  injection h with _ h
  injection h with _ h
  injection h with _ h
  injection h with _ h
  injection h with h1 h
  injection h with h2 h
  injection h with h3 h
  injection h with h4 h
  unfold look4
  rw [List.lookup_cons, h1, List.lookup_cons, h2, List.lookup_cons, h3, List.lookup_cons, h4]
/-- the bound's reading -/
def clB : TD := dIf (dTest (dOp eqR (dSl (dVar 3) (dPart (dNeg (dC (.int 2)))) dNoPart) (dC (.str ".*")))) (dSl (dVar 3) dNoPart (dPart (dNeg (dC (.int 2))))) (dVar 3)
theorem base_ne (e : Nat) (b : List Nat) : baseD e b ≠ .none := fun h => nomatch h
theorem fin4 {Q : QN} {n : Nat} {k k' : Ky} {w : Bool} {g : Str} {x0 x1 x3 x5 x6 x7 x8 : Sl} (ok1 : k.t.ok) (ok2 : k'.t.ok) (hk : ([(Str.ofString ">=", PyData.bool (!k.cut.lt k'.cut)), (Str.ofString "<=", PyData.bool (!k'.cut.lt k.cut)), (Str.ofString "==", PyData.bool (decide (k = k'))), (Str.ofString "!=", PyData.bool (!decide (k = k')))] : List (Str × PyData)).lookup g = some (.bool w)) (hq : Q (.bool w) n) :
    (dRet (dDict4 ">=" "<=" "==" "!=" (dOp geR (dVar 4) (dVar 9)) (dOp leR (dVar 4) (dVar 9)) (dOp eqR (dVar 4) (dVar 9)) (dOp neR (dVar 4) (dVar 9)) (dVar 2))) (ends Q) ⟨[x0, x1, .d (.str g), x3, .d k.lk, x5, x6, x7, x8, .d k'.lk], n⟩ := by
  refine ⟨_, rfl, _, rfl, alike_lk _ _, lk_ne _, by rw [depth_lk]; decide, _, rfl, _, rfl, alike_lk _ _, lk_ne _, by rw [depth_lk]; decide, _, rfl, _, rfl, shaped_lk _, shaped_lk _, _, rfl, _, rfl, shaped_lk _, shaped_lk _, _, rfl, g, .bool w, rfl, ?_, hq⟩
  show ([(Str.ofString ">=", PyData.bool (!dataLt k.lk k'.lk)), (Str.ofString "<=", PyData.bool (!dataLt k'.lk k.lk)), (Str.ofString "==", PyData.bool (PyData.eqv k.lk k'.lk)), (Str.ofString "!=", PyData.bool (!PyData.eqv k.lk k'.lk))] : List (Str × PyData)).lookup g = some (.bool w)
  rw [lt_lk _ _ ok1 ok2, lt_lk _ _ ok2 ok1, eqv_lk _ _ ok1 ok2]
  exact hk
theorem wp_law_clause_lets (ds : List PyData) (n : Nat) (Q : QN) (h : D_law_clause_lets ds n Q) : td_law_clause_lets D_law_key D_law_parts D_law_in_block D_law_base (ends Q) (entry false N_law_clause_lets ds n) := by
  obtain ⟨⟨c, v⟩, rfl, ⟨hc, hv⟩, q⟩ := h
  have hc : c.G := hc
  have hv : v.G := hv
  have q' : Q (.bool (clLets c v)) n := q
  have hs := hc.sg
  have hG := hc.sm.G
  have hz := Cl.len hG
  have hvn : v.ns.length ≤ 1000 := Nat.le_trans hv.ln (by decide)
  have hpn : c.p.ns.length ≤ 1000 := Nat.le_trans hG.ln (by decide)
  refine ⟨_, rfl, _, rfl, _, _, rfl, _, _, rfl, rfl, ?_⟩
  refine ⟨_, rfl, v, rfl, hv, _, rfl, v, rfl, hv, ?_⟩
  refine ⟨_, rfl, _, rfl, _, rfl, hz, c.end_sh, sh_star, c.st, congrArg PyData.bool c.end_eq, ?_⟩
  cases hst : c.st with
  | true =>
    have e : clLets c v = (inBlk v c.p.ns c.p.ep == decide (c.sg = 0)) := if_pos hst
    rw [e] at q'
    refine onT rfl ⟨_, rfl, _, rfl, _, rfl, hz, c.p, congrArg (fun t => [PyData.str t]) (Cl.cut hst), hG, ?_⟩
    refine ⟨_, rfl, _, rfl, _, rfl, hz, c.end_sh, sh_star, true, congrArg PyData.bool (c.end_eq.trans hst), onT rfl ?_⟩
    refine ⟨_, rfl, _, rfl, .list (natsD c.p.ns), at1, _, rfl, .int (c.p.ep : Int), at0, (v, c.p.ns, c.p.ep), rfl, ⟨hvn, hpn⟩, ?_⟩
    refine ⟨_, rfl, shS _ hs, shS 0 (by decide), rfl, rfl, ?_⟩
    show Q (.bool (PyData.eqv (.bool (inBlk v c.p.ns c.p.ep)) (.bool (PyData.eqv (.str (signS c.sg)) (.str (signS 0)))))) n
    rw [eqS _ _ hs (by decide), eqv_bool]
    exact q'
  | false =>
    refine onF rfl ⟨_, rfl, c.p, by rw [Cl.tx_f hst], hG, ?_⟩
    refine ⟨_, rfl, _, rfl, _, rfl, hz, c.end_sh, sh_star, false, congrArg PyData.bool (c.end_eq.trans hst), onF rfl ?_⟩
    have e : clLets c v = match c.sg with
      | 4 => baseLt v c.p
      | 5 => baseLt c.p v
      | 6 => (!v.key.cut.lt c.p.key.cut) && inBlk v c.p.ns.dropLast c.p.ep
      | 3 => !v.key.cut.lt c.p.key.cut
      | 2 => !c.p.key.cut.lt v.key.cut
      | 0 => decide (v.key = c.p.key)
      | _ => !decide (v.key = c.p.key) := if_neg (by rw [hst]; exact Bool.false_ne_true)
    rw [e] at q'
    refine ⟨_, rfl, fit (by rfl), rfl, rfl, _, congrArg PyData.bool (lg_any c.sg hs), ?_⟩
    by_cases h45 : c.sg = 4 ∨ c.sg = 5
    · refine onT (decide_eq_true h45) ⟨_, rfl, v, rfl, hvn, _, rfl, c.p, rfl, hpn, ?_⟩
      refine ⟨_, rfl, shS _ hs, shS 4 (by decide), _, rfl, ?_⟩
      by_cases h4 : c.sg = 4
      · rw [h4] at q'
        refine onT (sgT hs (by decide) h4) ⟨_, rfl, _, rfl, alike_base _ _ _ _, base_ne _ _, by rw [depth_base]; decide, ?_⟩
        show Q (.bool (dataLt (baseD v.ep (strip v.ns)) (baseD c.p.ep (strip c.p.ns)))) n
        rw [lt_base]
        exact q'
      · have h5 : c.sg = 5 := by omega
        rw [h5] at q'
        refine onF (sgF hs (by decide) h4) ⟨_, rfl, _, rfl, alike_base _ _ _ _, base_ne _ _, by rw [depth_base]; decide, ?_⟩
        show Q (.bool (dataLt (baseD c.p.ep (strip c.p.ns)) (baseD v.ep (strip v.ns)))) n
        rw [lt_base]
        exact q'
    · refine onF (decide_eq_false h45) ⟨_, rfl, c.p, by rw [Cl.tx_f hst], hG, ?_⟩
      have ok1 : v.key.t.ok := hv.t.ok
      have ok2 : c.p.key.t.ok := hG.t.ok
      refine ⟨_, rfl, shS _ hs, shS 6 (by decide), _, rfl, ?_⟩
      by_cases h6 : c.sg = 6
      · rw [h6] at q'
        refine onT (sgT hs (by decide) h6) ⟨_, rfl, _, rfl, alike_lk _ _, lk_ne _, by rw [depth_lk]; decide, _, rfl, ?_⟩
        show if (!dataLt v.key.lk c.p.key.lk) = true then _ else _
        rw [lt_lk _ _ ok1 ok2]
        cases hb : v.key.cut.lt c.p.key.cut with
        | true => rw [hb] at q'; exact onF rfl q'
        | false =>
          rw [hb] at q'
          refine onT rfl ⟨_, rfl, _, rfl, .list (natsD c.p.ns), at1, _, rfl, _, rfl, _, rfl, .int (c.p.ep : Int), at0, (v, c.p.ns.dropLast, c.p.ep), congrArg (fun l => [v.lp, PyData.list l, .int (c.p.ep : Int)]) (dropLast_d c.p.ns), ⟨hvn, by show c.p.ns.dropLast.length ≤ 1000; rw [List.length_dropLast]; omega⟩, q'⟩
      · refine onF (sgF hs (by decide) h6) ?_
        refine fin4 hv.t.ok hG.t.ok ?_ q'
        have h3 : c.sg = 0 ∨ c.sg = 1 ∨ c.sg = 2 ∨ c.sg = 3 := by omega
        rcases h3 with h | h | h | h
        · rw [h]; exact look_0 _ _ _ _
        · rw [h]; exact look_1 _ _ _ _
        · rw [h]; exact look_2 _ _ _ _
        · rw [h]; exact look_3 _ _ _ _
end V

set_option Elab.async false
set_option linter.all false
set_option maxRecDepth 100000
set_option maxHeartbeats 4000000
namespace V
open PySem PySem.Spec PyProof.Rows L2 DL
open PySem.W (alike alikeAll dataLt)
open TL (numL joinL tl)
/-! ### _law_lets, _law_names, _law_pins -/
def lets (cs : List Cl) (v : Pt) : Bool := cs.all fun c => clLets c v
def pins (cs : List Cl) (v : Pt) : Bool := cs.any fun c => (decide (c.sg = 0) && !c.st) && decide (c.p.key = v.key)
def D_law_lets : DX := pureD (fun a : List Cl × Pt => [clsD a.1, .str a.2.tx]) (fun a => ReqG a.1 ∧ a.2.G) fun a => .bool (lets a.1 a.2)
theorem pm_law_lets : Pm 2 D_law_lets := pm_pure fun _ => rfl
theorem ones_nil {α : Type} (l : List α) : PyData.eqv (.list (l.map fun _ => PyData.int 1)) (.list []) = l.isEmpty := by cases l <;> rfl
theorem ones_sh {α : Type} (l : List α) : SeqAt.shaped (.list (l.map fun _ => PyData.int 1)) = true := by
  have e : (l.map fun _ => PyData.int 1) = natsD (l.map fun _ => 1) := by
    unfold natsD
    rw [List.map_map]
    rfl
  rw [e]
  exact shaped_nl _
theorem filter_empty {α : Type} (f : α → Bool) (l : List α) : (l.filter fun a => !f a).isEmpty = l.all f := by
  rw [Bool.eq_iff_iff, List.isEmpty_iff, List.filter_eq_nil_iff, List.all_eq_true]
  simp
theorem filter_any {α : Type} (f : α → Bool) (l : List α) : (!(l.filter f).isEmpty) = l.any f := by
  induction l with
  | nil => rfl
  | cons a l ih =>
    rw [List.any_cons]
    cases h : f a with
    | true => rw [List.filter_cons_of_pos h]; rfl
    | false => rw [List.filter_cons_of_neg (by rw [h]; exact Bool.false_ne_true), ih]; rfl
theorem wp_law_lets (ds : List PyData) (n : Nat) (Q : QN) (h : D_law_lets ds n Q) : td_law_lets D_law_clause_lets (ends Q) (entry false N_law_lets ds n) := by
  obtain ⟨⟨cs, v⟩, rfl, ⟨⟨h1, h2⟩, hv⟩, q⟩ := h
  have h1' : cs.length ≤ 4 := h1
  have q' : Q (.bool (lets cs v)) n := q
  refine ⟨_, rfl, _, rfl, by rw [List.length_map, sizeLine_eq]; show cs.length ≤ _; omega, ?_⟩
  refine lc_pure Cl.d (fun c => !clLets c v) (fun _ => .int 1) cs [] (fun c hc K K0 k1 k0 => ?_) ?_
  · refine ⟨_, rfl, _, rfl, (c, v), rfl, ⟨h2 c hc, hv⟩, _, rfl, ?_⟩
    show if (!clLets c v) = true then _ else _
    cases hb : clLets c v with
    | true => exact k0 (by rw [hb]; rfl)
    | false => exact k1 (by rw [hb]; rfl)
  · rw [List.nil_append]
    refine ⟨fit (by rfl), ones_sh _, rfl, ?_⟩
    show Q (.bool (PyData.eqv (.list ((cs.filter fun c => !clLets c v).map fun _ => PyData.int 1)) (.list []))) n
    rw [ones_nil, filter_empty]
    exact q'
def D_law_names : DX := pureD (fun cs : List Cl => [clsD cs]) ReqG fun cs => .bool (naming cs)
theorem pm_law_names : Pm 1 D_law_names := pm_pure fun _ => rfl
theorem wp_law_names (ds : List PyData) (n : Nat) (Q : QN) (h : D_law_names ds n Q) : td_law_names D_law_is_forerunner (ends Q) (entry false N_law_names ds n) := by
  obtain ⟨cs, rfl, ⟨h1, h2⟩, q⟩ := h
  have q' : Q (.bool (naming cs)) n := q
  have hl : (cs.map Cl.d).length ≤ sizeLine := by rw [List.length_map, sizeLine_eq]; omega
  refine ⟨_, rfl, _, rfl, hl, ?_⟩
  refine lc_pure Cl.d (fun c => decide (c.sg ≠ 1) && !c.st) (fun c => .str c.tx) cs [] (fun c hc K K0 k1 k0 => ?_) ?_
  · have hg := h2 c hc
    refine ⟨_, rfl, _, _, rfl, _, _, rfl, rfl, ?_⟩
    refine ⟨_, rfl, shS _ hg.sg, shS 1 (by decide), _, rfl, ?_⟩
    have e : (!PyData.eqv (.str (signS c.sg)) (.str (signS 1))) = decide (c.sg ≠ 1) := by rw [eqS _ _ hg.sg (by decide), decide_not]
    by_cases h1 : c.sg = 1
    · refine onF (e.trans (decide_eq_false (fun z => z h1))) ?_
      exact k0 (by rw [decide_eq_false (fun z => z h1)]; rfl)
    · refine onT (e.trans (decide_eq_true h1)) ?_
      refine ⟨_, rfl, _, rfl, _, rfl, Cl.len hg.sm.G, c.end_sh, sh_star, !c.st, congrArg PyData.bool (congrArg (!·) c.end_eq), ?_⟩
      cases hst : c.st with
      | true => exact onF rfl (k0 (by rw [hst, Bool.and_comm]; rfl))
      | false => exact onT rfl ⟨_, rfl, k1 (by rw [hst, decide_eq_true h1]; rfl)⟩
  · rw [List.nil_append]
    generalize hf : cs.filter (fun c => decide (c.sg ≠ 1) && !c.st) = fs
    have hfs : ∀ c ∈ fs, c.G ∧ c.st = false := fun c hc => by
      rw [← hf] at hc
      obtain ⟨a, b⟩ := List.mem_filter.mp hc
      refine ⟨h2 c a, ?_⟩
      cases hst : c.st with
      | false => rfl
      | true => rw [hst, Bool.and_comm] at b; cases b
    have hfl : fs.length ≤ 4 := by rw [← hf]; exact Nat.le_trans (List.length_filter_le _ _) h1
    refine ⟨_, rfl, _, rfl, by rw [List.length_map, sizeLine_eq]; omega, ?_⟩
    refine lc_pure (fun c : Cl => .str c.tx) (fun c => !c.p.key.fin) (fun c => .int 1) fs [] (fun c hc K K0 k1 k0 => ?_) ?_
    · obtain ⟨hg, hst⟩ := hfs c hc
      refine ⟨_, rfl, c.p, by rw [Cl.tx_f hst], hg.sm.G, _, rfl, ?_⟩
      cases hb : c.p.key.fin with
      | true => exact onF rfl (k0 (by rw [hb]; rfl))
      | false => exact onT rfl (k1 (by rw [hb]; rfl))
    · rw [List.nil_append]
      refine ⟨fit (by rfl), ones_sh _, rfl, ?_⟩
      show Q (.bool (!PyData.eqv (.list ((fs.filter fun c => !c.p.key.fin).map fun _ => PyData.int 1)) (.list []))) n
      rw [ones_nil, filter_any, ← hf, List.any_filter]
      have e : (cs.any fun c => (decide (c.sg ≠ 1) && !c.st) && !c.p.key.fin) = naming cs := by
        unfold naming
        refine congrArg (List.any cs) (funext fun c => ?_)
        rw [Bool.and_assoc]
      rw [e]
      exact q'
def D_law_pins : DX := pureD (fun a : List Cl × Pt => [clsD a.1, .str a.2.tx]) (fun a => ReqG a.1 ∧ a.2.G) fun a => .bool (pins a.1 a.2)
theorem pm_law_pins : Pm 2 D_law_pins := pm_pure fun _ => rfl
theorem wp_law_pins (ds : List PyData) (n : Nat) (Q : QN) (h : D_law_pins ds n Q) : td_law_pins D_law_key (ends Q) (entry false N_law_pins ds n) := by
  obtain ⟨⟨cs, v⟩, rfl, ⟨⟨h1, h2⟩, hv⟩, q⟩ := h
  have hv : v.G := hv
  have h2 : ∀ c ∈ cs, c.G := h2
  have h1 : cs.length ≤ 4 := h1
  have q' : Q (.bool (pins cs v)) n := q
  have hl : (cs.map Cl.d).length ≤ sizeLine := by rw [List.length_map, sizeLine_eq]; omega
  refine ⟨_, rfl, _, rfl, hl, ?_⟩
  refine lc_pure Cl.d (fun c => decide (c.sg = 0) && !c.st) (fun c => .str c.tx) cs [] (fun c hc K K0 k1 k0 => ?_) ?_
  · have hg := h2 c hc
    refine ⟨_, rfl, _, _, rfl, _, _, rfl, rfl, ?_⟩
    refine ⟨_, rfl, shS _ hg.sg, shS 0 (by decide), _, rfl, ?_⟩
    by_cases h1 : c.sg = 0
    · refine onT (sgT hg.sg (by decide) h1) ?_
      refine ⟨_, rfl, _, rfl, _, rfl, Cl.len hg.sm.G, c.end_sh, sh_star, !c.st, congrArg PyData.bool (congrArg (!·) c.end_eq), ?_⟩
      cases hst : c.st with
      | true => exact onF rfl (k0 (by rw [hst, Bool.and_comm]; rfl))
      | false => exact onT rfl ⟨_, rfl, k1 (by rw [hst, decide_eq_true h1]; rfl)⟩
    · refine onF (sgF hg.sg (by decide) h1) ?_
      exact k0 (by rw [decide_eq_false h1]; rfl)
  · rw [List.nil_append]
    generalize hf : cs.filter (fun c => decide (c.sg = 0) && !c.st) = fs
    have hfs : ∀ c ∈ fs, c.G ∧ c.st = false := fun c hc => by
      rw [← hf] at hc
      obtain ⟨a, b⟩ := List.mem_filter.mp hc
      refine ⟨h2 c a, ?_⟩
      cases hst : c.st with
      | false => rfl
      | true => rw [hst, Bool.and_comm] at b; cases b
    have hfl : fs.length ≤ 4 := by rw [← hf]; exact Nat.le_trans (List.length_filter_le _ _) h1
    refine ⟨_, rfl, _, rfl, by rw [List.length_map, sizeLine_eq]; omega, ?_⟩
    refine lc_pure (fun c : Cl => .str c.tx) (fun c => decide (c.p.key = v.key)) (fun c => .int 1) fs [] (fun c hc K K0 k1 k0 => ?_) ?_
    · obtain ⟨hg, hst⟩ := hfs c hc
      refine ⟨_, rfl, c.p, by rw [Cl.tx_f hst], hg.sm.G, _, rfl, v, rfl, hv, shaped_lk _, shaped_lk _, _, rfl, ?_⟩
      show if PyData.eqv c.p.key.lk v.key.lk = true then _ else _
      rw [eqv_lk _ _ hg.sm.G.t.ok hv.t.ok]
      by_cases hb : c.p.key = v.key
      · exact onT (decide_eq_true hb) (k1 (decide_eq_true hb))
      · exact onF (decide_eq_false hb) (k0 (decide_eq_false hb))
    · rw [List.nil_append]
      refine ⟨fit (by rfl), ones_sh _, rfl, ?_⟩
      show Q (.bool (!PyData.eqv (.list ((fs.filter fun c => decide (c.p.key = v.key)).map fun _ => PyData.int 1)) (.list []))) n
      rw [ones_nil, filter_any, ← hf, List.any_filter]
      exact q'
/-! ### _law_pick -/
def ptLe (p q : Pt) : Bool := !q.key.cut.lt p.key.cut
def elig (cs : List Cl) (rs : List Rel) : List Pt := (((rs.filter fun v => !v.2 || pins cs v.1).map (·.1)).filter (lets cs)).mergeSort ptLe
def last1 (l : List Pt) : List Pt := l.drop (l.length - 1)
def pick (cs : List Cl) (rs : List Rel) : List Pt :=
  if (!((elig cs rs).filter fun p => p.key.fin).isEmpty && !naming cs) = true then last1 ((elig cs rs).filter fun p => p.key.fin) else last1 (elig cs rs)
def txD (p : Pt) : PyData := .str p.tx
def RelG (rs : List Rel) : Prop := (∀ v ∈ rs, v.1.G) ∧ rs.length ≤ 1000
def D_law_pick : DX := pureD (fun a : List Cl × List Rel => [clsD a.1, relsD a.2]) (fun a => ReqG a.1 ∧ RelG a.2) fun a => .list ((pick a.1 a.2).map txD)
theorem pm_law_pick : Pm 2 D_law_pick := pm_pure fun _ => rfl
theorem sort_tx (l : List Pt) (h : ∀ p ∈ l, p.G) : (l.map txD).mergeSort (PySem.W.dataLe false keyFn) = (l.mergeSort ptLe).map txD := by
  refine (List.map_mergeSort fun p hp q hq => ?_).symm
  rw [PySem.W.dataLe_eq]
  show (!q.key.cut.lt p.key.cut) = !dataLt (keyFn (.str q.tx)) (keyFn (.str p.tx))
  rw [keyFn_at (h p hp), keyFn_at (h q hq), lt_lk _ _ (h q hq).t.ok (h p hp).t.ok]
theorem last1_d (l : List Pt) : DL.cutD (l.map txD) (some (-((1 : Nat) : Int))) none = (last1 l).map txD := by
  rw [cut_fromneg _ _ (by decide), List.length_map]
  unfold last1
  rw [List.map_drop]
theorem strs_sh (l : List Pt) : SeqAt.shaped (.list (l.map txD)) = true := by
  have h1 : PyData.canLayAll0 (l.map txD) = true := by
    induction l with
    | nil => rfl
    | cons p l ih =>
      have : PyData.canLay0 (txD p) = true := lay_tx (asc_ren p)
      rw [List.map_cons]
      simp only [PyData.canLayAll0, this, ih, Bool.and_self]
  have h2 : PyData.depthAll (l.map txD) = 0 := by
    induction l with
    | nil => rfl
    | cons p l ih =>
      rw [List.map_cons]
      simp only [PyData.depthAll, txD, PyData.depth] at ih ⊢
      rw [ih (by rw [List.map_cons] at h1; simp only [PyData.canLayAll0, Bool.and_eq_true] at h1; exact h1.2)]
      rfl
  refine Bool.and_eq_true_iff.mpr ⟨h1, decide_eq_true ?_⟩
  simp only [PyData.depth, h2]
  decide
theorem strs_nil (l : List Pt) : PyData.eqv (.list (l.map txD)) (.list []) = l.isEmpty := by cases l <;> rfl
theorem lk_alike (l : List Pt) (h : ∀ p ∈ l, p.G) : PySem.W.AllAlike ((l.map txD).map keyFn) := by
  intro d hd d' hd'
  simp only [List.map_map, List.mem_map, Function.comp] at hd hd'
  obtain ⟨p, hp, rfl⟩ := hd
  obtain ⟨q, hq, rfl⟩ := hd'
  rw [show keyFn (txD p) = _ from keyFn_at (h p hp), show keyFn (txD q) = _ from keyFn_at (h q hq)]
  exact alike_lk _ _
theorem lk_sort (l : List Pt) (h : ∀ p ∈ l, p.G) : PySem.W.Sortable ((l.map txD).map keyFn) := by
  refine .inl fun d hd => ?_
  simp only [List.map_map, List.mem_map, Function.comp] at hd
  obtain ⟨p, hp, rfl⟩ := hd
  rw [show keyFn (txD p) = _ from keyFn_at (h p hp)]
  exact ⟨_, _, rfl⟩
theorem wp_law_pick (ds : List PyData) (n : Nat) (Q : QN) (h : D_law_pick ds n Q) : td_law_pick D_law_pins D_law_key D_law_lets D_law_is_forerunner D_law_names (ends Q) (entry false N_law_pick ds n) := by
  obtain ⟨⟨cs, rs⟩, rfl, ⟨hc, ⟨h1, h2⟩⟩, q⟩ := h
  have hc : ReqG cs := hc
  have h1 : ∀ v ∈ rs, v.1.G := h1
  have h2 : rs.length ≤ 1000 := h2
  have q' : Q (.list ((pick cs rs).map txD)) n := q
  refine ⟨_, rfl, _, rfl, by show (rs.map relD).length ≤ _; rw [List.length_map, sizeLine_eq]; omega, ?_⟩
  refine lc_pure relD (fun v => !v.2 || pins cs v.1) (fun v => txD v.1) rs [] (fun v hv K K0 k1 k0 => ?_) ?_
  · refine ⟨_, rfl, _, _, rfl, _, _, rfl, rfl, ?_⟩
    refine ⟨_, rfl, _, rfl, ?_⟩
    cases hb : v.2 with
    | false => exact onT rfl ⟨_, rfl, k1 (by rw [hb]; rfl)⟩
    | true =>
      refine onF rfl ⟨_, rfl, _, rfl, (cs, v.1), rfl, ⟨hc, h1 v hv⟩, _, rfl, ?_⟩
      show if pins cs v.1 = true then _ else _
      cases hp : pins cs v.1 with
      | true => exact onT rfl ⟨_, rfl, k1 (by rw [hb, hp]; rfl)⟩
      | false => exact onF rfl (k0 (by rw [hb, hp]; rfl))
  · rw [List.nil_append]
    have em : ∀ l : List Rel, l.map (fun v => txD v.1) = (l.map (·.1)).map txD := fun l => by rw [List.map_map]; rfl
    rw [em]
    generalize hs : (rs.filter fun v => !v.2 || pins cs v.1).map (·.1) = ps
    have hps : ∀ p ∈ ps, p.G := fun p hp => by
      rw [← hs] at hp
      obtain ⟨v, hv, rfl⟩ := List.mem_map.mp hp
      exact h1 v (List.mem_filter.mp hv).1
    have hpl : ps.length ≤ 1000 := by
      rw [← hs, List.length_map]
      exact Nat.le_trans (List.length_filter_le _ _) h2
    have el : elig cs rs = (ps.filter (lets cs)).mergeSort ptLe := by rw [← hs]; rfl
    refine ⟨_, rfl, _, rfl, by rw [List.length_map, sizeLine_eq]; omega, ?_⟩
    refine lc_pure txD (lets cs) txD ps [] (fun p hp K K0 k1 k0 => ?_) ?_
    · refine ⟨_, rfl, _, rfl, (cs, p), rfl, ⟨hc, hps p hp⟩, _, rfl, ?_⟩
      show if lets cs p = true then _ else _
      cases hb : lets cs p with
      | true => exact onT rfl ⟨_, rfl, k1 hb⟩
      | false => exact onF rfl (k0 hb)
    · rw [List.nil_append]
      have hes : ∀ p ∈ ps.filter (lets cs), p.G := fun p hp => hps p (List.mem_filter.mp hp).1
      have hel : (ps.filter (lets cs)).length ≤ 1000 := Nat.le_trans (List.length_filter_le _ _) hpl
      refine ⟨_, keyFn, rfl, fun d hd => ?_, lk_alike _ hes, lk_sort _ hes, fun d hd => ?_, by rw [List.length_map, sizeLine_eq]; omega, ?_⟩
      · obtain ⟨p, hp, rfl⟩ := List.mem_map.mp hd
        exact ⟨p, rfl, hes p hp, (keyFn_at (hes p hp)).symm, rfl⟩
      · obtain ⟨p, hp, rfl⟩ := List.mem_map.mp hd
        rw [show keyFn (txD p) = _ from keyFn_at (hes p hp), depth_lk]
        decide
      · rw [sort_tx _ hes, ← el]
        have hE : ∀ p ∈ elig cs rs, p.G := fun p hp => by rw [el] at hp; exact hes p (List.mem_mergeSort.mp hp)
        have hEl : (elig cs rs).length ≤ 1000 := by rw [el, List.length_mergeSort]; exact hel
        unfold pick at q'
        generalize elig cs rs = E at q' hE hEl
        refine ⟨_, rfl, _, rfl, by rw [List.length_map, sizeLine_eq]; omega, ?_⟩
        refine lc_pure txD (fun p => p.key.fin) txD E [] (fun p hp K K0 k1 k0 => ?_) ?_
        · refine ⟨_, rfl, p, rfl, hE p hp, _, rfl, ?_⟩
          show if (!!p.key.fin) = true then _ else _
          cases hb : p.key.fin with
          | true => exact onT rfl ⟨_, rfl, k1 hb⟩
          | false => exact onF rfl (k0 hb)
        · rw [List.nil_append]
          refine ⟨_, rfl, fit (by rfl), strs_sh _, rfl, _, rfl, ?_⟩
          show if (!PyData.eqv (.list ((E.filter fun p => p.key.fin).map txD)) (.list [])) = true then _ else _
          rw [strs_nil]
          generalize hF : (E.filter fun p => p.key.fin) = F at q'
          cases hb : F.isEmpty with
          | true =>
            rw [hb] at q'
            refine onF rfl (onF rfl ⟨_, rfl, _, rfl, _, rfl, ?_⟩)
            show Q (.list (DL.cutD (E.map txD) (some (-((1 : Nat) : Int))) none)) n
            rw [last1_d]
            exact q'
          | false =>
            rw [hb] at q'
            refine onT rfl ⟨_, rfl, cs, rfl, hc, _, rfl, ?_⟩
            show if (!naming cs) = true then _ else _
            cases hn : naming cs with
            | true =>
              rw [hn] at q'
              refine onF rfl ⟨_, rfl, _, rfl, _, rfl, ?_⟩
              show Q (.list (DL.cutD (E.map txD) (some (-((1 : Nat) : Int))) none)) n
              rw [last1_d]
              exact q'
            | false =>
              rw [hn] at q'
              refine onT rfl ⟨_, rfl, _, rfl, _, rfl, ?_⟩
              show Q (.list (DL.cutD (F.map txD) (some (-((1 : Nat) : Int))) none)) n
              rw [last1_d]
              exact q'
end V

set_option Elab.async false
set_option linter.all false
set_option maxRecDepth 100000
set_option maxHeartbeats 4000000
namespace V
open PySem PySem.Spec PyProof.Rows L2 DL
open TL (numL joinL tl)
/-! ### what repr shows -/
structure Sh (m : Nat) (s : Str) : Prop where
  ln : s.length ≤ m
  as : ∀ c ∈ tl s, c < 128
theorem Sh.mono {m m' : Nat} {s : Str} (h : Sh m s) (hm : m ≤ m') : Sh m' s := ⟨Nat.le_trans h.ln hm, h.as⟩
theorem Sh.app {a b : Nat} {s t : Str} (h : Sh a s) (h' : Sh b t) : Sh (a + b) (s ++ t) := by
  refine ⟨?_, fun c hc => ?_⟩
  · have h1 := h.ln
    have h2 := h'.ln
    rw [TL.len_tl, TL.tl_append, List.length_append, ← TL.len_tl, ← TL.len_tl]
    omega
  · rw [TL.tl_append] at hc
    exact (List.mem_append.mp hc).elim (h.as c) (h'.as c)
theorem sh_lit1 : Sh 1 ("(" : Str) := ⟨by decide +kernel, by decide +kernel⟩
theorem sh_lit2 : Sh 1 ("[" : Str) := ⟨by decide +kernel, by decide +kernel⟩
theorem sh_lit3 : Sh 1 ("]" : Str) := ⟨by decide +kernel, by decide +kernel⟩
theorem sh_lit4 : Sh 2 (", " : Str) := ⟨by decide +kernel, by decide +kernel⟩
theorem sh_lit5 : Sh 0 ("" : Str) := ⟨by decide +kernel, by decide +kernel⟩
theorem sh_lit6 : Sh 2 (",)" : Str) := ⟨by decide +kernel, by decide +kernel⟩
theorem sh_lit7 : Sh 1 (")" : Str) := ⟨by decide +kernel, by decide +kernel⟩
theorem sh_join {m : Nat} : ∀ ts : List Str, (∀ t ∈ ts, Sh m t) → Sh (ts.length * (m + 2)) (Str.join ", " ts)
  | [], _ => ⟨Nat.zero_le _, fun c hc => nomatch hc⟩
  | [x], h => (h x List.mem_cons_self).mono (by simp only [List.length_cons, List.length_nil]; omega)
  | x :: y :: r, h => by
    have ih := sh_join (y :: r) (fun t ht => h t (List.mem_cons_of_mem _ ht))
    have e : Str.join ", " (x :: y :: r) = x ++ ", " ++ Str.join ", " (y :: r) := rfl
    rw [e]
    refine (((h x List.mem_cons_self).app sh_lit4).app ih).mono ?_
    simp only [List.length_cons, Nat.add_mul]
    omega
theorem sh_tuple {m k : Nat} {ts : List Str} (h : ∀ t ∈ ts, Sh m t) (hk : ts.length ≤ k) : Sh (k * (m + 2) + 3) (tupleText ts) := by
  unfold tupleText
  have h1 := sh_join ts h
  have h2 : ts.length * (m + 2) ≤ k * (m + 2) := Nat.mul_le_mul_right _ hk
  have h3 : Sh 2 (if (ts.length == 1) = true then ",)" else ")" : String) := by
    split
    · exact sh_lit6
    · exact sh_lit7.mono (by decide)
  exact ((sh_lit1.app h1).app h3).mono (by omega)
theorem sh_from {m : Nat} : ∀ (ts : List Str) (k a : Nat) (acc : Str), (∀ t ∈ ts, Sh m t) → Sh a acc → Sh (a + ts.length * (m + 2)) (textFrom k acc ts)
  | [], k, a, acc, _, h => h.mono (by omega)
  | t :: ts, k, a, acc, ht, h => by
    have h2 : Sh 2 (if k > 0 then ", " else "" : String) := by
      split
      · exact sh_lit4
      · exact sh_lit5.mono (by decide)
    refine (sh_from ts (k + 1) (a + 2 + m) _ (fun x hx => ht x (List.mem_cons_of_mem _ hx)) ((h.app h2).app (ht t List.mem_cons_self))).mono ?_
    simp only [List.length_cons, Nat.add_mul]
    omega
theorem sh_list {m k : Nat} {ts : List Str} (h : ∀ t ∈ ts, Sh m t) (hk : ts.length ≤ k) : Sh (k * (m + 2) + 3) (listText ts) := by
  unfold listText
  have h2 : ts.length * (m + 2) ≤ k * (m + 2) := Nat.mul_le_mul_right _ hk
  exact ((sh_from ts 0 1 "[" h sh_lit2).app sh_lit3).mono (by omega)
theorem sh_num {n : Nat} (h : n < 10 ^ 24) : Sh 24 (PyData.int (n : Int)).shown := by
  show Sh 24 (Str.ofString (toString ((n : Nat) : Int)))
  rw [lit_num]
  exact ⟨by rw [tx_len]; exact len_num h, by rw [tl_tx]; exact asc_num n⟩
theorem sh_bool (b : Bool) : Sh 5 (PyData.bool b).shown := by
  cases b
  · exact ⟨by decide +kernel, by decide +kernel⟩
  · exact ⟨by decide +kernel, by decide +kernel⟩
theorem sh_none : Sh 4 PyData.none.shown := ⟨by decide +kernel, by decide +kernel⟩
theorem char_asc : ∀ q c, (q = 39 ∨ q = 34) → c < 128 → ∀ x ∈ Builtin.Str.reprChar q c, x < 128 := by
  have h : ∀ c : Fin 128, (∀ x ∈ Builtin.Str.reprChar 39 c.1, x < 128) ∧ ∀ x ∈ Builtin.Str.reprChar 34 c.1, x < 128 := by decide +kernel
  rintro q c (rfl | rfl) hc
  · exact (h ⟨c, hc⟩).1
  · exact (h ⟨c, hc⟩).2
theorem fold_asc (q : Nat) (hq : q = 39 ∨ q = 34) : ∀ (l : List Nat) (acc : Array Nat), (∀ c ∈ acc.toList, c < 128) → (∀ c ∈ l, c < 128) → ∀ c ∈ (l.foldl (fun out c => out ++ (Builtin.Str.reprChar q c).toArray) acc).toList, c < 128
  | [], acc, h, _ => h
  | x :: l, acc, h, hl => by
    refine fold_asc q hq l _ (fun c hc => ?_) (fun c hc => hl c (List.mem_cons_of_mem _ hc))
    rw [Array.toList_append] at hc
    rcases List.mem_append.mp hc with hc | hc
    · exact h c hc
    · exact char_asc q x hq (hl x List.mem_cons_self) c hc
theorem quote_c (x : Str) : reprQuote x = 39 ∨ reprQuote x = 34 := by
  unfold reprQuote
  split
  · exact .inr rfl
  · exact .inl rfl
theorem sh_str {l : List Nat} {m : Nat} (h : Asc l) (hm : l.length ≤ m) : Sh (10 * m + 2) (PyData.str (tx l)).shown := by
  show Sh (10 * m + 2) (reprText (tx l))
  refine ⟨?_, ?_⟩
  · have := PySem.StrLaws.reprText_len (tx l) (fun c hc => Nat.lt_trans (h c hc) (by decide))
    rw [tx_len] at this
    omega
  · intro c hc
    unfold reprText at hc
    have hc' : c ∈ (((tx l).cps.foldl (fun out c => out ++ (Builtin.Str.reprChar (reprQuote (tx l)) c).toArray) #[reprQuote (tx l)]).push (reprQuote (tx l))).toList := hc
    rw [Array.toList_push, ← Array.foldl_toList] at hc'
    have q128 : reprQuote (tx l) < 128 := by rcases quote_c (tx l) with e | e <;> rw [e] <;> decide
    rcases List.mem_append.mp hc' with hc' | hc'
    · refine fold_asc _ (quote_c _) _ _ (fun z hz => ?_) h c hc'
      rw [show (#[reprQuote (tx l)] : Array Nat).toList = [reprQuote (tx l)] from rfl] at hz
      rw [List.mem_singleton.mp hz]
      exact q128
    · rw [List.mem_singleton.mp hc']
      exact q128
theorem Sh.shaped {m : Nat} {s : Str} (h : Sh m s) : SeqAt.shaped (.str s) = true := by
  have e : s = tx (tl s) := TL.ext_tl rfl
  rw [e]
  exact shaped_tx h.as
theorem shownAll_eq : ∀ ds : List PyData, PyData.shownAll ds = ds.map PyData.shown
  | [] => rfl
  | d :: ds => by
    rw [List.map_cons, ← shownAll_eq ds]
    rfl
theorem sh_tup {m k : Nat} {ds : List PyData} (h : ∀ d ∈ ds, Sh m d.shown) (hk : ds.length ≤ k) : Sh (k * (m + 2) + 3) (PyData.tuple ds).shown := by
  show Sh _ (tupleText (PyData.shownAll ds))
  rw [shownAll_eq]
  refine sh_tuple (fun t ht => ?_) (by rw [List.length_map]; exact hk)
  obtain ⟨d, hd, rfl⟩ := List.mem_map.mp ht
  exact h d hd
theorem sh_lst {m k : Nat} {ds : List PyData} (h : ∀ d ∈ ds, Sh m d.shown) (hk : ds.length ≤ k) : Sh (k * (m + 2) + 3) (PyData.list ds).shown := by
  show Sh _ (listText (PyData.shownAll ds))
  rw [shownAll_eq]
  refine sh_list (fun t ht => ?_) (by rw [List.length_map]; exact hk)
  obtain ⟨d, hd, rfl⟩ := List.mem_map.mp ht
  exact h d hd
end V

set_option Elab.async false
set_option linter.all false
set_option maxRecDepth 100000
set_option maxHeartbeats 4000000
namespace V
open PySem PySem.Spec PyProof.Rows L2 DL
open PySem.W (alike alikeAll dataLt)
open TL (numL joinL tl)
/-! ### _law_falls -/
def falls (cs : List Cl) (r1 r2 : List Rel) : Bool := match pick cs r1 with
  | [] => false
  | p :: _ => match pick cs r2 with
    | [] => true
    | q :: _ => q.key.cut.lt p.key.cut
def D_law_falls : DX := pureD (fun a : List Cl × List Rel × List Rel => [clsD a.1, relsD a.2.1, relsD a.2.2]) (fun a => ReqG a.1 ∧ RelG a.2.1 ∧ RelG a.2.2) fun a => .bool (falls a.1 a.2.1 a.2.2)
theorem pm_law_falls : Pm 3 D_law_falls := pm_pure fun _ => rfl
theorem elig_mem {cs : List Cl} {rs : List Rel} {p : Pt} : p ∈ elig cs rs ↔ lets cs p = true ∧ ∃ b, (p, b) ∈ rs ∧ (b = false ∨ pins cs p = true) := by
  unfold elig
  rw [List.mem_mergeSort, List.mem_filter, List.mem_map]
  constructor
  · rintro ⟨⟨v, hv, rfl⟩, hl⟩
    obtain ⟨h1, h2⟩ := List.mem_filter.mp hv
    refine ⟨hl, v.2, h1, ?_⟩
    cases hb : v.2 with
    | false => exact .inl rfl
    | true => rw [hb] at h2; exact .inr h2
  · rintro ⟨hl, b, hv, hb⟩
    refine ⟨⟨(p, b), List.mem_filter.mpr ⟨hv, ?_⟩, rfl⟩, hl⟩
    rcases hb with rfl | hb
    · rfl
    · show (!b || pins cs p) = true
      rw [hb, Bool.or_true]
theorem pick_mem {cs : List Cl} {rs : List Rel} {p : Pt} (h : p ∈ pick cs rs) : p ∈ elig cs rs := by
  unfold pick at h
  split at h
  · exact (List.mem_filter.mp (List.mem_of_mem_drop h)).1
  · exact List.mem_of_mem_drop h
theorem pick_G {cs : List Cl} {rs : List Rel} (h : RelG rs) : ∀ p ∈ pick cs rs, p.G := fun p hp => by
  obtain ⟨_, b, hb, _⟩ := elig_mem.mp (pick_mem hp)
  exact h.1 _ hb
theorem wp_law_falls (ds : List PyData) (n : Nat) (Q : QN) (h : D_law_falls ds n Q) : td_law_falls D_law_pick D_law_key (ends Q) (entry false N_law_falls ds n) := by
  obtain ⟨⟨cs, r1, r2⟩, rfl, ⟨h1, h2, h3⟩, q⟩ := h
  have q' : Q (.bool (falls cs r1 r2)) n := q
  have g1 := pick_G (cs := cs) h2
  have g2 := pick_G (cs := cs) h3
  unfold falls at q'
  refine ⟨_, rfl, _, rfl, (cs, r1), rfl, ⟨h1, h2⟩, _, rfl, _, rfl, (cs, r2), rfl, ⟨h1, h3⟩, ?_⟩
  refine ⟨_, rfl, fit (by rfl), strs_sh _, rfl, _, rfl, ?_⟩
  show if PyData.eqv (.list ((pick cs r1).map txD)) (.list []) = true then _ else _
  rw [strs_nil]
  cases e1 : pick cs r1 with
  | nil =>
    rw [e1] at q'
    exact onT rfl q'
  | cons p ps =>
    rw [e1] at q' g1
    refine onF rfl ⟨_, rfl, fit (by rfl), strs_sh _, rfl, _, rfl, ?_⟩
    show if PyData.eqv (.list ((pick cs r2).map txD)) (.list []) = true then _ else _
    rw [strs_nil]
    have hp : p.G := g1 p List.mem_cons_self
    cases e2 : pick cs r2 with
    | nil =>
      rw [e2] at q'
      exact onT rfl q'
    | cons x xs =>
      rw [e2] at q' g2
      have hx : x.G := g2 x List.mem_cons_self
      refine onF rfl ⟨_, rfl, txD x, by show atI ((pick cs r2).map txD) 0 = _; rw [e2]; exact at0, x, rfl, hx, _, rfl, txD p, by show atI ((pick cs r1).map txD) 0 = _; rw [e1]; exact at0, p, rfl, hp, alike_lk _ _, lk_ne _, by rw [depth_lk]; decide, ?_⟩
      show Q (.bool (dataLt x.key.lk p.key.lk)) n
      rw [lt_lk _ _ hx.t.ok hp.t.ok]
      exact q'
/-! ### _law_pair_right -/
theorem rel_lay (v : Rel) : PyData.canLay0 (relD v) = true := by
  show (PyData.canLay0 (.str v.1.tx) && (true && true)) = true
  rw [show PyData.canLay0 (.str v.1.tx) = true from lay_tx (asc_ren v.1)]
  rfl
theorem rels_sh (vs : List Rel) : SeqAt.shaped (relsD vs) = true := by
  have h1 : PyData.canLayAll0 (vs.map relD) = true := by
    induction vs with
    | nil => rfl
    | cons v vs ih =>
      rw [List.map_cons]
      simp only [PyData.canLayAll0, rel_lay, ih, Bool.and_self]
  have h2 : PyData.depthAll (vs.map relD) ≤ 1 := by
    clear h1
    induction vs with
    | nil => exact Nat.zero_le _
    | cons v vs ih =>
      have hv : (relD v).depth = 1 := by
        unfold relD
        simp [PyData.depth, PyData.depthAll]
      rw [List.map_cons]
      simp only [PyData.depthAll, hv]
      omega
  refine Bool.and_eq_true_iff.mpr ⟨h1, decide_eq_true ?_⟩
  unfold relsD
  simp only [PyData.depth]
  omega
theorem rel_eqv (v : Rel) : PyData.eqv (relD v) (relD v) = true := by
  show (PyData.eqv (.str v.1.tx) (.str v.1.tx) && (PyData.eqv (.bool v.2) (.bool v.2) && true)) = true
  rw [show PyData.eqv (.str v.1.tx) (.str v.1.tx) = _ from eqv_tx _ _, eqv_bool]
  simp
theorem rels_eqv (vs : List Rel) : PyData.eqv (relsD vs) (relsD vs) = true := by
  show PyData.eqvAll (vs.map relD) (vs.map relD) = true
  induction vs with
  | nil => rfl
  | cons v vs ih =>
    rw [List.map_cons]
    simp only [PyData.eqvAll, rel_eqv, ih, Bool.and_self]
theorem sh_rel {v : Rel} (h : v.1.G) : Sh 40100 (relD v).shown := by
  have h1 : Sh 20002 (PyData.str v.1.tx).shown := sh_str (asc_ren v.1) (len_ren h)
  refine (sh_tup (m := 20002) (k := 2) (fun d hd => ?_) (Nat.le_refl _)).mono (by decide)
  simp only [List.mem_cons, List.not_mem_nil, or_false] at hd
  rcases hd with rfl | rfl
  · exact h1
  · exact (sh_bool v.2).mono (by decide)
theorem sh_rels {vs : List Rel} (h : ∀ v ∈ vs, v.1.G) (hl : vs.length ≤ 2) : Sh 81000 (relsD vs).shown := by
  refine (sh_tup (m := 40100) (k := 2) (fun d hd => ?_) (by rw [List.length_map]; exact hl)).mono (by decide)
  obtain ⟨v, hv, rfl⟩ := List.mem_map.mp hd
  exact sh_rel (h v hv)
theorem sh_felt {z : Ky × Ky} (h1 : z.1.pt.G) (h2 : z.2.pt.G) : Sh 200000 (feltD (some z)).shown := by
  refine (sh_tup (m := 81000) (k := 2) (fun d hd => ?_) (Nat.le_refl _)).mono (by decide)
  simp only [List.mem_cons, List.not_mem_nil, or_false] at hd
  rcases hd with rfl | rfl
  · exact sh_rels (fun v hv => by rw [List.mem_singleton.mp hv]; exact h2) (Nat.le_of_ble_eq_true rfl)
  · refine sh_rels (fun v hv => ?_) (Nat.le_of_ble_eq_true rfl)
    simp only [List.mem_cons, List.not_mem_nil, or_false] at hv
    rcases hv with rfl | rfl
    · exact h2
    · exact h1
theorem show_rels (vs : List Rel) : (relsD vs).showable = true := by
  show PyData.showableAll (vs.map relD) = true
  induction vs with
  | nil => rfl
  | cons v vs ih =>
    rw [List.map_cons]
    simp only [PyData.showableAll, ih, Bool.and_true]
    rfl
theorem felt_repr {z : Ky × Ky} (h1 : z.1.pt.G) (h2 : z.2.pt.G) : nested (feltD (some z)) = true ∧ (feltD (some z)).showable = true ∧ (feltD (some z)).depth ≤ 50 ∧ (feltD (some z)).shown.length ≤ sizeLine := by
  refine ⟨rfl, ?_, ?_, ?_⟩
  · show PyData.showableAll [relsD [(z.2.pt, false)], relsD [(z.2.pt, false), (z.1.pt, false)]] = true
    simp only [PyData.showableAll, show_rels, Bool.and_self]
  · simp [feltD, relsD, relD, PyData.depth, PyData.depthAll]
  · have := (sh_felt h1 h2).ln
    rw [sizeLine_eq]
    omega
def D_law_pair_right : DX := pureD (fun a : List Cl × (Ky × Ky) => [clsD a.1, feltD (some a.2)]) (fun a => ReqG a.1 ∧ felt a.1 = some a.2 ∧ a.2.2.pt.key ≠ a.2.1.pt.key) fun a => .bool (falls a.1 [(a.2.2.pt, false)] [(a.2.2.pt, false), (a.2.1.pt, false)])
theorem pm_law_pair_right : Pm 2 D_law_pair_right := pm_pure fun _ => rfl
theorem felt_some {cs : List Cl} {z : Ky × Ky} (h : felt cs = some z) : naming cs = false ∧ pairAbove (spansOf cs) (spansOf cs) = some z := by
  unfold felt at h
  cases hn : naming cs with
  | true => rw [hn] at h; cases h
  | false => rw [hn] at h; exact ⟨rfl, h⟩
theorem repr_part {cs : List Cl} {F : PyData} {n : Nat} {K : Bool → DS → Prop} (h1 : ReqG cs) (hF : feltD (felt cs) = F) (n1 : nested F = true) (n2 : F.showable = true) (n3 : F.depth ≤ 50) (n4 : F.shown.length ≤ sizeLine) (hs : SeqAt.shaped (.str F.shown) = true) (q : K false ⟨[.d (clsD cs), .d F], n⟩) :
    dTest (dOp neR (dCB reprR (dCons (dCall D_falling (dCons (dVar 0) dNil)) dNil)) (dCB reprR (dCons (dVar 1) dNil))) ⟨[.d (clsD cs), .d F], n⟩ K := by
  generalize hS : F.shown = S at n4 hs
  have e : PyData.eqv (.str S) (.str S) = true := by
    have e : S = tx (tl S) := TL.ext_tl rfl
    rw [e, eqv_tx]
    simp
  refine ⟨_, rfl, cs, rfl, h1, F, congrArg (fun o => [o]) hF, n1, n2, n3, by rw [hS]; exact n4, _, rfl, F, rfl, n1, n2, n3, by rw [hS]; exact n4, ?_⟩
  rw [hS]
  exact ⟨hs, hs, false, congrArg PyData.bool (congrArg (!·) e), q⟩
theorem wp_law_pair_right (ds : List PyData) (n : Nat) (Q : QN) (h : D_law_pair_right ds n Q) : td_law_pair_right D_need_releases D_falling D_law_falls (ends Q) (entry false N_law_pair_right ds n) := by
  obtain ⟨⟨cs, z⟩, rfl, ⟨h1, h2, h3⟩, q⟩ := h
  have h2 : felt cs = some z := h2
  have h3 : z.2.pt.key ≠ z.1.pt.key := h3
  have q' : Q (.bool (falls cs [(z.2.pt, false)] [(z.2.pt, false), (z.1.pt, false)])) n := q
  obtain ⟨g1, g2⟩ := felt_G h1 (felt_some h2).2
  obtain ⟨n1, n2, n3, n4⟩ := felt_repr g1 g2
  have gs : ∀ v ∈ ([(z.2.pt, false), (z.1.pt, false)] : List Rel), v.1.G := fun v hv => by
    simp only [List.mem_cons, List.not_mem_nil, or_false] at hv
    rcases hv with rfl | rfl
    · exact g2
    · exact g1
  refine ⟨_, rfl, _, rfl, ?_⟩
  refine ⟨_, rfl, rfl, rfl, _, rfl, ?_⟩
  refine ⟨_, rfl, _, at1, _, rfl, _, at0, _, rfl, _, rfl, relsD [(z.2.pt, false)], at0, rels_sh [(z.2.pt, false)], rels_sh _, false, ?_, ?_⟩
  · exact congrArg PyData.bool (congrArg (!·) (rels_eqv [(z.2.pt, false)]))
  refine onF rfl ?_
  refine ⟨_, rfl, relsD [(z.2.pt, false), (z.1.pt, false)], at1, [(z.2.pt, false), (z.1.pt, false)], rfl, ⟨gs, by show 2 ≤ 40; decide, ?_⟩, _, rfl, relsD [(z.2.pt, false), (z.1.pt, false)], at1, rels_sh _, rels_sh _, false, congrArg PyData.bool (congrArg (!·) (rels_eqv _)), ?_⟩
  · show [z.2.pt.key, z.1.pt.key].Nodup
    simp [h3]
  refine onF rfl (repr_part h1 (congrArg feltD h2) n1 n2 n3 n4 (sh_felt g1 g2).shaped ?_)
  refine onF rfl ?_
  refine ⟨_, rfl, _, at1, _, rfl, _, at0, rfl, rfl, true, rfl, onT rfl ?_⟩
  exact ⟨_, rfl, _, rfl, _, at0, _, rfl, _, at1, (cs, [(z.2.pt, false)], [(z.2.pt, false), (z.1.pt, false)]), rfl, ⟨h1, ⟨fun v hv => by rw [List.mem_singleton.mp hv]; exact g2, by show 1 ≤ 1000; decide⟩, ⟨gs, by show 2 ≤ 1000; decide⟩⟩, q'⟩
end V

set_option Elab.async false
set_option linter.all false
set_option maxRecDepth 100000
set_option maxHeartbeats 4000000
namespace V
open PySem PySem.Spec PyProof.Rows L2 DL
open PySem.W (alike alikeAll dataLt)
open TL (numL joinL tl)
/-! ### draws -/
theorem drawK {m n : Nat} {R : PyData → Nat → Prop} (q : ∀ x : Nat, x < m → R (.int (x : Int)) (n + 1)) : ∀ d n', (n' = n + 1 ∧ ∃ y : Int, d = .int y ∧ 0 ≤ y ∧ y < (m : Int)) → R d n' := by
  rintro d n' ⟨rfl, y, rfl, y0, y1⟩
  have : y = ((y.toNat : Nat) : Int) := by omega
  rw [this]
  exact q y.toNat (by omega)
theorem dr3 {m : Int} {n : Nat} (h0 : 0 < m) (h1 : m < 2 ^ 30) (h2 : n < 2 ^ 60) : 0 < m ∧ m < 2 ^ 30 ∧ n < 2 ^ 60 := ⟨h0, h1, h2⟩
theorem lc_draw {g : TDG} {tt : TDT} {te : TD} {r : List Sl} {Q : List PyData → Nat → Prop} (P : PyData → Prop) (c B : Nat) : ∀ (l acc : List PyData) (n : Nat), n + c * l.length ≤ B →
    (∀ x ∈ l, ∀ m, m + c ≤ B → ∀ K : PyData → Nat → Prop, (∀ y m', P y → m ≤ m' → m' ≤ m + c → K y m') → g x ⟨r, m⟩ fun s2 => tt s2 fun b s3 => if b = true then te s3 fun y s4 => K y s4.n else lcGo g tt te r Q [] acc s3.n) →
    (∀ x ∈ l, ∀ m, m + c ≤ B → ∀ K : PyData → Nat → Prop, (∀ y m', P y → m ≤ m' → m' ≤ m + c → K y m') → ∀ Z : Nat → Prop, g x ⟨r, m⟩ fun s2 => tt s2 fun b s3 => if b = true then te s3 fun y s4 => K y s4.n else Z s3.n) →
    (∀ ys n', ys.length = l.length → (∀ y ∈ ys, P y) → n ≤ n' → n' ≤ n + c * l.length → Q (acc ++ ys) n') → lcGo g tt te r Q l acc n
  | [], acc, n, h, _, st, q => by
    have := q [] n rfl (fun _ h => nomatch h) (Nat.le_refl _) (Nat.le_add_right _ _)
    rw [List.append_nil] at this
    exact this
  | x :: l, acc, n, h, st0, st, q => by
    rw [List.length_cons, Nat.mul_add, Nat.mul_one] at h
    refine st x List.mem_cons_self n (by omega) (fun y m => lcGo g tt te r Q l (acc ++ [y]) m) (fun y m' hp h1 h2 => ?_) _
    refine lc_draw P c B l (acc ++ [y]) m' (by omega) (fun z hz m hm K k => st z (List.mem_cons_of_mem _ hz) m hm K k _) (fun z hz => st z (List.mem_cons_of_mem _ hz)) fun ys n' hl hy h3 h4 => ?_
    rw [List.append_assoc]
    refine q (y :: ys) n' (by rw [List.length_cons, List.length_cons, hl]) (fun z hz => ?_) (by omega) (by rw [List.length_cons, Nat.mul_add, Nat.mul_one]; omega)
    rcases List.mem_cons.mp hz with rfl | hz
    · exact hp
    · exact hy z hz
def smallP (y : PyData) : Prop := ∃ k : Nat, k ≤ 10 ^ 9 ∧ y = .int (k : Int)
theorem small_list : ∀ {ys : List PyData}, (∀ y ∈ ys, smallP y) → ∃ ns : List Nat, ys = natsD ns ∧ (∀ n ∈ ns, n ≤ 10 ^ 9)
  | [], _ => ⟨[], rfl, fun _ h => nomatch h⟩
  | y :: ys, h => by
    obtain ⟨ns, e, hn⟩ := small_list (fun z hz => h z (List.mem_cons_of_mem _ hz))
    obtain ⟨k, hk, ek⟩ := h y List.mem_cons_self
    refine ⟨k :: ns, by rw [e, ek]; rfl, fun n hn' => ?_⟩
    rcases List.mem_cons.mp hn' with rfl | h'
    · exact hk
    · exact hn n h'
theorem rng_len (n : Nat) : (rngD n).length = n := by unfold rngD; rw [List.length_map, List.length_range]
/-! ### _law_plain -/
def D_law_plain : DX := anyD (fun _ : Unit => []) (fun _ n => n < 2 ^ 59) fun _ n d n' => n ≤ n' ∧ n' ≤ n + 30 ∧ ∃ p : Pt, p.Sm ∧ p.t = plain ∧ d = .str p.tx
theorem pm_law_plain : Pm 0 D_law_plain := pm_any fun _ => rfl
theorem wp_law_plain (ds : List PyData) (n : Nat) (Q : QN) (h : D_law_plain ds n Q) : td_law_plain D_law_draw D_law_text (ends Q) (entry true N_law_plain ds n) := by
  obtain ⟨_, rfl, hn, q⟩ := h
  have hn : n < 2 ^ 59 := hn
  refine ⟨rfl, 3, rfl, dr3 (by decide) (by decide) (by show n < _; omega), drawK (m := 3) fun x hx => ?_⟩
  refine ⟨1 + (x : Int), rfl, by omega, by omega, ?_⟩
  have ex : (1 + (x : Int)).toNat = x + 1 := by omega
  rw [ex]
  refine ⟨by rw [rng_len, sizeLine_eq]; omega, ?_⟩
  have step : ∀ (Z : Nat → Prop), ∀ m, m + 1 ≤ 2 ^ 60 → ∀ K : PyData → Nat → Prop, (∀ y m', smallP y → m ≤ m' → m' ≤ m + 1 → K y m') → ∀ z : PyData, gdName 2 z ⟨[.st, .un, .un], m⟩ fun s2 => dYes s2 fun b s3 => if b = true then dCallS 0 D_law_draw (dCons (dC (.int 3)) dNil) s3 fun y s4 => K y s4.n else Z s3.n := fun Z m hm K k z => by
    refine ⟨rfl, 3, rfl, dr3 (by decide) (by decide) (by show m < _; omega), drawK (m := 3) fun y hy => ?_⟩
    exact k _ _ ⟨y, by omega, rfl⟩ (Nat.le_succ _) (Nat.le_refl _)
  refine lc_draw smallP 1 (2 ^ 60) (rngD (x + 1)) [] (n + 1) (by rw [rng_len]; omega) (fun z hz m hm K k => step _ m hm K k z) (fun z hz m hm K k Z => step Z m hm K k z) fun ys n' hl hy h1 h2 => ?_
  rw [rng_len] at hl h2
  obtain ⟨ns, rfl, hns⟩ := small_list hy
  rw [natsD_len] at hl
  rw [List.nil_append]
  refine ⟨rfl, 9, rfl, dr3 (by decide) (by decide) (by show n' < _; omega), drawK (m := 9) fun y hy => ?_⟩
  obtain ⟨e, he, ee⟩ : ∃ e : Nat, e ≤ 1 ∧ (if PyData.eqv (.int (y : Int)) (.int 0) = true then (1 : Int) else 0) = (e : Int) := by
    cases PyData.eqv (.int (y : Int)) (.int 0)
    · exact ⟨0, by decide, rfl⟩
    · exact ⟨1, by decide, rfl⟩
  have sm : (Pt.mk e ns plain).Sm := ⟨fun z => by rw [show ns = [] from z] at hl; simp at hl, by show ns.length ≤ 8; omega, hns, by show e ≤ 10 ^ 9; omega, fun i n e => (nomatch e), fun n e => (nomatch e), fun n e => (nomatch e)⟩
  refine ⟨rfl, rfl, _, rfl, fit (by rfl), fit (by rfl), fit (by rfl), ⟨e, ns, plain⟩, congrArg (fun i : Int => [PyData.int i, .list (natsD ns), .list [], .list [], .list []]) ee, sm.G, ?_⟩
  exact q _ _ ⟨by show n ≤ n' + 1; omega, by show n' + 1 ≤ n + 30; omega, _, sm, rfl, rfl⟩
/-! ### _law_version -/
def D_law_version : DX := anyD (fun _ : Unit => []) (fun _ n => n < 2 ^ 59) fun _ n d n' => n ≤ n' ∧ n' ≤ n + 30 ∧ ∃ p : Pt, p.Sm ∧ d = .str p.tx
theorem pm_law_version : Pm 0 D_law_version := pm_any fun _ => rfl
theorem natsD_get {ns : List Nat} {x : Nat} (h : x < ns.length) : atI (natsD ns) (x : Int) = some (.int (ns[x] : Int)) := by
  rw [DL.atI_nat (by rw [natsD_len]; exact h)]
  unfold natsD
  rw [List.getElem_map]
def vS (v1 v2 v3 v4 v5 v6 v7 : Sl) (n : Nat) : DS := ⟨[.st, v1, v2, v3, v4, v5, v6, v7], n⟩
/-- one of the small numbers -/
theorem small_get {sm : List Nat} {x : Nat} (h5 : sm.length = 5) (hx : x < 5) (hs : ∀ k ∈ sm, k ≤ 10 ^ 9) : ∃ k : Nat, k ≤ 10 ^ 9 ∧ atI (natsD sm) (x : Int) = some (.int (k : Int)) :=
  ⟨sm[x]'(by omega), hs _ (List.getElem_mem _), natsD_get (by omega)⟩
def vE : TDS := (dRet (dCall D_law_text (dCons (dOp ixR (dLst (dCons (dC (.int 0)) (dCons (dC (.int 0)) (dCons (dC (.int 0)) (dCons (dC (.int 0)) (dCons (dC (.int 0)) (dCons (dC (.int 1)) (dCons (dC (.int 1)) (dCons (dC (.int 7)) dNil))))))))) (dCallS 0 D_law_draw (dCons (dC (.int 8)) dNil))) (dCons (dVar 1) (dCons (dVar 5) (dCons (dVar 6) (dCons (dVar 7) dNil)))))))
theorem vE_ok {n : Nat} {Q : QN} {ns : List Nat} {t : Tl} {v2 v3 v4 : Sl} (hn : n < 2 ^ 60) (h : ∀ e, e ≤ 7 → (Pt.mk e ns t).Sm) (q : ∀ p : Pt, p.Sm → Q (.str p.tx) (n + 1)) : vE (ends Q) (vS (.d (.list (natsD ns))) v2 v3 v4 (.d (lfD t.fo)) (.d (loD t.po)) (.d (loD t.de)) n) := by
  refine ⟨fit (by rfl), rfl, 8, rfl, dr3 (by decide) (by decide) hn, drawK (m := 8) fun x hx => ?_⟩
  have h8 : ∀ k ∈ ([0, 0, 0, 0, 0, 1, 1, 7] : List Nat), k ≤ 7 := by decide
  refine ⟨_, natsD_get (ns := [0, 0, 0, 0, 0, 1, 1, 7]) hx, _, rfl, _, rfl, _, rfl, _, rfl, ⟨_, ns, t⟩, rfl, (h _ (h8 _ (List.getElem_mem _))).G, q _ (h _ (h8 _ (List.getElem_mem _)))⟩
def vLo (i j : Nat) (cs : List Nat) : TDS := dAsg (dIf (dTest (dOp inR (dVar 3) (dTup (dCons (dC (.int 1)) dNil)))) (dLst (dCons (dOp ixR (dVar 4) (dCallS 0 D_law_draw (dCons (dC (.int 5)) dNil))) dNil)) (dLst dNil)) (gdName i)
/-- a list of none or one -/
theorem one_ok {i : Nat} {b : Bool} {sm : List Nat} {D : DS → Prop} {s : DS} (hn : s.n < 2 ^ 60) (h4 : s.r[4]? = some (.d (.list (natsD sm)))) (h0 : s.r[0]? = some .st) (h5 : sm.length = 5) (hs : ∀ k ∈ sm, k ≤ 10 ^ 9)
    (q : ∀ (o : Option Nat) m, (∀ k, o = some k → k ≤ 10 ^ 9) → s.n ≤ m → m ≤ s.n + 1 → D ⟨s.r.set i (.d (loD o)), m⟩) :
    if b = true then (dLst (dCons (dOp ixR (dVar 4) (dCallS 0 D_law_draw (dCons (dC (.int 5)) dNil))) dNil)) s (fun x s1 => gdName i x s1 D) else (dLst dNil) s (fun x s1 => gdName i x s1 D) := by
  cases b with
  | true =>
    refine onT rfl ⟨_, h4, h0, 5, rfl, dr3 (by decide) (by decide) hn, drawK (m := 5) fun x hx => ?_⟩
    obtain ⟨k, hk, e⟩ := small_get h5 hx hs
    exact ⟨_, e, fit (by rfl), q (some k) _ (fun k' e => Option.some.inj e ▸ hk) (Nat.le_succ _) (Nat.le_refl _)⟩
  | false => exact onF rfl ⟨fit (by rfl), q none _ (fun k' e => nomatch e) (Nat.le_refl _) (Nat.le_succ _)⟩
theorem in_three (x a b c : Nat) : (([.int (a : Int), .int (b : Int), .int (c : Int)] : List PyData).any fun z => PyData.eqv z (.int (x : Int))) = decide (a = x ∨ b = x ∨ c = x) := by
  simp only [List.any_cons, List.any_nil, eqv_int, Bool.or_false, Bool.decide_or]
def vC : TDS := (dSeq (dAsg (dIf (dTest (dOp inR (dVar 3) (dTup (dCons (dC (.int 1)) (dCons (dC (.int 2)) (dCons (dC (.int 3)) dNil)))))) (dLst (dCons (dOp ixR (dLst (dCons (dC (.str "a")) (dCons (dC (.str "b")) (dCons (dC (.str "rc")) dNil)))) (dCallS 0 D_law_draw (dCons (dC (.int 3)) dNil))) (dCons (dOp ixR (dVar 4) (dCallS 0 D_law_draw (dCons (dC (.int 5)) dNil))) dNil))) (dLst dNil)) (gdName 5))
  (dSeq (dAsg (dIf (dTest (dOp inR (dVar 3) (dTup (dCons (dC (.int 3)) (dCons (dC (.int 4)) (dCons (dC (.int 5)) dNil)))))) (dLst (dCons (dOp ixR (dVar 4) (dCallS 0 D_law_draw (dCons (dC (.int 5)) dNil))) dNil)) (dLst dNil)) (gdName 6))
  (dSeq (dAsg (dIf (dTest (dOp inR (dVar 3) (dTup (dCons (dC (.int 2)) (dCons (dC (.int 5)) (dCons (dC (.int 6)) dNil)))))) (dLst (dCons (dOp ixR (dVar 4) (dCallS 0 D_law_draw (dCons (dC (.int 5)) dNil))) dNil)) (dLst dNil)) (gdName 7)) vE)))
theorem vC_ok {n : Nat} {Q : QN} {ns sm : List Nat} {w : Nat} {v2 : Sl} (hn : n < 2 ^ 59 + 100) (h0 : ns ≠ []) (hl : ns.length ≤ 8) (hb : ∀ k ∈ ns, k ≤ 10 ^ 9) (h5 : sm.length = 5) (hs : ∀ k ∈ sm, k ≤ 10 ^ 9) (q : ∀ p : Pt, p.Sm → ∀ m, n ≤ m → m ≤ n + 5 → Q (.str p.tx) m) : vC (ends Q) (vS (.d (.list (natsD ns))) v2 (.d (.int (w : Int))) (.d (.list (natsD sm))) .un .un .un n) := by
  have rest : ∀ (fo : Option (Nat × Nat)) m, (∀ i k, fo = some (i, k) → i < 3 ∧ k ≤ 10 ^ 9) → n ≤ m → m ≤ n + 2 → (dSeq (dAsg (dIf (dTest (dOp inR (dVar 3) (dTup (dCons (dC (.int 3)) (dCons (dC (.int 4)) (dCons (dC (.int 5)) dNil)))))) (dLst (dCons (dOp ixR (dVar 4) (dCallS 0 D_law_draw (dCons (dC (.int 5)) dNil))) dNil)) (dLst dNil)) (gdName 6))
  (dSeq (dAsg (dIf (dTest (dOp inR (dVar 3) (dTup (dCons (dC (.int 2)) (dCons (dC (.int 5)) (dCons (dC (.int 6)) dNil)))))) (dLst (dCons (dOp ixR (dVar 4) (dCallS 0 D_law_draw (dCons (dC (.int 5)) dNil))) dNil)) (dLst dNil)) (gdName 7)) vE)) (ends Q) (vS (.d (.list (natsD ns))) v2 (.d (.int (w : Int))) (.d (.list (natsD sm))) (.d (lfD fo)) .un .un m) := fun fo m hf m1 m2 => by
    refine ⟨_, rfl, fit (by rfl), rfl, rfl, _, rfl, ?_⟩
    refine one_ok (sm := sm) (by show m < _; omega) rfl rfl h5 hs fun po m' hpo m3 m4 => ?_
    refine ⟨_, rfl, fit (by rfl), rfl, rfl, _, rfl, ?_⟩
    refine one_ok (sm := sm) (by show m' < _; have : m' ≤ m + 1 := m4; omega) rfl rfl h5 hs fun de m'' hde m5 m6 => ?_
    have m3' : m ≤ m' := m3
    have m4' : m' ≤ m + 1 := m4
    have m5' : m' ≤ m'' := m5
    have m6' : m'' ≤ m' + 1 := m6
    exact vE_ok (t := ⟨fo, po, de⟩) (by omega) (fun e he => ⟨h0, hl, hb, by show e ≤ 10 ^ 9; omega, hf, hpo, hde⟩) fun p hp => q p hp _ (by omega) (by omega)
  refine ⟨_, rfl, fit (by rfl), rfl, rfl, _, rfl, ?_⟩
  show if _ = true then _ else _
  split
  · refine ⟨fit (by rfl), rfl, 3, rfl, dr3 (by decide) (by decide) (by show n < _; omega), drawK (m := 3) fun x hx => ?_⟩
    refine ⟨.str (wordS x), ?_, _, rfl, rfl, 5, rfl, dr3 (by decide) (by decide) (by show n + 1 < _; omega), drawK (m := 5) fun y hy => ?_⟩
    · have hx3 : x = 0 ∨ x = 1 ∨ x = 2 := by omega
      rcases hx3 with rfl | rfl | rfl
      · exact at0
      · exact at1
      · exact DL.atI_nat (xs := [PyData.str "a", .str "b", .str "rc"]) (j := 2) (by decide)
    · obtain ⟨k, hk, e⟩ := small_get h5 hy hs
      exact ⟨_, e, fit (by rfl), rest (some (x, k)) _ (fun i k' e => by cases e; exact ⟨hx, hk⟩) (by show n ≤ n + 1 + 1; omega) (by show n + 1 + 1 ≤ n + 2; omega)⟩
  · exact ⟨fit (by rfl), rest none _ (fun i k e => nomatch e) (Nat.le_refl _) (by show n ≤ n + 2; omega)⟩
end V

set_option Elab.async false
set_option linter.all false
set_option maxRecDepth 100000
set_option maxHeartbeats 4000000
namespace V
open PySem PySem.Spec PyProof.Rows L2 DL
open PySem.W (alike alikeAll dataLt)
open TL (numL joinL tl)
def vB : TDS := dSeq (dPar 3 4 (dCallS 0 D_law_draw (dCons (dC (.int 9)) dNil)) (dLst (dCons (dC (.int 0)) (dCons (dC (.int 0)) (dCons (dC (.int 1)) (dCons (dC (.int 2)) (dCons (dCallS 0 D_law_draw (dCons (dC (.int 1000)) dNil)) dNil))))))) vC
theorem vB_ok {n : Nat} {Q : QN} {ns : List Nat} {v2 : Sl} (hn : n < 2 ^ 59 + 90) (h0 : ns ≠ []) (hl : ns.length ≤ 8) (hb : ∀ k ∈ ns, k ≤ 10 ^ 9) (q : ∀ p : Pt, p.Sm → ∀ m, n ≤ m → m ≤ n + 7 → Q (.str p.tx) m) : vB (ends Q) (vS (.d (.list (natsD ns))) v2 .un .un .un .un .un n) := by
  refine ⟨rfl, 9, rfl, dr3 (by decide) (by decide) (by show n < _; omega), drawK (m := 9) fun w hw => ?_⟩
  refine ⟨rfl, 1000, rfl, dr3 (by decide) (by decide) (by show n + 1 < _; omega), drawK (m := 1000) fun x hx => ?_⟩
  refine ⟨fit (by rfl), ?_⟩
  exact vC_ok (n := n + 1 + 1) (ns := ns) (sm := [0, 0, 1, 2, x]) (w := w) (by omega) h0 hl hb rfl (fun k hk => by
    simp only [List.mem_cons, List.not_mem_nil, or_false] at hk
    omega) fun p hp m m1 m2 => q p hp m (by omega) (by omega)
theorem wp_law_version (ds : List PyData) (n : Nat) (Q : QN) (h : D_law_version ds n Q) : td_law_version D_law_draw D_law_text (ends Q) (entry true N_law_version ds n) := by
  obtain ⟨_, rfl, hn, q⟩ := h
  have hn : n < 2 ^ 59 := hn
  refine ⟨rfl, 3, rfl, dr3 (by decide) (by decide) (by show n < _; omega), drawK (m := 3) fun x hx => ?_⟩
  refine ⟨1 + (x : Int), rfl, by omega, by omega, ?_⟩
  have ex : (1 + (x : Int)).toNat = x + 1 := by omega
  rw [ex]
  refine ⟨by rw [rng_len, sizeLine_eq]; omega, ?_⟩
  have step : ∀ (Z : Nat → Prop), ∀ m, m + 2 ≤ 2 ^ 60 → ∀ K : PyData → Nat → Prop, (∀ y m', smallP y → m ≤ m' → m' ≤ m + 2 → K y m') → ∀ z : PyData, gdName 2 z (vS .un .un .un .un .un .un .un m) fun s2 => dYes s2 fun b s3 => if b = true then dCallS 0 D_law_draw (dCons (dOp ixR (dLst (dCons (dC (.int 2)) (dCons (dC (.int 3)) (dCons (dC (.int 3)) (dCons (dC (.int 12)) dNil))))) (dCallS 0 D_law_draw (dCons (dC (.int 4)) dNil))) dNil) s3 fun y s4 => K y s4.n else Z s3.n := fun Z m hm K k z => by
    refine ⟨rfl, fit (by rfl), rfl, 4, rfl, dr3 (by decide) (by decide) (by show m < _; omega), drawK (m := 4) fun y hy => ?_⟩
    have h12 : ∀ k ∈ ([2, 3, 3, 12] : List Nat), 0 < k ∧ k ≤ 12 := by decide
    have hk := h12 _ (List.getElem_mem (l := [2, 3, 3, 12]) (n := y) hy)
    refine ⟨_, natsD_get (ns := [2, 3, 3, 12]) hy, _, rfl, dr3 (by omega) (by omega) (by show m + 1 < _; omega), drawK (m := [2, 3, 3, 12][y]) fun u hu => ?_⟩
    exact k _ _ ⟨u, by omega, rfl⟩ (by show m ≤ m + 1 + 1; omega) (Nat.le_refl _)
  refine lc_draw smallP 2 (2 ^ 60) (rngD (x + 1)) [] (n + 1) (by rw [rng_len]; omega) (fun z hz m hm K k => step _ m hm K k z) (fun z hz m hm K k Z => step Z m hm K k z) fun ys n' hl hy h1 h2 => ?_
  rw [rng_len] at hl h2
  obtain ⟨ns, rfl, hns⟩ := small_list hy
  rw [natsD_len] at hl
  rw [List.nil_append]
  refine ⟨rfl, 12, rfl, dr3 (by decide) (by decide) (by show n' < _; omega), drawK (m := 12) fun y hy => ?_⟩
  refine ⟨rfl, rfl, _, rfl, ?_⟩
  have h0 : ns ≠ [] := fun z => by rw [z] at hl; simp at hl
  by_cases hy0 : PyData.eqv (.int (y : Int)) (.int 0) = true
  · refine onT hy0 ?_
    have cp : CPow 10 9 := ⟨by decide, by decide, by decide⟩
    have e9 : (10 : Int) ^ (9 : Int).toNat = 1000000000 := by decide
    refine ⟨_, rfl, rfl, cp, _, rfl, dr3 (by show (0 : Int) < 10 ^ (9 : Int).toNat; rw [e9]; decide) (by show (10 : Int) ^ (9 : Int).toNat < _; rw [e9]; decide) (by show n' + 1 < _; omega), ?_⟩
    rintro d n'' ⟨e, u, e2, u0, u1⟩
    subst e
    subst e2
    have u1' : u < (10 : Int) ^ (9 : Int).toNat := u1
    rw [e9] at u1'
    obtain ⟨w, rfl⟩ : ∃ w : Nat, u = (w : Int) := ⟨u.toNat, by omega⟩
    refine ⟨fit (by rfl), by show (natsD ns).length + 2 ≤ _; rw [natsD_len, sizeLine_eq]; omega, ?_⟩
    have e3 : natsD ns ++ [PyData.int 0, .int (w : Int)] = natsD (ns ++ [0, w]) := natsD_app ns [0, w]
    show vB (ends Q) (vS (.d (.list (natsD ns ++ [PyData.int 0, .int (w : Int)]))) .un .un .un .un .un .un (n' + 1 + 1))
    rw [e3]
    refine vB_ok (by omega) (by simp) (by rw [List.length_append]; simp only [List.length_cons, List.length_nil]; omega) (fun k hk => ?_) fun p hp m m1 m2 => q _ _ ⟨by omega, by omega, p, hp, rfl⟩
    rcases List.mem_append.mp hk with hk | hk
    · exact hns k hk
    · simp only [List.mem_cons, List.not_mem_nil, or_false] at hk
      omega
  · refine onF (Bool.eq_false_iff.mpr hy0) ?_
    show vB (ends Q) (vS (.d (.list (natsD ns))) .un .un .un .un .un .un (n' + 1))
    exact vB_ok (by omega) h0 (by omega) hns fun p hp m m1 m2 => q _ _ ⟨by omega, by omega, p, hp, rfl⟩
end V

set_option Elab.async false
set_option linter.all false
set_option maxRecDepth 100000
set_option maxHeartbeats 4000000
namespace V
open PySem PySem.Spec PyProof.Rows L2 DL
open PySem.W (alike alikeAll dataLt)
open TL (numL joinL tl)
def D_law_clause : DX := anyD (fun _ : Unit => []) (fun _ n => n < 2 ^ 58) fun _ n d n' => n ≤ n' ∧ n' ≤ n + 40 ∧ ∃ c : Cl, c.G ∧ d = c.d
theorem pm_law_clause : Pm 0 D_law_clause := pm_any fun _ => rfl
theorem clG_plain {sg : Nat} {p : Pt} (h : p.Sm) (h1 : sg < 7) (h2 : sg = 4 ∨ sg = 5 → p.t = plain) (h3 : sg ≠ 6) : (Cl.mk sg false p).G :=
  ⟨h1, h, fun z => absurd z Bool.false_ne_true, fun z => ⟨rfl, h2 z⟩, fun z => absurd z h3⟩
theorem clG_star {sg : Nat} {p : Pt} (h : p.Sm) (h1 : sg < 2) (h2 : p.t = plain) : (Cl.mk sg true p).G :=
  ⟨by show sg < 7; omega, h, fun _ => ⟨h1, h2⟩, fun z => by rcases z with z | z <;> (have z' : sg = _ := z; omega), fun z => by have z' : sg = 6 := z; omega⟩
theorem clG_til {p : Pt} (h : p.Sm) (h1 : 1 < p.ns.length) : (Cl.mk 6 false p).G :=
  ⟨by show 6 < 7; omega, h, fun z => absurd z Bool.false_ne_true, fun z => by rcases z with z | z <;> (have z' : (6 : Nat) = _ := z; omega), fun _ => ⟨rfl, h1⟩⟩
theorem cl_d (sg : Nat) (p : Pt) : (Cl.mk sg false p).d = .tuple [.str (signS sg), .str p.tx] := by
  unfold Cl.d
  rw [Cl.tx_f rfl]
theorem lt_c {m : Nat} (w : Nat) : dataLt (.int (w : Int)) (.int (m : Int)) = decide (w < m) := by
  rw [PySem.W.dataLt_int]
  exact decide_eq_decide.mpr (by omega)
theorem at2 {x y z : PyData} {r : List PyData} : atI (x :: y :: z :: r) 2 = some z := DL.atI_nat (xs := x :: y :: z :: r) (j := 2) (Nat.succ_lt_succ (Nat.succ_lt_succ (Nat.succ_pos _)))
theorem wp_law_clause (ds : List PyData) (n : Nat) (Q : QN) (h : D_law_clause ds n Q) : td_law_clause D_law_draw D_law_version D_law_plain D_law_parts D_law_text (ends Q) (entry true N_law_clause ds n) := by
  obtain ⟨_, rfl, hn, q⟩ := h
  have hn : n < 2 ^ 58 := hn
  have q' : ∀ (c : Cl) m, c.G → n ≤ m → m ≤ n + 40 → Q c.d m := fun c m hc h1 h2 => q _ _ ⟨h1, h2, c, hc, rfl⟩
  have qf : ∀ (sg : Nat) (p : Pt) m, (Cl.mk sg false p).G → n ≤ m → m ≤ n + 40 → Q (.tuple [.str (signS sg), .str p.tx]) m := fun sg p m hc h1 h2 => by
    have := q' _ m hc h1 h2
    rw [cl_d] at this
    exact this
  refine ⟨rfl, 12, rfl, dr3 (by decide) (by decide) (by show n < _; omega), drawK (m := 12) fun w hw => ?_⟩
  refine ⟨_, rfl, by simp only [alike], by simp, by simp only [PyData.depth]; omega, _, rfl, ?_⟩
  by_cases w4 : w < 4
  · refine onT ((lt_c (m := 4) w).trans (decide_eq_true w4)) ?_
    refine ⟨fit (by rfl), rfl, 2, rfl, dr3 (by decide) (by decide) (by show n + 1 < _; omega), drawK (m := 2) fun x hx => ?_⟩
    have hx2 : x = 0 ∨ x = 1 := by omega
    rcases hx2 with rfl | rfl
    · refine ⟨.str (signS 3), at0, rfl, (), rfl, by show n + 1 + 1 < 2 ^ 59; omega, ?_⟩
      rintro d n' ⟨e1, e2, p, hp, rfl⟩
      exact ⟨fit (by rfl), qf 3 p n' (clG_plain hp (by decide) (fun z => by rcases z with z | z <;> cases z) (by decide)) (by have e1' : n + 1 + 1 ≤ n' := e1; omega) (by have e2' : n' ≤ n + 1 + 1 + 30 := e2; omega)⟩
    · refine ⟨.str (signS 2), at1, rfl, (), rfl, by show n + 1 + 1 < 2 ^ 59; omega, ?_⟩
      rintro d n' ⟨e1, e2, p, hp, rfl⟩
      exact ⟨fit (by rfl), qf 2 p n' (clG_plain hp (by decide) (fun z => by rcases z with z | z <;> cases z) (by decide)) (by have e1' : n + 1 + 1 ≤ n' := e1; omega) (by have e2' : n' ≤ n + 1 + 1 + 30 := e2; omega)⟩
  refine onF ((lt_c (m := 4) w).trans (decide_eq_false w4)) ?_
  refine ⟨_, rfl, by simp only [alike], by simp, by simp only [PyData.depth]; omega, _, rfl, ?_⟩
  by_cases w6 : w < 6
  · refine onT ((lt_c (m := 6) w).trans (decide_eq_true w6)) ?_
    have hx2 : w = 4 ∨ w = 5 := by omega
    rcases hx2 with rfl | rfl
    · refine ⟨fit (by rfl), _, rfl, .str (signS 4), at0, rfl, (), rfl, by show n + 1 < 2 ^ 59; omega, ?_⟩
      rintro d n' ⟨e1, e2, p, hp, hpl, rfl⟩
      exact ⟨fit (by rfl), qf 4 p n' (clG_plain hp (by decide) (fun z => hpl) (by decide)) (by have e1' : n + 1 ≤ n' := e1; omega) (by have e2' : n' ≤ n + 1 + 30 := e2; omega)⟩
    · refine ⟨fit (by rfl), _, rfl, .str (signS 5), at1, rfl, (), rfl, by show n + 1 < 2 ^ 59; omega, ?_⟩
      rintro d n' ⟨e1, e2, p, hp, hpl, rfl⟩
      exact ⟨fit (by rfl), qf 5 p n' (clG_plain hp (by decide) (fun z => hpl) (by decide)) (by have e1' : n + 1 ≤ n' := e1; omega) (by have e2' : n' ≤ n + 1 + 30 := e2; omega)⟩
  refine onF ((lt_c (m := 6) w).trans (decide_eq_false w6)) ?_
  refine ⟨_, rfl, by simp only [alike], by simp, by simp only [PyData.depth]; omega, _, rfl, ?_⟩
  by_cases w9 : w < 9
  · refine onT ((lt_c (m := 9) w).trans (decide_eq_true w9)) ?_
    have star : ∀ sg, sg < 2 → (∃ y, atI [PyData.str "==", .str "!=", .str "!="] ((w : Int) - 6) = some y ∧ y = .str (signS sg)) → (dRet (dTup (dCons (dOp ixR (dLst (dCons (dC (.str "==")) (dCons (dC (.str "!=")) (dCons (dC (.str "!=")) dNil)))) (dOp subR (dVar 1) (dC (.int 6)))) (dCons (dOp addR (dCallS 0 D_law_plain dNil) (dC (.str ".*"))) dNil)))) (ends Q) ⟨[.st, .d (.int (w : Int)), .un, .un, .un, .un, .un], n + 1⟩ := fun sg hsg ⟨y, hy, ey⟩ => by
      subst ey
      refine ⟨fit (by rfl), _, rfl, _, hy, rfl, (), rfl, by show n + 1 < 2 ^ 59; omega, ?_⟩
      rintro d n' ⟨e1, e2, p, hp, hpl, rfl⟩
      have e1' : n + 1 ≤ n' := e1
      have e2' : n' ≤ n + 1 + 30 := e2
      have hr := len_ren hp.G
      have ec : p.tx ++ Str.ofString ".*" = (Cl.mk sg true p).tx := by
        rw [lit_star]
        unfold Pt.tx
        rw [tx_app, Cl.tx_t rfl]
      refine ⟨by rw [lit_star, tx_len]; unfold Pt.tx; rw [tx_len, sizeLine_eq]; simp only [List.length_cons, List.length_nil]; omega, fit (by rfl), ?_⟩
      show Q (.tuple [.str (signS sg), .str (p.tx ++ Str.ofString ".*")]) n'
      rw [ec]
      exact q' ⟨sg, true, p⟩ n' (clG_star hp hsg hpl) (by omega) (by omega)
    have hx3 : w = 6 ∨ w = 7 ∨ w = 8 := by omega
    rcases hx3 with rfl | rfl | rfl
    · exact star 0 (by decide) ⟨_, at0, rfl⟩
    · exact star 1 (by decide) ⟨_, at1, rfl⟩
    · exact star 1 (by decide) ⟨_, at2, rfl⟩
  refine onF ((lt_c (m := 9) w).trans (decide_eq_false w9)) ?_
  refine ⟨_, rfl, by simp only [alike], by simp, by simp only [PyData.depth]; omega, _, rfl, ?_⟩
  by_cases w11 : w < 11
  · refine onT ((lt_c (m := 11) w).trans (decide_eq_true w11)) ?_
    have hx2 : w = 9 ∨ w = 10 := by omega
    rcases hx2 with rfl | rfl
    · refine ⟨fit (by rfl), _, rfl, .str (signS 0), at0, rfl, (), rfl, by show n + 1 < 2 ^ 59; omega, ?_⟩
      rintro d n' ⟨e1, e2, p, hp, rfl⟩
      exact ⟨fit (by rfl), qf 0 p n' (clG_plain hp (by decide) (fun z => by rcases z with z | z <;> cases z) (by decide)) (by have e1' : n + 1 ≤ n' := e1; omega) (by have e2' : n' ≤ n + 1 + 30 := e2; omega)⟩
    · refine ⟨fit (by rfl), _, rfl, .str (signS 1), at1, rfl, (), rfl, by show n + 1 < 2 ^ 59; omega, ?_⟩
      rintro d n' ⟨e1, e2, p, hp, rfl⟩
      exact ⟨fit (by rfl), qf 1 p n' (clG_plain hp (by decide) (fun z => by rcases z with z | z <;> cases z) (by decide)) (by have e1' : n + 1 ≤ n' := e1; omega) (by have e2' : n' ≤ n + 1 + 30 := e2; omega)⟩
  refine onF ((lt_c (m := 11) w).trans (decide_eq_false w11)) ?_
  refine ⟨rfl, (), rfl, by show n + 1 < 2 ^ 59; omega, ?_⟩
  rintro d n' ⟨e1, e2, p, hp, rfl⟩
  have e1' : n + 1 ≤ n' := e1
  have e2' : n' ≤ n + 1 + 30 := e2
  refine ⟨p, rfl, hp.G, _, rfl, _, _, rfl, _, _, rfl, _, _, rfl, _, _, rfl, _, _, rfl, rfl, ?_⟩
  refine ⟨_, rfl, _, rfl, rfl, 3, rfl, dr3 (by decide) (by decide) (by show n' < _; omega), drawK (m := 3) fun x hx => ?_⟩
  have hpn : p.ns.length ≤ 8 := hp.ln
  refine ⟨fit (by rfl), by show (natsD p.ns).length + 1 ≤ _; rw [natsD_len, sizeLine_eq]; omega, _, rfl, _, rfl, _, rfl, _, rfl, ?_⟩
  have ens : DL.cutD (natsD p.ns ++ [PyData.int (x : Int)]) none (some ((4 : Nat) : Int)) = natsD ((p.ns ++ [x]).take 4) := by
    rw [cut_to, show natsD p.ns ++ [PyData.int (x : Int)] = natsD (p.ns ++ [x]) from natsD_app p.ns [x]]
    unfold natsD
    rw [List.map_take]
  have hne : 0 < p.ns.length := List.length_pos_iff.mpr hp.ne
  have hlen : ((p.ns ++ [x]).take 4).length = min 4 (p.ns.length + 1) := by rw [List.length_take, List.length_append]; rfl
  have sm : (Pt.mk p.ep ((p.ns ++ [x]).take 4) p.t).Sm := ⟨fun z => by rw [show (p.ns ++ [x]).take 4 = [] from z] at hlen; simp only [List.length_nil] at hlen; omega, by show ((p.ns ++ [x]).take 4).length ≤ 8; omega, fun k hk => by
    have hk' := List.mem_of_mem_take hk
    rcases List.mem_append.mp hk' with hk' | hk'
    · exact hp.nb k hk'
    · have := List.mem_singleton.mp hk'; omega, hp.eb, hp.fo, hp.po, hp.de⟩
  refine ⟨⟨p.ep, (p.ns ++ [x]).take 4, p.t⟩, congrArg (fun l => [PyData.int (p.ep : Int), .list l, lfD p.t.fo, loD p.t.po, loD p.t.de]) ens, sm.G, fit (by rfl), ?_⟩
  exact qf 6 _ _ (clG_til sm (by show 1 < ((p.ns ++ [x]).take 4).length; omega)) (by show n ≤ n' + 1; omega) (by show n' + 1 ≤ n + 40; omega)
end V

set_option Elab.async false
set_option linter.all false
set_option maxRecDepth 100000
set_option maxHeartbeats 4000000
namespace V
open PySem PySem.Spec PyProof.Rows L2 DL
open PySem.W (alike alikeAll dataLt)
open TL (numL joinL tl)
def D_law_requirement : DX := anyD (fun k : Nat => [.int (k : Int)]) (fun k n => k ≤ 4 ∧ n < 2 ^ 57) fun _ n d n' => n ≤ n' ∧ n' ≤ n + 1000 ∧ ∃ cs : List Cl, ReqG cs ∧ d = clsD cs
theorem pm_law_requirement : Pm 1 D_law_requirement := pm_any fun _ => rfl
def clP (y : PyData) : Prop := ∃ c : Cl, c.G ∧ y = c.d
theorem cl_list : ∀ {ys : List PyData}, (∀ y ∈ ys, clP y) → ∃ cs : List Cl, ys = cs.map Cl.d ∧ ∀ c ∈ cs, c.G
  | [], _ => ⟨[], rfl, fun _ h => nomatch h⟩
  | y :: ys, h => by
    obtain ⟨cs, e, hn⟩ := cl_list (fun z hz => h z (List.mem_cons_of_mem _ hz))
    obtain ⟨c, hc, ec⟩ := h y List.mem_cons_self
    refine ⟨c :: cs, by rw [e, ec]; rfl, fun z hz => ?_⟩
    rcases List.mem_cons.mp hz with rfl | h'
    · exact hc
    · exact hn z h'
theorem wp_law_requirement (ds : List PyData) (n : Nat) (Q : QN) (h : D_law_requirement ds n Q) : td_law_requirement D_law_draw D_law_clause (ends Q) (entry true N_law_requirement ds n) := by
  obtain ⟨k, rfl, ⟨hk, hn⟩, q⟩ := h
  have hn : n < 2 ^ 57 := hn
  refine ⟨rfl, _, rfl, (k : Int) + 1, rfl, dr3 (by omega) (by omega) (by show n < _; omega), ?_⟩
  have ek : (k : Int) + 1 = ((k + 1 : Nat) : Int) := by omega
  rw [ek]
  refine drawK (m := k + 1) fun x hx => ?_
  refine ⟨(x : Int), rfl, by omega, by omega, ?_⟩
  have ex : ((x : Nat) : Int).toNat = x := by omega
  rw [ex]
  refine ⟨by rw [rng_len, sizeLine_eq]; omega, ?_⟩
  have step : ∀ (Z : Nat → Prop), ∀ m, m + 40 ≤ 2 ^ 58 → ∀ K : PyData → Nat → Prop, (∀ y m', clP y → m ≤ m' → m' ≤ m + 40 → K y m') → ∀ z : PyData, gdName 2 z ⟨[.st, .d (.int (k : Int)), .un], m⟩ fun s2 => dYes s2 fun b s3 => if b = true then dCallS 0 D_law_clause dNil s3 fun y s4 => K y s4.n else Z s3.n := fun Z m hm K kk z => by
    refine ⟨rfl, (), rfl, by show m < 2 ^ 58; omega, ?_⟩
    rintro d n' ⟨e1, e2, c, hc, rfl⟩
    exact kk _ _ ⟨c, hc, rfl⟩ e1 e2
  refine lc_draw clP 40 (2 ^ 58) (rngD x) [] (n + 1) (by rw [rng_len]; omega) (fun z hz m hm K k => step _ m hm K k z) (fun z hz m hm K k Z => step Z m hm K k z) fun ys n' hl hy h1 h2 => ?_
  rw [rng_len] at hl h2
  obtain ⟨cs, rfl, hcs⟩ := cl_list hy
  rw [List.length_map] at hl
  exact q _ _ ⟨by show n ≤ n'; omega, by show n' ≤ n + 1000; omega, cs, ⟨by omega, hcs⟩, rfl⟩
/-! ### _law_releases -/
def PoolG (ps : List Pt) : Prop := (∀ p ∈ ps, p.G) ∧ ps ≠ [] ∧ ps.length ≤ 1000
def D_law_releases : DX := anyD (fun a : Nat × List Pt => [.int (a.1 : Int), .list (a.2.map txD)]) (fun a n => a.1 ≤ 25 ∧ PoolG a.2 ∧ n < 2 ^ 57) fun _ n d n' => n ≤ n' ∧ n' ≤ n + 2000 ∧ ∃ rs : List Rel, RelG rs ∧ rs.length ≤ 25 ∧ d = relsD rs
theorem pm_law_releases : Pm 2 D_law_releases := pm_any fun _ => rfl
theorem lks_sh (ks : List Ky) : SeqAt.shaped (.list (ks.map Ky.lk)) = true := by
  have h1 : PyData.canLayAll0 (ks.map Ky.lk) = true := by
    induction ks with
    | nil => rfl
    | cons v vs ih =>
      rw [List.map_cons]
      simp only [PyData.canLayAll0, lay_lk, ih, Bool.and_self]
  have h2 : PyData.depthAll (ks.map Ky.lk) ≤ 3 := by
    clear h1
    induction ks with
    | nil => exact Nat.zero_le _
    | cons v vs ih =>
      rw [List.map_cons]
      simp only [PyData.depthAll, depth_lk]
      omega
  refine Bool.and_eq_true_iff.mpr ⟨h1, decide_eq_true ?_⟩
  simp only [PyData.depth]
  omega
def relB : TDS := (dSeq (dAsg (dIf (dTest (dOp eqR (dCallS 0 D_law_draw (dCons (dC (.int 2)) dNil)) (dC (.int 0)))) (dCallS 0 D_law_version dNil) (dOp ixR (dVar 2) (dCallS 0 D_law_draw (dCons (dCB lenR (dCons (dVar 2) dNil)) dNil)))) (gdName 6))
  (dIfS (dTest (dInOwn true 4 (dCall D_law_key (dCons (dVar 6) dNil)))) (dSeq (dDrop (dApp 4 (dCall D_law_key (dCons (dVar 6) dNil))))
  (dDrop (dApp 3 (dTup (dCons (dVar 6) (dCons (dOp eqR (dCallS 0 D_law_draw (dCons (dC (.int 5)) dNil)) (dC (.int 0))) dNil)))))) dNext))
def relS (m : PyData) (ps : List Pt) (rs : List Rel) (ks : List Ky) (o5 o6 : Sl) (n : Nat) : DS := ⟨[.st, .d m, .d (.list (ps.map txD)), .own (rs.map relD), .own (ks.map Ky.lk), o5, o6], n⟩
theorem relB_ok {D : DEnds} {n : Nat} {m : PyData} {ps : List Pt} {rs : List Rel} {ks : List Ky} {o5 o6 : Sl} (hp : PoolG ps) (hn : n < 2 ^ 58) (hr : rs.length ≤ 1000) (hk : ks.length ≤ 1000)
    (q0 : ∀ o6 n', n ≤ n' → n' ≤ n + 50 → D.nx (relS m ps rs ks o5 o6 n')) (q1 : ∀ (v : Rel) k o6 n', v.1.G → n ≤ n' → n' ≤ n + 50 → D.nx (relS m ps (rs ++ [v]) (ks ++ [k]) o5 o6 n')) : relB D (relS m ps rs ks o5 o6 n) := by
  have rest : ∀ (p : Pt) n', p.G → n ≤ n' → n' ≤ n + 40 → (dIfS (dTest (dInOwn true 4 (dCall D_law_key (dCons (dVar 6) dNil)))) (dSeq (dDrop (dApp 4 (dCall D_law_key (dCons (dVar 6) dNil))))
  (dDrop (dApp 3 (dTup (dCons (dVar 6) (dCons (dOp eqR (dCallS 0 D_law_draw (dCons (dC (.int 5)) dNil)) (dC (.int 0))) dNil)))))) dNext) D (relS m ps rs ks o5 (.d (.str p.tx)) n') := fun p n' hG h1 h2 => by
    refine ⟨_, rfl, p, rfl, hG, _, rfl, shaped_lk _, lks_sh ks, _, rfl, ?_⟩
    show if (!(ks.map Ky.lk).any fun z => PyData.eqv z p.key.lk) = true then _ else _
    cases hb : (ks.map Ky.lk).any fun z => PyData.eqv z p.key.lk with
    | true => exact onF rfl (q0 _ n' h1 (by omega))
    | false =>
      refine onT rfl ⟨⟨_, rfl⟩, _, rfl, p, rfl, hG, _, rfl, by rw [List.length_map, sizeLine_eq]; omega, ?_⟩
      refine ⟨⟨_, rfl⟩, _, rfl, rfl, 5, rfl, dr3 (by decide) (by decide) (by show n' < _; omega), drawK (m := 5) fun y hy => ?_⟩
      refine ⟨rfl, rfl, fit (by rfl), _, rfl, by rw [List.length_map, sizeLine_eq]; omega, ?_⟩
      have e1 : rs.map relD ++ [PyData.tuple [.str p.tx, .bool (PyData.eqv (.int (y : Int)) (.int 0))]] = (rs ++ [(p, PyData.eqv (.int (y : Int)) (.int 0))]).map relD := by rw [List.map_append]; rfl
      have e2 : ks.map Ky.lk ++ [p.key.lk] = (ks ++ [p.key]).map Ky.lk := by rw [List.map_append]; rfl
      have := q1 (p, PyData.eqv (.int (y : Int)) (.int 0)) p.key (.d (.str p.tx)) (n' + 1) hG (by omega) (by omega)
      unfold relS at this
      rw [← e1, ← e2] at this
      exact this
  refine ⟨rfl, 2, rfl, dr3 (by decide) (by decide) (by show n < _; omega), drawK (m := 2) fun x hx => ?_⟩
  refine ⟨rfl, rfl, _, rfl, ?_⟩
  by_cases h0 : PyData.eqv (.int (x : Int)) (.int 0) = true
  · refine onT h0 ⟨rfl, (), rfl, by show n + 1 < 2 ^ 59; omega, ?_⟩
    rintro d n' ⟨e1, e2, p, hp, rfl⟩
    have e1' : n + 1 ≤ n' := e1
    have e2' : n' ≤ n + 1 + 30 := e2
    exact rest p n' hp.G (by omega) (by omega)
  · have hl : 0 < ps.length := List.length_pos_iff.mpr hp.2.1
    have hl2 := hp.2.2
    refine onF (Bool.eq_false_iff.mpr h0) ⟨_, rfl, rfl, _, rfl, ((ps.map txD).length : Nat), rfl, ?_, ?_⟩
    · rw [List.length_map]
      exact dr3 (by omega) (by omega) (by show n + 1 < _; omega)
    · rw [List.length_map]
      refine drawK (m := ps.length) fun y hy => ?_
      refine ⟨txD (ps[y]'hy), ?_, rest _ (n + 1 + 1) (hp.1 _ (List.getElem_mem _)) (by omega) (by omega)⟩
      rw [DL.atI_nat (by rw [List.length_map]; exact hy), List.getElem_map]
theorem rels_go {D : DEnds} {m : PyData} {ps : List Pt} {N N0 : Nat} (hp : PoolG ps) (hN : N < 2 ^ 58) (q : ∀ (rs : List Rel) ks o5 o6 n', (∀ v ∈ rs, v.1.G) → rs.length ≤ 25 → N0 ≤ n' → n' ≤ N → D.nx (relS m ps rs ks o5 o6 n')) : ∀ (l : List PyData) (rs : List Rel) (ks : List Ky) (o5 o6 : Sl) (n : Nat), (∀ v ∈ rs, v.1.G) → rs.length + l.length ≤ 25 → ks.length + l.length ≤ 25 → N0 ≤ n → n + 50 * l.length ≤ N →
    forGo (gdName 5) relB D l (relS m ps rs ks o5 o6 n)
  | [], rs, ks, o5, o6, n, hg, hr, hk, hN0, hn => q rs ks o5 o6 n hg (by simp only [List.length_nil] at hr; omega) hN0 (by omega)
  | x :: l, rs, ks, o5, o6, n, hg, hr, hk, hN0, hn => by
    rw [List.length_cons] at hr hk
    rw [List.length_cons, Nat.mul_add, Nat.mul_one] at hn
    refine relB_ok (D := { D with nx := forGo (gdName 5) relB D l, ct := forGo (gdName 5) relB D l, bk := D.nx }) (o5 := .d x) (n := n) hp (by omega) (by omega) (by omega) (fun o6 n' h1 h2 => ?_) (fun v k o6 n' hv h1 h2 => ?_)
    · exact rels_go hp hN q l rs ks _ o6 n' hg (by omega) (by omega) (by omega) (by omega)
    · refine rels_go hp hN q l (rs ++ [v]) (ks ++ [k]) _ o6 n' (fun z hz => ?_) (by rw [List.length_append]; simp only [List.length_cons, List.length_nil]; omega) (by rw [List.length_append]; simp only [List.length_cons, List.length_nil]; omega) (by omega) (by omega)
      rcases List.mem_append.mp hz with hz | hz
      · exact hg z hz
      · rw [List.mem_singleton.mp hz]; exact hv
theorem wp_law_releases (ds : List PyData) (n : Nat) (Q : QN) (h : D_law_releases ds n Q) : td_law_releases D_law_draw D_law_version D_law_key (ends Q) (entry true N_law_releases ds n) := by
  obtain ⟨⟨k, ps⟩, rfl, ⟨hk, hp, hn⟩, q⟩ := h
  have hk : k ≤ 25 := hk
  have hn : n < 2 ^ 57 := hn
  refine ⟨rfl, _, rfl, (k : Int) + 1, rfl, dr3 (by omega) (by omega) (by show n < _; omega), ?_⟩
  have ek : (k : Int) + 1 = ((k + 1 : Nat) : Int) := by omega
  rw [ek]
  refine drawK (m := k + 1) fun x hx => ?_
  refine ⟨(x : Int), rfl, by omega, by omega, ?_⟩
  have ex : ((x : Nat) : Int).toNat = x := by omega
  rw [ex]
  refine rels_go (m := .int (k : Int)) (N := n + 1 + 50 * x) (N0 := n + 1) hp (by omega) (fun rs ks o5 o6 n' hg hl h1 h2 => ?_) (rngD x) [] [] _ _ (n + 1) (fun v h => nomatch h) (by rw [rng_len]; simp only [List.length_nil]; omega) (by rw [rng_len]; simp only [List.length_nil]; omega) (Nat.le_refl _) (by rw [rng_len]; omega)
  exact ⟨_, rfl, q _ _ ⟨by show n ≤ n'; omega, by show n' ≤ n + 2000; omega, rs, ⟨hg, by omega⟩, hl, rfl⟩⟩
end V

set_option Elab.async false
set_option linter.all false
set_option maxRecDepth 100000
set_option maxHeartbeats 4000000
namespace V
open PySem PySem.Spec PyProof.Rows L2 DL
open PySem.W (alike alikeAll dataLt)
open TL (numL joinL tl)
/-! ### _law_around -/
def D_law_around : DX := anyD (fun c : Cl => [c.d]) (fun c n => c.G) fun c n d n' => n' = n ∧ ∃ ps : List Pt, (∀ p ∈ ps, p.G) ∧ ps.length ≤ 13 ∧ d = .list (ps.map txD)
theorem pm_law_around : Pm 1 D_law_around := pm_any fun _ => rfl
abbrev Row := List Nat × Tl
def rowD (r : Row) : PyData := .tuple [.list (natsD r.1), lfD r.2.fo, loD r.2.po, loD r.2.de]
def aS (c : PyData) (t : Sl) (p : Pt) (more less : List Nat) (rows : Sl) (n : Nat) : DS := ⟨[.d c, t, .d (.int (p.ep : Int)), .d (.list (natsD p.ns)), .d (lfD p.t.fo), .d (loD p.t.po), .d (loD p.t.de), .d (.list (natsD more)), .d (.list (natsD less)), rows, .un], n⟩
def RowsG (ep : Nat) (rows : List Row) : Prop := ∀ r ∈ rows, (Pt.mk ep r.1 r.2).G
def aE : TDS := (dRet (dFrz (dLc (diL (dGive 9)) (gdName 10) dYes (dCall D_law_text (dCons (dVar 2) (dCons (dOp ixR (dVar 10) (dC (.int 0))) (dCons (dOp ixR (dVar 10) (dC (.int 1))) (dCons (dOp ixR (dVar 10) (dC (.int 2))) (dCons (dOp ixR (dVar 10) (dC (.int 3))) dNil)))))) [10])))
theorem at3 {x y z u : PyData} {r : List PyData} : atI (x :: y :: z :: u :: r) 3 = some u := DL.atI_nat (xs := x :: y :: z :: u :: r) (j := 3) (Nat.succ_lt_succ (Nat.succ_lt_succ (Nat.succ_lt_succ (Nat.succ_pos _))))
theorem aE_ok {n : Nat} {Q : QN} {c : PyData} {t : Sl} {p : Pt} {more less : List Nat} {rows : List Row} (hr : RowsG p.ep rows) (hl : rows.length ≤ 13) (q : ∀ ps : List Pt, (∀ p ∈ ps, p.G) → ps.length ≤ 13 → Q (.list (ps.map txD)) n) : aE (ends Q) (aS c t p more less (.own (rows.map rowD)) n) := by
  refine ⟨_, rfl, _, rfl, by rw [List.length_map, sizeLine_eq]; omega, ?_⟩
  refine lc_pure rowD (fun _ => true) (fun r => txD ⟨p.ep, r.1, r.2⟩) rows [] (fun r hr' K K0 k1 _ => ?_) ?_
  · exact ⟨_, rfl, _, rfl, _, at0, _, rfl, _, at1, _, rfl, _, at2, _, rfl, _, at3, ⟨p.ep, r.1, r.2⟩, rfl, hr r hr', k1 rfl⟩
  · rw [List.nil_append, List.filter_eq_self.mpr (fun _ _ => rfl)]
    have e : rows.map (fun r => txD ⟨p.ep, r.1, r.2⟩) = (rows.map fun r : Row => (⟨p.ep, r.1, r.2⟩ : Pt)).map txD := by rw [List.map_map]; rfl
    rw [e]
    refine q _ (fun x hx => ?_) (by rw [List.length_map]; exact hl)
    obtain ⟨r, hr', rfl⟩ := List.mem_map.mp hx
    exact hr r hr'
theorem rowG {p : Pt} (h : p.Sm) {ns : List Nat} {t : Tl} (h0 : ns ≠ []) (hl : ns.length ≤ 20) (hb : ∀ k ∈ ns, k ≤ 10 ^ 9 + 1) (ht : t.G) : (Pt.mk p.ep ns t).G :=
  ⟨h0, by show ns.length ≤ 60; omega, fun k hk => Nat.lt_of_le_of_lt (hb k hk) (by decide), h.G.eb, ht⟩
theorem lf_rows (a b : List Row) : (a.map rowD ++ b.map rowD) = (a ++ b).map rowD := by rw [List.map_append]
def r1 (p : Pt) : List Row := [(p.ns, p.t), (p.ns, ⟨p.t.fo, p.t.po, some 0⟩), (p.ns, ⟨p.t.fo, some 9, none⟩), (p.ns, plain)]
def r2 (p : Pt) : List Row := [(p.ns, ⟨some (2, 4), none, none⟩), (p.ns, ⟨none, some 0, some 0⟩), (p.ns ++ [0, 1], plain)]
def r3 (p : Pt) (more : List Nat) : List Row := [(p.ns ++ [5], ⟨some (1, 1), none, none⟩), (more, ⟨none, none, some 0⟩), (more, plain)]
def r4 (more : List Nat) : List Row := [(more ++ [0], ⟨none, some 2, none⟩)]
def r5 (less : List Nat) : List Row := if less = [] then [] else [(less ++ [0, 0, 3], plain), (less, ⟨none, none, some 1⟩)]
theorem rows_G {p : Pt} (h : p.Sm) : RowsG p.ep (r1 p ++ r2 p ++ r3 p (bump p.ns) ++ r4 (bump p.ns) ++ r5 p.ns.dropLast) := by
  have hl := h.ln
  have hne := h.ne
  have nb1 : ∀ k ∈ p.ns, k ≤ 10 ^ 9 + 1 := fun k hk => Nat.le_succ_of_le (h.nb k hk)
  have mb := bump_mem h.nb
  have ml := bump_len hne
  have lN : p.ns.length ≤ 20 := by omega
  have lM : (bump p.ns).length ≤ 20 := by omega
  have mne : bump p.ns ≠ [] := by unfold bump; simp
  have G := h.G.t
  have gp : ∀ (fo : Option (Nat × Nat)) (po de : Option Nat), (∀ i n, fo = some (i, n) → i < 3 ∧ n < 10 ^ 24) → (∀ n, po = some n → n < 10 ^ 24) → (∀ n, de = some n → n < 10 ^ 24) → Tl.G ⟨fo, po, de⟩ := fun fo po de a b c => ⟨a, b, c⟩
  have o0 : ∀ n : Nat, (none : Option Nat) = some n → n < 10 ^ 24 := fun n e => nomatch e
  have f0 : ∀ i n : Nat, (none : Option (Nat × Nat)) = some (i, n) → i < 3 ∧ n < 10 ^ 24 := fun i n e => nomatch e
  have os : ∀ m : Nat, m < 10 ^ 24 → ∀ n : Nat, some m = some n → n < 10 ^ 24 := fun m hm n e => Option.some.inj e ▸ hm
  have gpl : Tl.G plain := gp _ _ _ f0 o0 o0
  have app : ∀ (a b : List Nat), (∀ k ∈ a, k ≤ 10 ^ 9 + 1) → (∀ k ∈ b, k ≤ 10 ^ 9 + 1) → ∀ k ∈ a ++ b, k ≤ 10 ^ 9 + 1 := fun a b ha hb k hk => (List.mem_append.mp hk).elim (ha k) (hb k)
  intro r hr
  simp only [List.mem_append] at hr
  rcases hr with (((hr | hr) | hr) | hr) | hr
  · simp only [r1, List.mem_cons, List.not_mem_nil, or_false] at hr
    rcases hr with rfl | rfl | rfl | rfl
    · exact rowG h hne lN nb1 G
    · exact rowG h hne lN nb1 (gp _ _ _ G.1 G.2.1 (os 0 (by decide)))
    · exact rowG h hne lN nb1 (gp _ _ _ G.1 (os 9 (by decide)) o0)
    · exact rowG h hne lN nb1 gpl
  · simp only [r2, List.mem_cons, List.not_mem_nil, or_false] at hr
    rcases hr with rfl | rfl | rfl
    · exact rowG h hne lN nb1 (gp _ _ _ (fun i n e => by cases e; exact ⟨by decide, by decide⟩) o0 o0)
    · exact rowG h hne lN nb1 (gp _ _ _ f0 (os 0 (by decide)) (os 0 (by decide)))
    · exact rowG h (by simp) (by rw [List.length_append]; simp only [List.length_cons, List.length_nil]; omega) (app _ _ nb1 (by decide)) gpl
  · simp only [r3, List.mem_cons, List.not_mem_nil, or_false] at hr
    rcases hr with rfl | rfl | rfl
    · exact rowG h (by simp) (by rw [List.length_append]; simp only [List.length_cons, List.length_nil]; omega) (app _ _ nb1 (by decide)) (gp _ _ _ (fun i n e => by cases e; exact ⟨by decide, by decide⟩) o0 o0)
    · exact rowG h mne lM mb (gp _ _ _ f0 o0 (os 0 (by decide)))
    · exact rowG h mne lM mb gpl
  · simp only [r4, List.mem_cons, List.not_mem_nil, or_false] at hr
    subst hr
    exact rowG h (by simp) (by rw [List.length_append]; simp only [List.length_cons, List.length_nil]; omega) (app _ _ mb (by decide)) (gp _ _ _ f0 (os 2 (by decide)) o0)
  · unfold r5 at hr
    have lb : ∀ k ∈ p.ns.dropLast, k ≤ 10 ^ 9 + 1 := fun k hk => nb1 k (List.dropLast_subset _ hk)
    have ll : p.ns.dropLast.length ≤ 8 := by rw [List.length_dropLast]; omega
    have lL : p.ns.dropLast.length ≤ 20 := by omega
    split at hr
    · cases hr
    · rename_i h0
      simp only [List.mem_cons, List.not_mem_nil, or_false] at hr
      rcases hr with rfl | rfl
      · exact rowG h (by simp) (by rw [List.length_append]; simp only [List.length_cons, List.length_nil]; omega) (app _ _ lb (by decide)) gpl
      · exact rowG h h0 lL lb (gp _ _ _ f0 o0 (os 1 (by decide)))
end V

set_option Elab.async false
set_option linter.all false
set_option maxRecDepth 100000
set_option maxHeartbeats 4000000
namespace V
open PySem PySem.Spec PyProof.Rows L2 DL
open PySem.W (alike alikeAll dataLt)
open TL (numL joinL tl)
def aR5 : TDS := (dSeq (dSetOwn 9 (dfCat (dGive 9) (dIf (dTest (dOp neR (dVar 8) (dLst dNil))) (dLst (dCons (dTup (dCons (dOp addR (dVar 8) (dLst (dCons (dC (.int 0)) (dCons (dC (.int 0)) (dCons (dC (.int 3)) dNil))))) (dCons (dLst dNil) (dCons (dLst dNil) (dCons (dLst dNil) dNil))))) (dCons (dTup (dCons (dVar 8) (dCons (dLst dNil) (dCons (dLst dNil) (dCons (dLst (dCons (dC (.int 1)) dNil)) dNil))))) dNil))) (dLst dNil)))) aE)
theorem aR5_ok {n : Nat} {Q : QN} {c : PyData} {t : Sl} {p : Pt} {more less : List Nat} {rows : List Row} (hr : RowsG p.ep (rows ++ r5 less)) (hl : rows.length ≤ 11) (hll : less.length ≤ 20) (q : ∀ ps : List Pt, (∀ p ∈ ps, p.G) → ps.length ≤ 13 → Q (.list (ps.map txD)) n) : aR5 (ends Q) (aS c t p more less (.own (rows.map rowD)) n) := by
  have fin : ∀ l : List PyData, l = (r5 less).map rowD → aE (ends Q) (aS c t p more less (.own (rows.map rowD ++ l)) n) := by
    rintro _ rfl
    rw [lf_rows]
    refine aE_ok hr ?_ q
    rw [List.length_append]
    unfold r5
    split
    · simp only [List.length_nil]; omega
    · simp only [List.length_cons, List.length_nil]; omega
  refine ⟨_, rfl, _, rfl, fit (by rfl), shaped_nl less, rfl, _, rfl, ?_⟩
  by_cases h0 : less = []
  · subst h0
    refine onF rfl ⟨fit (by rfl), _, _, rfl, rfl, by rw [List.length_map, sizeLine_eq]; simp only [List.length_nil]; omega, fin [] rfl⟩
  · have e0 : (!PyData.eqv (.list (natsD less)) (.list [])) = true := by
      cases less with
      | nil => exact absurd rfl h0
      | cons => rfl
    refine onT e0 ⟨_, rfl, fit (by rfl), by show (natsD less).length + 3 ≤ _; rw [natsD_len, sizeLine_eq]; omega, fit (by rfl), fit (by rfl), fit (by rfl), fit (by rfl), _, rfl, fit (by rfl), fit (by rfl), fit (by rfl), fit (by rfl), fit (by rfl), _, _, rfl, rfl, by rw [List.length_map, sizeLine_eq]; simp only [List.length_cons, List.length_nil]; omega, fin _ ?_⟩
    unfold r5
    rw [if_neg h0]
    show _ = [PyData.tuple [.list (natsD (less ++ [0, 0, 3])), .list [], .list [], .list []], PyData.tuple [.list (natsD less), .list [], .list [], .list [.int 1]]]
    rw [← natsD_app]
    rfl
end V

set_option Elab.async false
set_option linter.all false
set_option maxRecDepth 100000
set_option maxHeartbeats 4000000
namespace V
open PySem PySem.Spec PyProof.Rows L2 DL
open PySem.W (alike alikeAll dataLt)
open TL (numL joinL tl)
def aR4 : TDS := (dSeq (dDrop (dApp 9 (dTup (dCons (dOp addR (dVar 7) (dLst (dCons (dC (.int 0)) dNil))) (dCons (dLst dNil) (dCons (dLst (dCons (dC (.int 2)) dNil)) (dCons (dLst dNil) dNil))))))) aR5)
theorem aR4_ok {n : Nat} {Q : QN} {c : PyData} {t : Sl} {p : Pt} {more less : List Nat} {rows : List Row} (hr : RowsG p.ep (rows ++ r4 more ++ r5 less)) (hl : rows.length ≤ 10) (hll : less.length ≤ 20) (hm : more.length ≤ 20) (q : ∀ ps : List Pt, (∀ p ∈ ps, p.G) → ps.length ≤ 13 → Q (.list (ps.map txD)) n) : aR4 (ends Q) (aS c t p more less (.own (rows.map rowD)) n) := by
  have fin : ∀ x : PyData, x = rowD (more ++ [0], ⟨none, some 2, none⟩) → aR5 (ends Q) (aS c t p more less (.own (rows.map rowD ++ [x])) n) := by
    rintro _ rfl
    have e : rows.map rowD ++ [rowD (more ++ [0], ⟨none, some 2, none⟩)] = (rows ++ r4 more).map rowD := by rw [List.map_append]; rfl
    rw [e]
    refine aR5_ok hr ?_ hll q
    rw [List.length_append]
    show rows.length + 1 ≤ 11
    omega
  refine ⟨⟨_, rfl⟩, _, rfl, fit (by rfl), by show (natsD more).length + 1 ≤ _; rw [natsD_len, sizeLine_eq]; omega, fit (by rfl), fit (by rfl), fit (by rfl), fit (by rfl), _, rfl, by rw [List.length_map, sizeLine_eq]; omega, fin _ ?_⟩
  show PyData.tuple [.list (natsD more ++ natsD [0]), .list [], .list [.int 2], .list []] = PyData.tuple [.list (natsD (more ++ [0])), .list [], .list [.int 2], .list []]
  rw [natsD_app]
def aR3 : TDS := (dSeq (dSetOwn 9 (dfCat (dGive 9) (dLst (dCons (dTup (dCons (dOp addR (dVar 3) (dLst (dCons (dC (.int 5)) dNil))) (dCons (dLst (dCons (dC (.str "b")) (dCons (dC (.int 1)) dNil))) (dCons (dLst dNil) (dCons (dLst dNil) dNil))))) (dCons (dTup (dCons (dVar 7) (dCons (dLst dNil) (dCons (dLst dNil) (dCons (dLst (dCons (dC (.int 0)) dNil)) dNil))))) (dCons (dTup (dCons (dVar 7) (dCons (dLst dNil) (dCons (dLst dNil) (dCons (dLst dNil) dNil))))) dNil)))))) aR4)
theorem aR3_ok {n : Nat} {Q : QN} {c : PyData} {t : Sl} {p : Pt} {more less : List Nat} {rows : List Row} (hr : RowsG p.ep (rows ++ r3 p more ++ r4 more ++ r5 less)) (hl : rows.length ≤ 7) (hll : less.length ≤ 20) (hm : more.length ≤ 20) (hp : p.ns.length ≤ 20) (q : ∀ ps : List Pt, (∀ p ∈ ps, p.G) → ps.length ≤ 13 → Q (.list (ps.map txD)) n) : aR3 (ends Q) (aS c t p more less (.own (rows.map rowD)) n) := by
  have fin : ∀ l : List PyData, l = (r3 p more).map rowD → aR4 (ends Q) (aS c t p more less (.own (rows.map rowD ++ l)) n) := by
    rintro _ rfl
    rw [lf_rows]
    refine aR4_ok hr ?_ hll hm q
    rw [List.length_append]
    show rows.length + 3 ≤ 10
    omega
  refine ⟨_, rfl, _, rfl, fit (by rfl), by show (natsD p.ns).length + 1 ≤ _; rw [natsD_len, sizeLine_eq]; omega, fit (by rfl), fit (by rfl), fit (by rfl), fit (by rfl), _, rfl, fit (by rfl), fit (by rfl), fit (by rfl), fit (by rfl), _, rfl, fit (by rfl), fit (by rfl), fit (by rfl), fit (by rfl), fit (by rfl), _, _, rfl, rfl, by rw [List.length_map, sizeLine_eq]; simp only [List.length_cons, List.length_nil]; omega, fin _ ?_⟩
  show [PyData.tuple [.list (natsD p.ns ++ natsD [5]), .list [.str "b", .int 1], .list [], .list []], .tuple [.list (natsD more), .list [], .list [], .list [.int 0]], .tuple [.list (natsD more), .list [], .list [], .list []]] = [PyData.tuple [.list (natsD (p.ns ++ [5])), .list [.str "b", .int 1], .list [], .list []], .tuple [.list (natsD more), .list [], .list [], .list [.int 0]], .tuple [.list (natsD more), .list [], .list [], .list []]]
  rw [natsD_app]
end V

set_option Elab.async false
set_option linter.all false
set_option maxRecDepth 100000
set_option maxHeartbeats 4000000
namespace V
open PySem PySem.Spec PyProof.Rows L2 DL
open PySem.W (alike alikeAll dataLt)
open TL (numL joinL tl)
def aR2 : TDS := (dSeq (dSetOwn 9 (dfCat (dGive 9) (dLst (dCons (dTup (dCons (dVar 3) (dCons (dLst (dCons (dC (.str "rc")) (dCons (dC (.int 4)) dNil))) (dCons (dLst dNil) (dCons (dLst dNil) dNil))))) (dCons (dTup (dCons (dVar 3) (dCons (dLst dNil) (dCons (dLst (dCons (dC (.int 0)) dNil)) (dCons (dLst (dCons (dC (.int 0)) dNil)) dNil))))) (dCons (dTup (dCons (dOp addR (dVar 3) (dLst (dCons (dC (.int 0)) (dCons (dC (.int 1)) dNil)))) (dCons (dLst dNil) (dCons (dLst dNil) (dCons (dLst dNil) dNil))))) dNil)))))) aR3)
theorem aR2_ok {n : Nat} {Q : QN} {c : PyData} {t : Sl} {p : Pt} {more less : List Nat} {rows : List Row} (hr : RowsG p.ep (rows ++ r2 p ++ r3 p more ++ r4 more ++ r5 less)) (hl : rows.length ≤ 4) (hll : less.length ≤ 20) (hm : more.length ≤ 20) (hp : p.ns.length ≤ 20) (q : ∀ ps : List Pt, (∀ p ∈ ps, p.G) → ps.length ≤ 13 → Q (.list (ps.map txD)) n) : aR2 (ends Q) (aS c t p more less (.own (rows.map rowD)) n) := by
  have fin : ∀ l : List PyData, l = (r2 p).map rowD → aR3 (ends Q) (aS c t p more less (.own (rows.map rowD ++ l)) n) := by
    rintro _ rfl
    rw [lf_rows]
    refine aR3_ok hr ?_ hll hm hp q
    rw [List.length_append]
    show rows.length + 3 ≤ 7
    omega
  refine ⟨_, rfl, _, rfl, fit (by rfl), fit (by rfl), fit (by rfl), fit (by rfl), _, rfl, fit (by rfl), fit (by rfl), fit (by rfl), fit (by rfl), _, rfl, fit (by rfl), by show (natsD p.ns).length + 2 ≤ _; rw [natsD_len, sizeLine_eq]; omega, fit (by rfl), fit (by rfl), fit (by rfl), fit (by rfl), fit (by rfl), _, _, rfl, rfl, by rw [List.length_map, sizeLine_eq]; simp only [List.length_cons, List.length_nil]; omega, fin _ ?_⟩
  show [PyData.tuple [.list (natsD p.ns), .list [.str "rc", .int 4], .list [], .list []], .tuple [.list (natsD p.ns), .list [], .list [.int 0], .list [.int 0]], .tuple [.list (natsD p.ns ++ natsD [0, 1]), .list [], .list [], .list []]] = [PyData.tuple [.list (natsD p.ns), .list [.str "rc", .int 4], .list [], .list []], .tuple [.list (natsD p.ns), .list [], .list [.int 0], .list [.int 0]], .tuple [.list (natsD (p.ns ++ [0, 1])), .list [], .list [], .list []]]
  rw [natsD_app]
def aR1 : TDS := (dSeq (dSetOwn 9 (dfLst (dCons (dTup (dCons (dVar 3) (dCons (dVar 4) (dCons (dVar 5) (dCons (dVar 6) dNil))))) (dCons (dTup (dCons (dVar 3) (dCons (dVar 4) (dCons (dVar 5) (dCons (dLst (dCons (dC (.int 0)) dNil)) dNil))))) (dCons (dTup (dCons (dVar 3) (dCons (dVar 4) (dCons (dLst (dCons (dC (.int 9)) dNil)) (dCons (dLst dNil) dNil))))) (dCons (dTup (dCons (dVar 3) (dCons (dLst dNil) (dCons (dLst dNil) (dCons (dLst dNil) dNil))))) dNil)))))) aR2)
theorem aR1_ok {n : Nat} {Q : QN} {c : PyData} {t : Sl} {p : Pt} {more less : List Nat} (hr : RowsG p.ep (r1 p ++ r2 p ++ r3 p more ++ r4 more ++ r5 less)) (hll : less.length ≤ 20) (hm : more.length ≤ 20) (hp : p.ns.length ≤ 20) (q : ∀ ps : List Pt, (∀ p ∈ ps, p.G) → ps.length ≤ 13 → Q (.list (ps.map txD)) n) : aR1 (ends Q) (aS c t p more less .un n) := by
  refine ⟨_, rfl, _, rfl, _, rfl, _, rfl, fit (by rfl), _, rfl, _, rfl, _, rfl, fit (by rfl), fit (by rfl), _, rfl, _, rfl, fit (by rfl), fit (by rfl), fit (by rfl), _, rfl, fit (by rfl), fit (by rfl), fit (by rfl), fit (by rfl), fit (by rfl), ?_⟩
  exact aR2_ok (rows := r1 p) hr (Nat.le_refl 4) hll hm hp q
theorem wp_law_around (ds : List PyData) (n : Nat) (Q : QN) (h : D_law_around ds n Q) : td_law_around D_law_parts D_law_text (ends Q) (entry false N_law_around ds n) := by
  obtain ⟨c, rfl, h, q⟩ := h
  have h : c.G := h
  have hG := h.sm.G
  have hz := Cl.len hG
  have hl := h.sm.ln
  have q' : ∀ ps : List Pt, (∀ p ∈ ps, p.G) → ps.length ≤ 13 → Q (.list (ps.map txD)) n := fun ps h1 h2 => q _ _ ⟨rfl, ps, h1, h2, rfl⟩
  have e1 : DL.cutD (natsD c.p.ns) none (some (-((1 : Nat) : Int))) ++ [PyData.int ((c.p.ns.getLastD 0 : Nat) + 1)] = natsD (bump c.p.ns) := by
    rw [dropLast_d]
    exact natsD_app c.p.ns.dropLast [c.p.ns.getLastD 0 + 1]
  have rest : ∀ t : PyData, t = .str c.p.tx → (dSeq (dAsg (dCall D_law_parts (dCons (dVar 1) dNil)) (gdTup (gdCons (gdName 2) (gdCons (gdName 3) (gdCons (gdName 4) (gdCons (gdName 5) (gdCons (gdName 6) gdNil)))))))
  (dSeq (dPar 7 8 (dOp addR (dSl (dVar 3) dNoPart (dPart (dNeg (dC (.int 1))))) (dLst (dCons (dOp addR (dOp ixR (dVar 3) (dNeg (dC (.int 1)))) (dC (.int 1))) dNil))) (dSl (dVar 3) dNoPart (dPart (dNeg (dC (.int 1)))))) aR1)) (ends Q) ⟨[.d c.d, .d t, .un, .un, .un, .un, .un, .un, .un, .un, .un], n⟩ := by
    rintro _ rfl
    refine ⟨_, rfl, c.p, rfl, hG, _, rfl, _, _, rfl, _, _, rfl, _, _, rfl, _, _, rfl, _, _, rfl, rfl, ?_⟩
    refine ⟨_, rfl, _, rfl, _, rfl, _, rfl, _, rfl, _, getLast_at hG.ne, fit (by rfl), ?_, _, rfl, _, rfl, _, rfl, ?_⟩
    · show (DL.cutD (natsD c.p.ns) none (some (-((1 : Nat) : Int)))).length + 1 ≤ _
      rw [dropLast_d, natsD_len, List.length_dropLast, sizeLine_eq]
      omega
    · show aR1 (ends Q) ⟨[.d c.d, .d (.str c.p.tx), .d (.int (c.p.ep : Int)), .d (.list (natsD c.p.ns)), .d (lfD c.p.t.fo), .d (loD c.p.t.po), .d (loD c.p.t.de), .d (.list (DL.cutD (natsD c.p.ns) none (some (-((1 : Nat) : Int))) ++ [PyData.int ((c.p.ns.getLastD 0 : Nat) + 1)])), .d (.list (DL.cutD (natsD c.p.ns) none (some (-((1 : Nat) : Int))))), .un, .un], n⟩
      rw [e1, dropLast_d]
      have ml := bump_len hG.ne
      exact aR1_ok (rows_G h.sm) (by rw [List.length_dropLast]; omega) (by omega) (by omega) q'
  refine ⟨_, rfl, .str c.tx, at1, _, rfl, _, rfl, hz, c.end_sh, sh_star, c.st, congrArg PyData.bool c.end_eq, ?_⟩
  cases hst : c.st with
  | true => exact onT rfl ⟨_, rfl, .str c.tx, at1, _, rfl, _, rfl, hz, rest _ (congrArg PyData.str (Cl.cut hst))⟩
  | false => exact onF rfl ⟨_, rfl, .str c.tx, at1, rest _ (congrArg PyData.str (Cl.tx_f hst))⟩
end V

set_option Elab.async false
set_option linter.all false
set_option maxRecDepth 100000
set_option maxHeartbeats 4000000
namespace V.P
open V
/-! ### the order of lists -/
theorem ltL_nil (l : List Nat) : ltL l [] = false := by cases l <;> rfl
theorem ltL_irr : ∀ l : List Nat, ltL l l = false
  | [] => rfl
  | x :: xs => by show (if x = x then ltL xs xs else _) = false; rw [if_pos rfl]; exact ltL_irr xs
theorem ltL_cons {x y : Nat} {xs ys : List Nat} : ltL (x :: xs) (y :: ys) = true ↔ x < y ∨ x = y ∧ ltL xs ys = true := by
  show (if x = y then ltL xs ys else decide (x < y)) = true ↔ _
  split
  · rename_i h; subst h; simp
  · rename_i h; simp [h]
theorem ltL_trans : ∀ {a b c : List Nat}, ltL a b = true → ltL b c = true → ltL a c = true
  | _, [], _, h, _ => by rw [ltL_nil] at h; cases h
  | _, _ :: _, [], _, h => by rw [ltL_nil] at h; cases h
  | [], _ :: _, _ :: _, _, _ => rfl
  | x :: xs, y :: ys, z :: zs, h1, h2 => by
    rw [ltL_cons] at h1 h2 ⊢
    rcases h1 with h1 | ⟨rfl, h1⟩ <;> rcases h2 with h2 | ⟨rfl, h2⟩
    · exact .inl (Nat.lt_trans h1 h2)
    · exact .inl h1
    · exact .inl h2
    · exact .inr ⟨rfl, ltL_trans h1 h2⟩
theorem ltL_tri : ∀ {a b : List Nat}, ltL a b = false → ltL b a = false → a = b
  | [], [], _, _ => rfl
  | [], _ :: _, h, _ => nomatch h
  | _ :: _, [], _, h => nomatch h
  | x :: xs, y :: ys, h1, h2 => by
    have n1 : ¬ (x < y ∨ x = y ∧ ltL xs ys = true) := by rw [← ltL_cons, h1]; exact Bool.false_ne_true
    have n2 : ¬ (y < x ∨ y = x ∧ ltL ys xs = true) := by rw [← ltL_cons, h2]; exact Bool.false_ne_true
    have e : x = y := by omega
    subst e
    have m1 : ltL xs ys = false := by cases h : ltL xs ys with
      | false => rfl
      | true => exact absurd (.inr ⟨rfl, h⟩) n1
    have m2 : ltL ys xs = false := by cases h : ltL ys xs with
      | false => rfl
      | true => exact absurd (.inr ⟨rfl, h⟩) n2
    rw [ltL_tri m1 m2]
/-! ### the order of cuts -/
theorem cut_lt {c d : Cut} : c.lt d = true ↔ c.ep < d.ep ∨ c.ep = d.ep ∧ (ltL c.b d.b = true ∨ c.b = d.b ∧ ltL c.l d.l = true) := by
  unfold Cut.lt
  by_cases h : c.ep = d.ep
  · rw [if_pos h]
    by_cases hb : c.b = d.b
    · rw [if_pos hb, hb, ltL_irr]; simp [h]
    · rw [if_neg hb]; simp [h, hb]
  · rw [if_neg h]; simp [h]
/-- the base of c is less than d's -/
def bl (c d : Cut) : Prop := c.ep < d.ep ∨ c.ep = d.ep ∧ ltL c.b d.b = true
/-- the same base -/
def be (c d : Cut) : Prop := c.ep = d.ep ∧ c.b = d.b
theorem lt_iff {c d : Cut} : c.lt d = true ↔ bl c d ∨ be c d ∧ ltL c.l d.l = true := by
  rw [cut_lt]
  unfold bl be
  constructor
  · rintro (h | ⟨h, h2 | ⟨h2, h3⟩⟩)
    · exact .inl (.inl h)
    · exact .inl (.inr ⟨h, h2⟩)
    · exact .inr ⟨⟨h, h2⟩, h3⟩
  · rintro ((h | ⟨h, h2⟩) | ⟨⟨h, h2⟩, h3⟩)
    · exact .inl h
    · exact .inr ⟨h, .inl h2⟩
    · exact .inr ⟨h, .inr ⟨h2, h3⟩⟩
theorem bl_irr {c d : Cut} (h : be c d) : ¬ bl c d := by
  rintro (h2 | ⟨_, h2⟩)
  · have := h.1; omega
  · rw [h.2, ltL_irr] at h2; cases h2
theorem bl_trans {a b c : Cut} (h1 : bl a b) (h2 : bl b c) : bl a c := by
  rcases h1 with h1 | ⟨e1, h1⟩ <;> rcases h2 with h2 | ⟨e2, h2⟩
  · exact .inl (Nat.lt_trans h1 h2)
  · exact .inl (e2 ▸ h1)
  · exact .inl (e1 ▸ h2)
  · exact .inr ⟨e1.trans e2, ltL_trans h1 h2⟩
theorem be.symm {a b : Cut} (h : be a b) : be b a := ⟨h.1.symm, h.2.symm⟩
theorem be.trans {a b c : Cut} (h : be a b) (h' : be b c) : be a c := ⟨h.1.trans h'.1, h.2.trans h'.2⟩
theorem bl.be {a b c : Cut} (h1 : bl a b) (h2 : be b c) : bl a c := by
  unfold bl at *; rw [← h2.1, ← h2.2]; exact h1
theorem be.bl {a b c : Cut} (h1 : be a b) (h2 : bl b c) : bl a c := by
  unfold V.P.bl at *; rw [h1.1, h1.2]; exact h2
theorem b_tri (c d : Cut) : bl c d ∨ be c d ∨ bl d c := by
  by_cases h : c.ep = d.ep
  · cases h1 : ltL c.b d.b with
    | true => exact .inl (.inr ⟨h, h1⟩)
    | false => cases h2 : ltL d.b c.b with
      | true => exact .inr (.inr (.inr ⟨h.symm, h2⟩))
      | false => exact .inr (.inl ⟨h, ltL_tri h1 h2⟩)
  · rcases Nat.lt_or_gt_of_ne h with h | h
    · exact .inl (.inl h)
    · exact .inr (.inr (.inl h))
theorem lt_irr (c : Cut) : c.lt c = false := by
  cases h : c.lt c with
  | false => rfl
  | true =>
    rcases lt_iff.mp h with h | ⟨_, h⟩
    · exact absurd h (bl_irr ⟨rfl, rfl⟩)
    · rw [ltL_irr] at h; cases h
theorem lt_trans {a b c : Cut} (h1 : a.lt b = true) (h2 : b.lt c = true) : a.lt c = true := by
  rw [lt_iff] at h1 h2 ⊢
  rcases h1 with h1 | ⟨e1, h1⟩ <;> rcases h2 with h2 | ⟨e2, h2⟩
  · exact .inl (bl_trans h1 h2)
  · exact .inl (h1.be e2)
  · exact .inl (e1.bl h2)
  · exact .inr ⟨e1.trans e2, ltL_trans h1 h2⟩
theorem lt_asymm {a b : Cut} (h1 : a.lt b = true) : b.lt a = false := by
  cases h : b.lt a with
  | false => rfl
  | true => have := lt_trans h1 h; rw [lt_irr] at this; cases this
/-- at or below -/
abbrev le (a b : Cut) : Prop := b.lt a = false
theorem le_refl (a : Cut) : le a a := lt_irr a
theorem le_of_lt {a b : Cut} (h : a.lt b = true) : le a b := lt_asymm h
theorem lt_of_not {a b : Cut} (h : ¬ a.lt b = true) : le b a := by cases h' : a.lt b with
  | false => exact h'
  | true => exact absurd h' h
theorem le_bl {a b : Cut} (h : le a b) : ¬ bl b a := fun z => by have : b.lt a = true := lt_iff.mpr (.inl z); rw [h] at this; cases this
theorem le_iff {a b : Cut} : le a b ↔ bl a b ∨ be a b ∧ ltL b.l a.l = false := by
  constructor
  · intro h
    rcases b_tri a b with h1 | h1 | h1
    · exact .inl h1
    · refine .inr ⟨h1, ?_⟩
      cases h2 : ltL b.l a.l with
      | false => rfl
      | true => have : b.lt a = true := lt_iff.mpr (.inr ⟨h1.symm, h2⟩); rw [h] at this; cases this
    · exact absurd h1 (le_bl h)
  · rintro (h | ⟨h1, h2⟩)
    · exact le_of_lt (lt_iff.mpr (.inl h))
    · refine lt_of_not fun z => ?_
      rcases lt_iff.mp z with z | ⟨_, z⟩
      · exact bl_irr h1.symm z
      · rw [h2] at z; cases z
theorem ltL_le_trans {a b c : List Nat} (h1 : ltL b a = false) (h2 : ltL c b = false) : ltL c a = false := by
  cases h : ltL c a with
  | false => rfl
  | true =>
    cases h3 : ltL a b with
    | true => rw [ltL_trans h h3] at h2; cases h2
    | false => rw [ltL_tri h3 h1] at h; rw [h] at h2; cases h2
theorem le_trans {a b c : Cut} (h1 : le a b) (h2 : le b c) : le a c := by
  rw [le_iff] at *
  rcases h1 with h1 | ⟨e1, h1⟩ <;> rcases h2 with h2 | ⟨e2, h2⟩
  · exact .inl (bl_trans h1 h2)
  · exact .inl (h1.be e2)
  · exact .inl (e1.bl h2)
  · exact .inr ⟨e1.trans e2, ltL_le_trans h1 h2⟩
theorem lt_le {a b c : Cut} (h1 : a.lt b = true) (h2 : le b c) : a.lt c = true := by
  cases h : a.lt c with
  | true => rfl
  | false =>
    have z : le b a := le_trans h2 h
    have z' : a.lt b = false := z
    rw [h1] at z'; cases z'
theorem le_lt {a b c : Cut} (h1 : le a b) (h2 : b.lt c = true) : a.lt c = true := by
  cases h : a.lt c with
  | true => rfl
  | false =>
    have z : le c b := le_trans h h1
    have z' : b.lt c = false := z
    rw [h2] at z'; cases z'
/-! ### tails -/
theorem own_inj {a b : Option Nat} (h : ownL a = ownL b) : a = b := by
  cases a <;> cases b <;> simp [ownL] at h <;> simp [h]
theorem tl_inj {t t' : Tl} (h : t.l = t'.l) : t = t' := by
  obtain ⟨fo, po, de⟩ := t
  obtain ⟨fo', po', de'⟩ := t'
  rcases fo with _ | ⟨i, n⟩ <;> rcases po with _ | p <;> rcases fo' with _ | ⟨i', n'⟩ <;> rcases po' with _ | p' <;> rcases de with _ | d <;> rcases de' with _ | d' <;> simp [Tl.l, ownL] at h <;> simp [h]
theorem tl_four (t : Tl) : ltL t.l [4] = true := by
  obtain ⟨fo, po, de⟩ := t
  rcases fo with _ | ⟨i, n⟩ <;> rcases po with _ | p <;> rcases de with _ | d <;> simp [Tl.l, ltL]
theorem four_tl (t : Tl) : ltL [4] t.l = false := by
  cases h : ltL [4] t.l with
  | false => rfl
  | true => have := ltL_trans h (tl_four t); rw [ltL_irr] at this; cases this
theorem first_le (t : Tl) : ltL t.l firstT.l = false := by
  obtain ⟨fo, po, de⟩ := t
  rcases fo with _ | ⟨i, n⟩ <;> rcases po with _ | p <;> rcases de with _ | d <;> simp [Tl.l, ltL, firstT, ownL, ltL_nil]
theorem key_eq {k k' : Ky} (h1 : k.cut.lt k'.cut = false) (h2 : k'.cut.lt k.cut = false) : k = k' := by
  rcases le_iff.mp h2 with h | ⟨he, h3⟩
  · rw [lt_iff.mpr (.inl h)] at h1; cases h1
  · have h4 : ltL k.cut.l k'.cut.l = false := by
      cases h : ltL k.cut.l k'.cut.l with
      | false => rfl
      | true => rw [lt_iff.mpr (.inr ⟨he, h⟩)] at h1; cases h1
    have ht : k.t = k'.t := tl_inj (ltL_tri h4 h3)
    obtain ⟨e, b, t⟩ := k
    obtain ⟨e', b', t'⟩ := k'
    obtain ⟨h5, h6⟩ := he
    have h5 : e = e' := h5
    have h6 : b = b' := h6
    have ht : t = t' := ht
    subst h5 h6 ht
    rfl
/-! ### the key that follows -/
theorem ltL_nc (y : Nat) (ys : List Nat) : ltL [] (y :: ys) = true := rfl
theorem fol_tl (t : Tl) : ltL t.l t.fol.l = true := by
  obtain ⟨fo, po, de⟩ := t
  rcases fo with _ | ⟨i, n⟩ <;> rcases po with _ | p <;> rcases de with _ | d <;> simp [Tl.l, ltL, ownL, Tl.fol]
theorem fol_next (t t' : Tl) (h : ltL t.l t'.l = true) : ltL t'.l t.fol.l = false := by
  suffices h2 : ¬ ltL t'.l t.fol.l = true by simpa using h2
  revert h
  obtain ⟨fo, po, de⟩ := t
  obtain ⟨fo', po', de'⟩ := t'
  rcases fo with _ | ⟨i, n⟩ <;> rcases po with _ | p <;> rcases de with _ | d <;>
  rcases fo' with _ | ⟨i', n'⟩ <;> rcases po' with _ | p' <;> rcases de' with _ | d' <;>
  simp only [Tl.l, ownL, Tl.fol, ltL_cons, ltL_nil, ltL_nc, true_and, and_true, and_false, or_false, false_or, Bool.false_eq_true] <;> omega
theorem fol_lt (k : Ky) : k.cut.lt k.fol.cut = true := lt_iff.mpr (.inr ⟨⟨rfl, rfl⟩, fol_tl k.t⟩)
theorem fol_le {k : Ky} {c : Cut} (h : k.cut.lt c = true) : le k.fol.cut c := by
  rcases lt_iff.mp h with h | ⟨e, h⟩
  · exact le_of_lt (lt_iff.mpr (.inl h))
  · refine le_iff.mpr (.inr ⟨e, ?_⟩)
    obtain ⟨ep, b, t⟩ := c
    cases t with
    | none => exact four_tl _
    | some t => exact fol_next k.t t h
theorem fol_fin (k : Ky) : k.fol.fin = false := by
  unfold Ky.fol Ky.fin Tl.fin Tl.fol
  cases k.t.de <;> simp
/-! ### the least key of a class from a key on -/
theorem fin_iff {t : Tl} : t.fin = true ↔ t.fo = none ∧ t.de = none := by
  unfold Tl.fin
  rw [Bool.and_eq_true, Option.isNone_iff_eq_none, Option.isNone_iff_eq_none]
theorem nf_base (k : Ky) : k.nf.ep = k.ep ∧ k.nf.b = k.b := by
  unfold Ky.nf
  split
  · exact ⟨rfl, rfl⟩
  · split <;> exact ⟨rfl, rfl⟩
theorem nf_fin2 (k : Ky) : k.nf.fin = true := by
  unfold Ky.nf
  split
  · assumption
  · split <;> rfl
theorem nf_le (k : Ky) : le k.cut k.nf.cut := by
  unfold Ky.nf
  split
  · exact le_refl _
  · rename_i hf
    have hf : ¬ k.t.fin = true := hf
    rw [fin_iff] at hf
    refine le_iff.mpr (.inr ?_)
    obtain ⟨e, b, fo, po, de⟩ := k
    rcases fo with _ | ⟨i, n⟩ <;> rcases po with _ | p <;> rcases de with _ | d <;> simp at hf <;> refine ⟨⟨rfl, rfl⟩, ?_⟩ <;> simp [Ky.cut, Cut.l, Tl.l, ownL, ltL, plain]
theorem nf_least {k f : Ky} (hf : f.fin = true) (h : le k.cut f.cut) : le k.nf.cut f.cut := by
  have hf : f.t.fin = true := hf
  rw [fin_iff] at hf
  rcases le_iff.mp h with h | ⟨e, h⟩
  · refine le_of_lt (lt_iff.mpr (.inl ?_))
    have : be k.nf.cut k.cut := nf_base k
    exact this.bl h
  · refine le_iff.mpr (.inr ⟨(show be k.nf.cut k.cut from nf_base k).trans e, ?_⟩)
    suffices h2 : ¬ ltL f.cut.l k.nf.cut.l = true by simpa using h2
    have h : ¬ ltL f.cut.l k.cut.l = true := by rw [h]; exact Bool.false_ne_true
    obtain ⟨ep, b, fo, po, de⟩ := k
    obtain ⟨ep', b', fo', po', de'⟩ := f
    obtain ⟨h1, h2⟩ := hf
    subst h1 h2
    revert h
    rcases fo with _ | ⟨i, n⟩ <;> rcases po with _ | p <;> rcases de with _ | d <;> rcases po' with _ | p' <;>
    simp only [Ky.nf, Ky.fin, Tl.fin, Ky.cut, Cut.l, Tl.l, ownL, plain, ltL_cons, ltL_nil, ltL_nc, true_and, and_true, and_false, or_false, false_or, Bool.false_eq_true, Option.isNone, Bool.and_self, Bool.and_false, Bool.false_and, if_true, if_false] <;> omega
theorem nfo_base (k : Ky) : k.nfo.ep = k.ep ∧ k.nfo.b = k.b := by
  unfold Ky.nfo
  split <;> exact ⟨rfl, rfl⟩
theorem nfo_fin (k : Ky) : k.nfo.fin = false := by
  unfold Ky.nfo
  split
  · exact fol_fin k
  · rename_i h; simpa using h
theorem nfo_le (k : Ky) : le k.cut k.nfo.cut := by
  unfold Ky.nfo
  split
  · exact le_of_lt (fol_lt k)
  · exact le_refl _
theorem nfo_least {k f : Ky} (hf : f.fin = false) (h : le k.cut f.cut) : le k.nfo.cut f.cut := by
  unfold Ky.nfo
  split
  · rename_i hk
    refine fol_le ?_
    cases h2 : k.cut.lt f.cut with
    | true => rfl
    | false =>
      have : k = f := key_eq h2 h
      rw [this, hf] at hk; cases hk
  · exact h
/-! ### numbers without noughts at the end -/
theorem strip_cons (x : Nat) (xs : List Nat) : strip (x :: xs) = if strip xs = [] ∧ x = 0 then [] else x :: strip xs := by
  show (match strip xs with
    | [] => if x = 0 then [] else [x]
    | y :: ys => x :: y :: ys) = _
  cases strip xs with
  | nil => simp
  | cons y ys => simp
theorem strip_idem : ∀ l : List Nat, strip (strip l) = strip l
  | [] => rfl
  | x :: xs => by
    rw [strip_cons]
    split
    · rfl
    · rename_i h
      rw [strip_cons, strip_idem xs, if_neg h]
theorem strip_app (x : Nat) (hx : x ≠ 0) : ∀ l : List Nat, strip (l ++ [x]) = l ++ [x]
  | [] => by rw [List.nil_append, strip_cons, if_neg (fun h => hx h.2)]; rfl
  | y :: l => by rw [List.cons_append, strip_cons, strip_app x hx l, if_neg (fun h => by simp at h)]
def ltZ : List Nat → List Nat → Bool
  | _, [] => false
  | [], y :: ys => if y = 0 then ltZ [] ys else true
  | x :: xs, y :: ys => if x = y then ltZ xs ys else decide (x < y)
theorem ltZ_strip : ∀ x y : List Nat, ltL (strip x) (strip y) = ltZ x y
  | _, [] => by rw [show strip ([] : List Nat) = [] from rfl, ltL_nil]; cases ‹List Nat› <;> rfl
  | [], y :: ys => by
    have ih := ltZ_strip [] ys
    show ltL [] (strip (y :: ys)) = if y = 0 then ltZ [] ys else true
    rw [← ih, strip_cons]
    by_cases h : y = 0
    · rw [if_pos h]
      by_cases h2 : strip ys = []
      · rw [if_pos ⟨h2, h⟩, h2]; rfl
      · rw [if_neg (fun z => h2 z.1)]
        show true = ltL [] (strip ys)
        cases h3 : strip ys with
        | nil => exact absurd h3 h2
        | cons => rfl
    · rw [if_neg h, if_neg (fun z => h z.2)]; rfl
  | x :: xs, y :: ys => by
    have ih := ltZ_strip xs ys
    show _ = if x = y then ltZ xs ys else decide (x < y)
    rw [← ih, strip_cons, strip_cons]
    by_cases h1 : strip xs = [] ∧ x = 0 <;> by_cases h2 : strip ys = [] ∧ y = 0
    · rw [if_pos h1, if_pos h2, h1.1, h2.1, h1.2, h2.2]; rfl
    · rw [if_pos h1, if_neg h2, h1.1, h1.2]
      show true = _
      by_cases hy : 0 = y
      · rw [if_pos hy]
        cases h3 : strip ys with
        | nil => exact absurd ⟨h3, hy.symm⟩ h2
        | cons => rfl
      · rw [if_neg hy]; exact (decide_eq_true (Nat.pos_of_ne_zero (Ne.symm hy))).symm
    · rw [if_neg h1, if_pos h2, ltL_nil, h2.1, h2.2, ltL_nil]; simp
    · rw [if_neg h1, if_neg h2]; rfl
/-! ### blocks -/
def padTo : List Nat → Nat → List Nat
  | _, 0 => []
  | [], n + 1 => 0 :: padTo [] n
  | x :: xs, n + 1 => x :: padTo xs n
theorem padTo_eq : ∀ (v : List Nat) (m n : Nat), n ≤ m → (v ++ List.replicate m 0).take n = padTo v n
  | _, _, 0, _ => by rw [List.take_zero]; cases ‹List Nat› <;> rfl
  | [], m, n + 1, h => by
    obtain ⟨k, rfl⟩ : ∃ k, m = k + 1 := ⟨m - 1, by omega⟩
    have := padTo_eq [] k n (by omega)
    rw [List.nil_append] at this ⊢
    rw [List.replicate_succ, List.take_succ_cons, this]
    rfl
  | x :: xs, m, n + 1, h => by
    rw [List.cons_append, List.take_succ_cons, padTo_eq xs m n (by omega)]
    rfl
theorem bump_one (n : Nat) : bump [n] = [n + 1] := rfl
theorem bump_cons (n m : Nat) (r : List Nat) : bump (n :: m :: r) = n :: bump (m :: r) := by
  unfold bump
  rw [List.dropLast_cons_of_ne_nil (by simp), List.cons_append]
  congr 1
theorem blk_pad : ∀ (ns v : List Nat), ns ≠ [] → (ltZ v ns = false ∧ ltZ v (bump ns) = true ↔ padTo v ns.length = ns)
  | [], _, h => absurd rfl h
  | [n], [], _ => by
    rw [bump_one]
    show (if n = 0 then false else true) = false ∧ (if n + 1 = 0 then false else true) = true ↔ [0] = [n]
    by_cases h : n = 0 <;> simp [h, eq_comm]
  | [n], x :: xs, _ => by
    rw [bump_one]
    have z : ∀ l, ltZ l [] = false := fun l => by cases l <;> rfl
    show (if x = n then ltZ xs [] else decide (x < n)) = false ∧ (if x = n + 1 then ltZ xs [] else decide (x < n + 1)) = true ↔ x :: padTo xs 0 = [n]
    have e : padTo xs 0 = [] := by cases xs <;> rfl
    rw [e, z]
    simp only [List.cons.injEq, and_true]
    constructor
    · rintro ⟨h1, h2⟩
      split at h2
      · cases h2
      · have h3 := of_decide_eq_true h2
        split at h1
        · assumption
        · have h4 := of_decide_eq_false h1; omega
    · rintro rfl
      rw [if_pos rfl, if_neg (by omega)]
      exact ⟨rfl, decide_eq_true (by omega)⟩
  | n :: m :: r, [], _ => by
    rw [bump_cons]
    have ih := blk_pad (m :: r) [] (by simp)
    show (if n = 0 then ltZ [] (m :: r) else true) = false ∧ (if n = 0 then ltZ [] (bump (m :: r)) else true) = true ↔ 0 :: padTo [] (m :: r).length = n :: m :: r
    by_cases h : n = 0
    · rw [if_pos h, if_pos h, ih, h]; simp
    · rw [if_neg h, if_neg h]
      simp [Ne.symm h]
  | n :: m :: r, x :: xs, _ => by
    rw [bump_cons]
    have ih := blk_pad (m :: r) xs (by simp)
    show (if x = n then ltZ xs (m :: r) else decide (x < n)) = false ∧ (if x = n then ltZ xs (bump (m :: r)) else decide (x < n)) = true ↔ x :: padTo xs (m :: r).length = n :: m :: r
    by_cases h : x = n
    · rw [if_pos h, if_pos h, ih, h]; simp
    · rw [if_neg h, if_neg h]
      constructor
      · rintro ⟨h1, h2⟩; rw [h1] at h2; cases h2
      · intro h2; exact absurd (List.cons.inj h2).1 h
/-! ### keys in spans -/
def inS (k : Ky) (s : Span) : Prop := le s.1 k.cut ∧ ∀ h, s.2 = some h → k.cut.lt h = true
def inR (k : Ky) (ss : List Span) : Prop := ∃ s ∈ ss, inS k s
theorem inR_nil (k : Ky) : ¬ inR k [] := fun ⟨_, h, _⟩ => nomatch h
theorem inR_one {k : Ky} {s : Span} : inR k [s] ↔ inS k s :=
  ⟨fun ⟨_, h, hk⟩ => List.mem_singleton.mp h ▸ hk, fun h => ⟨s, List.mem_singleton.mpr rfl, h⟩⟩
theorem inR_app {k : Ky} {a b : List Span} : inR k (a ++ b) ↔ inR k a ∨ inR k b := by
  unfold inR
  constructor
  · rintro ⟨s, hs, hk⟩
    rcases List.mem_append.mp hs with h | h
    · exact .inl ⟨s, h, hk⟩
    · exact .inr ⟨s, h, hk⟩
  · rintro (⟨s, hs, hk⟩ | ⟨s, hs, hk⟩)
    · exact ⟨s, List.mem_append_left _ hs, hk⟩
    · exact ⟨s, List.mem_append_right _ hs, hk⟩
theorem inS_none {k : Ky} {c : Cut} : inS k (c, none) ↔ le c k.cut := ⟨fun h => h.1, fun h => ⟨h, fun _ e => nomatch e⟩⟩
theorem inS_some {k : Ky} {c d : Cut} : inS k (c, some d) ↔ le c k.cut ∧ k.cut.lt d = true := ⟨fun h => ⟨h.1, h.2 _ rfl⟩, fun h => ⟨h.1, fun _ e => Option.some.inj e ▸ h.2⟩⟩
theorem least_le (c : Cut) : le least c := by
  refine lt_of_not fun h => ?_
  rcases cut_lt.mp h with h | ⟨_, h | ⟨_, h⟩⟩
  · exact absurd h (Nat.not_lt_zero _)
  · rw [show least.b = [] from rfl, ltL_nil] at h; cases h
  · obtain ⟨e, b, t⟩ := c
    cases t with
    | none => cases h
    | some t => rw [show ltL (Cut.mk e b (some t)).l least.l = false from first_le t] at h; cases h
theorem inR_low {k : Ky} {c : Cut} : inR k (if least.lt c = true then [(least, some c)] else []) ↔ k.cut.lt c = true := by
  split
  · rw [inR_one, inS_some]; exact ⟨fun h => h.2, fun h => ⟨least_le _, h⟩⟩
  · rename_i h
    refine ⟨fun h => absurd h (inR_nil k), fun h2 => ?_⟩
    exact absurd (le_lt (least_le k.cut) h2) h
theorem inR_outs {k : Ky} {lo hi : Cut} : inR k (outs lo hi) ↔ k.cut.lt lo = true ∨ le hi k.cut := by
  unfold outs
  rw [inR_app, inR_low, inR_one, inS_none]
theorem lt_first {k : Ky} {e : Nat} {b : List Nat} : k.cut.lt ⟨e, b, some firstT⟩ = true ↔ k.ep < e ∨ k.ep = e ∧ ltL k.b b = true := by
  rw [lt_iff]
  constructor
  · rintro (h | ⟨_, h⟩)
    · exact h
    · rw [show ltL k.cut.l (Cut.mk e b (some firstT)).l = false from first_le k.t] at h; cases h
  · exact .inl
theorem none_le {k : Ky} {e : Nat} {b : List Nat} : le ⟨e, b, none⟩ k.cut ↔ e < k.ep ∨ e = k.ep ∧ ltL b k.b = true := by
  rw [le_iff]
  constructor
  · rintro (h | ⟨_, h⟩)
    · exact h
    · rw [show ltL k.cut.l (Cut.mk e b none).l = true from tl_four k.t] at h; cases h
  · exact .inl
theorem baseLt_iff {p q : Pt} : baseLt p q = true ↔ p.ep < q.ep ∨ p.ep = q.ep ∧ ltL (strip p.ns) (strip q.ns) = true := by
  unfold baseLt
  by_cases h : p.ep = q.ep
  · rw [if_pos h]; simp [h]
  · rw [if_neg h]; simp [h]
theorem inBlk_iff {v : Pt} {ns : List Nat} {e : Nat} (h : ns ≠ []) : inBlk v ns e = true ↔ inS v.key ((blk e ns).1, some (blk e ns).2) := by
  rw [inS_some]
  unfold inBlk blk
  rw [Bool.and_eq_true, decide_eq_true_eq, decide_eq_true_eq, padTo_eq _ _ _ (Nat.le_refl _), ← blk_pad _ _ h, ← ltZ_strip, ← ltZ_strip]
  show _ ↔ v.key.cut.lt ⟨e, strip ns, some firstT⟩ = false ∧ _
  rw [← Bool.not_eq_true, ← Bool.not_eq_true, lt_first, lt_first]
  show v.ep = e ∧ (¬ ltL (strip v.ns) (strip ns) = true) ∧ ltL (strip v.ns) (strip (bump ns)) = true ↔ ¬ (v.ep < e ∨ v.ep = e ∧ ltL (strip v.ns) (strip ns) = true) ∧ (v.ep < e ∨ v.ep = e ∧ ltL (strip v.ns) (strip (bump ns)) = true)
  constructor
  · rintro ⟨h1, h2, h3⟩
    exact ⟨fun z => z.elim (by omega) fun z => h2 z.2, .inr ⟨h1, h3⟩⟩
  · rintro ⟨h1, h2⟩
    rcases h2 with h2 | ⟨h2, h3⟩
    · exact absurd (.inl h2) h1
    · exact ⟨h2, fun z => h1 (.inr ⟨h2, z⟩), h3⟩
theorem outs_not {k : Ky} {lo hi : Cut} : inR k (outs lo hi) ↔ ¬ inS k (lo, some hi) := by
  rw [inR_outs, inS_some]
  constructor
  · rintro (h | h) ⟨h1, h2⟩
    · rw [show k.cut.lt lo = false from h1] at h; cases h
    · rw [show k.cut.lt hi = false from h] at h2; cases h2
  · intro h
    cases h1 : k.cut.lt lo with
    | true => exact .inl rfl
    | false =>
      refine .inr (lt_of_not fun h2 => h ⟨h1, h2⟩)
theorem key_span {k k' : Ky} : inS k (k'.cut, some k'.fol.cut) ↔ k = k' := by
  rw [inS_some]
  constructor
  · rintro ⟨h1, h2⟩
    refine key_eq h1 ?_
    cases h : k'.cut.lt k.cut with
    | false => rfl
    | true => rw [show k.cut.lt k'.fol.cut = false from fol_le h] at h2; cases h2
  · rintro rfl
    exact ⟨le_refl _, fol_lt k⟩
theorem drop_le {v p : Pt} (h : le p.key.cut v.key.cut) (h2 : p.ns ≠ []) : le (blk p.ep p.ns.dropLast).1 v.key.cut := by
  refine le_trans ?_ h
  refine lt_of_not fun z => ?_
  have z' : p.key.cut.lt ⟨p.ep, strip p.ns.dropLast, some firstT⟩ = true := z
  rw [lt_first] at z'
  rcases z' with z' | ⟨_, z'⟩
  · exact absurd z' (Nat.lt_irrefl _)
  · have z' : ltL (strip p.ns) (strip p.ns.dropLast) = true := z'
    rw [ltZ_strip] at z'
    have : ∀ l : List Nat, ltZ l l.dropLast = false := by
      intro l
      induction l with
      | nil => rfl
      | cons x l ih =>
        cases l with
        | nil => rfl
        | cons y l =>
          rw [List.dropLast_cons_of_ne_nil (by simp)]
          show (if x = x then ltZ (y :: l) (y :: l).dropLast else _) = false
          rw [if_pos rfl]; exact ih
    rw [this] at z'; cases z'
theorem sg7 {n : Nat} (h : n < 7) : n = 0 ∨ n = 1 ∨ n = 2 ∨ n = 3 ∨ n = 4 ∨ n = 5 ∨ n = 6 := by omega
theorem cl_lets {c : Cl} (hc : c.G) (v : Pt) : clLets c v = true ↔ inR v.key c.spans := by
  have hne := hc.sm.ne
  have hs := sg7 hc.sg
  have hst := hc.star
  have htl := hc.tl
  obtain ⟨sg, st, p⟩ := c
  cases st with
  | true =>
    obtain ⟨h2, _⟩ := hst rfl
    have e : clLets ⟨sg, true, p⟩ v = (inBlk v p.ns p.ep == decide (sg = 0)) := if_pos rfl
    have e2 : Cl.spans ⟨sg, true, p⟩ = if sg = 0 then [((blk p.ep p.ns).1, some (blk p.ep p.ns).2)] else outs (blk p.ep p.ns).1 (blk p.ep p.ns).2 := if_pos rfl
    rw [e, e2]
    have h2 : sg < 2 := h2
    by_cases h0 : sg = 0
    · rw [if_pos h0, inR_one, decide_eq_true h0, ← inBlk_iff (v := v) hne]; simp
    · rw [if_neg h0, decide_eq_false h0, outs_not, ← inBlk_iff (v := v) hne]; simp
  | false =>
    rcases hs with h | h | h | h | h | h | h <;> (have h : sg = _ := h) <;> subst h
    · show decide (v.key = p.key) = true ↔ inR v.key [(p.key.cut, some p.key.fol.cut)]
      rw [inR_one, key_span, decide_eq_true_eq]
    · show (!decide (v.key = p.key)) = true ↔ inR v.key (outs p.key.cut p.key.fol.cut)
      rw [outs_not, key_span]; simp
    · show (!p.key.cut.lt v.key.cut) = true ↔ inR v.key [(least, some p.key.fol.cut)]
      rw [inR_one, inS_some]
      constructor
      · intro h
        have h' : le v.key.cut p.key.cut := by simpa using h
        exact ⟨least_le _, le_lt h' (fol_lt _)⟩
      · rintro ⟨_, h⟩
        cases h2 : p.key.cut.lt v.key.cut with
        | false => rfl
        | true => rw [show v.key.cut.lt p.key.fol.cut = false from fol_le h2] at h; cases h
    · show (!v.key.cut.lt p.key.cut) = true ↔ inR v.key [(p.key.cut, none)]
      rw [inR_one, inS_none]; simp
    · show baseLt v p = true ↔ inR v.key (if least.lt ⟨p.ep, strip p.ns, some firstT⟩ then [(least, some ⟨p.ep, strip p.ns, some firstT⟩)] else [])
      rw [inR_low, lt_first, baseLt_iff]; rfl
    · show baseLt p v = true ↔ inR v.key [(⟨p.ep, strip p.ns, none⟩, none)]
      rw [inR_one, inS_none, none_le, baseLt_iff]; rfl
    · show ((!v.key.cut.lt p.key.cut) && inBlk v p.ns.dropLast p.ep) = true ↔ inR v.key [(p.key.cut, some (blk p.ep p.ns.dropLast).2)]
      have hd : p.ns.dropLast ≠ [] := fun z => by
        have h1 : 1 < p.ns.length := (htl rfl).2
        have := congrArg List.length z
        rw [List.length_dropLast] at this
        simp at this; omega
      rw [inR_one, inS_some, Bool.and_eq_true, inBlk_iff hd, inS_some]
      constructor
      · rintro ⟨h1, _, h2⟩
        exact ⟨by simpa using h1, h2⟩
      · rintro ⟨h1, h2⟩
        exact ⟨by simpa using h1, drop_le h1 hne, h2⟩
/-! ### requirements -/
theorem lt_lesser {k : Ky} {a b : Option Cut} : (∀ h, lesser a b = some h → k.cut.lt h = true) ↔ (∀ h, a = some h → k.cut.lt h = true) ∧ ∀ h, b = some h → k.cut.lt h = true := by
  rcases a with _ | c <;> rcases b with _ | d
  · exact ⟨fun h => ⟨fun _ e => (nomatch e), fun _ e => (nomatch e)⟩, fun _ _ e => (nomatch e)⟩
  · exact ⟨fun h => ⟨fun _ e => (nomatch e), h⟩, fun h => h.2⟩
  · exact ⟨fun h => ⟨h, fun _ e => (nomatch e)⟩, fun h => h.1⟩
  · show (∀ h, some (if d.lt c then d else c) = some h → _) ↔ _
    simp only [Option.some.injEq, forall_eq']
    split
    · rename_i h
      exact ⟨fun z => ⟨lt_trans z h, z⟩, fun z => z.2⟩
    · rename_i h
      exact ⟨fun z => ⟨z, lt_le z (lt_of_not h)⟩, fun z => z.1⟩
theorem cmax_le {a b c : Cut} : le (cmax a b) c ↔ le a c ∧ le b c := by
  unfold cmax
  split
  · rename_i h
    exact ⟨fun z => ⟨le_trans (le_of_lt h) z, z⟩, fun z => z.2⟩
  · rename_i h
    exact ⟨fun z => ⟨z, le_trans (lt_of_not h) z⟩, fun z => z.1⟩
theorem in_meet1 {k : Ky} {s s' : Span} : inR k (meet1 s s') ↔ inS k s ∧ inS k s' := by
  have key : inS k (cmax s.1 s'.1, lesser s.2 s'.2) ↔ inS k s ∧ inS k s' := by
    unfold inS
    show le (cmax s.1 s'.1) k.cut ∧ (∀ h, lesser s.2 s'.2 = some h → k.cut.lt h = true) ↔ _
    rw [lt_lesser, cmax_le]
    exact ⟨fun ⟨⟨a, b⟩, c, d⟩ => ⟨⟨a, c⟩, b, d⟩, fun ⟨⟨a, c⟩, b, d⟩ => ⟨⟨a, b⟩, c, d⟩⟩
  unfold meet1
  split
  · rename_i e
    rw [inR_one, ← key, e]
  · rename_i h e
    split
    · rw [inR_one, ← key, e]
    · rename_i hn
      rw [← key, e, inS_some]
      exact ⟨fun z => absurd z (inR_nil k), fun z => absurd (le_lt z.1 z.2) hn⟩
theorem in_meet {k : Ky} {a b : List Span} : inR k (meet a b) ↔ inR k a ∧ inR k b := by
  unfold meet
  constructor
  · rintro ⟨z, hz, hk⟩
    obtain ⟨s, hs, hz⟩ := List.mem_flatMap.mp hz
    obtain ⟨s', hs', hz⟩ := List.mem_flatMap.mp hz
    obtain ⟨h1, h2⟩ := in_meet1.mp ⟨z, hz, hk⟩
    exact ⟨⟨s, hs, h1⟩, ⟨s', hs', h2⟩⟩
  · rintro ⟨⟨s, hs, h1⟩, ⟨s', hs', h2⟩⟩
    obtain ⟨z, hz, hk⟩ := in_meet1.mpr ⟨h1, h2⟩
    exact ⟨z, List.mem_flatMap.mpr ⟨s, hs, List.mem_flatMap.mpr ⟨s', hs', hz⟩⟩, hk⟩
theorem in_fold {k : Ky} : ∀ (cs : List Cl) (a : List Span), inR k (cs.foldl (fun a c => meet a c.spans) a) ↔ inR k a ∧ ∀ c ∈ cs, inR k c.spans
  | [], a => ⟨fun h => ⟨h, fun _ h => nomatch h⟩, fun h => h.1⟩
  | c :: cs, a => by
    show inR k (cs.foldl (fun a c => meet a c.spans) (meet a c.spans)) ↔ _
    rw [in_fold cs (meet a c.spans), in_meet]
    constructor
    · rintro ⟨⟨h1, h2⟩, h3⟩
      exact ⟨h1, fun z hz => (List.mem_cons.mp hz).elim (fun e => e ▸ h2) (h3 z)⟩
    · rintro ⟨h1, h2⟩
      exact ⟨⟨h1, h2 c List.mem_cons_self⟩, fun z hz => h2 z (List.mem_cons_of_mem _ hz)⟩
theorem lets_iff {cs : List Cl} (h : ∀ c ∈ cs, c.G) (v : Pt) : lets cs v = true ↔ inR v.key (spansOf cs) := by
  unfold lets spansOf
  rw [in_fold, List.all_eq_true, inR_one, inS_none]
  exact ⟨fun z => ⟨least_le _, fun c hc => (cl_lets (h c hc) v).mp (z c hc)⟩, fun z c hc => (cl_lets (h c hc) v).mpr (z.2 c hc)⟩
/-! ### spans as they stand -/
structure SpW (s : Span) : Prop where
  lo : strip s.1.b = s.1.b
  hi : ∀ h, s.2 = some h → strip h.b = h.b ∧ ∃ t, h.t = some t
def SpN (s : Span) : Prop := ∀ h, s.2 = some h → s.1.lt h = true
theorem strip_tail {y : Nat} {ys : List Nat} (h : strip (y :: ys) = y :: ys) : strip ys = ys ∧ (ys = [] → y ≠ 0) := by
  rw [strip_cons] at h
  split at h
  · cases h
  · rename_i hn
    have e := (List.cons.inj h).2
    exact ⟨e, fun z z2 => hn ⟨by rw [e, z], z2⟩⟩
theorem near_nil : ∀ l : List Nat, l ≠ [] → strip l = l → ltL (List.replicate l.length 0 ++ [1]) l = true
  | [], h, _ => absurd rfl h
  | y :: ys, _, h => by
    obtain ⟨h1, h2⟩ := strip_tail h
    rw [List.length_cons, List.replicate_succ, List.cons_append, ltL_cons]
    by_cases hy : y = 0
    · refine .inr ⟨hy.symm, near_nil ys (fun z => h2 z hy) h1⟩
    · exact .inl (Nat.pos_of_ne_zero hy)
theorem near_list : ∀ b h : List Nat, ltL b h = true → strip h = h → ltL (b ++ List.replicate (h.length - b.length) 0 ++ [1]) h = true
  | _, [], h, _ => by rw [ltL_nil] at h; cases h
  | [], y :: ys, _, hs => by
    rw [List.nil_append]
    exact near_nil (y :: ys) (by simp) hs
  | x :: xs, y :: ys, h, hs => by
    rw [ltL_cons] at h
    rw [List.cons_append, List.cons_append, ltL_cons, List.length_cons, List.length_cons, Nat.succ_sub_succ]
    rcases h with h | ⟨h1, h2⟩
    · exact .inl h
    · exact .inr ⟨h1, near_list xs ys h2 (strip_tail hs).1⟩
theorem ltL_app : ∀ (b : List Nat) (x : Nat) (r : List Nat), ltL b (b ++ x :: r) = true
  | [], _, _ => rfl
  | y :: b, x, r => by rw [List.cons_append, ltL_cons]; exact .inr ⟨rfl, ltL_app b x r⟩
theorem near_gt (c : Cut) (h : Option Cut) : bl c (nearer c h).cut := by
  refine .inr ⟨rfl, ?_⟩
  show ltL c.b (c.b ++ List.replicate _ 0 ++ [1]) = true
  rw [List.append_assoc]
  generalize List.replicate _ 0 = r
  cases r with
  | nil => exact ltL_app c.b 1 []
  | cons x r => exact ltL_app c.b x (r ++ [1])
theorem near_strip (c : Cut) (h : Option Cut) : strip (nearer c h).b = (nearer c h).b := strip_app 1 (by decide) _
theorem near_fin (c : Cut) (h : Option Cut) : (nearer c h).fin = true := rfl
theorem after_lt {c h : Cut} {t : Tl} (hc : c.t = none) (hh : h.t = some t) (hl : c.lt h = true) : bl c h := by
  rcases lt_iff.mp hl with z | ⟨_, z⟩
  · exact z
  · have e1 : c.l = [4] := by unfold Cut.l; rw [hc]
    have e2 : h.l = t.l := by unfold Cut.l; rw [hh]
    rw [e1, e2, four_tl] at z; cases z
theorem near_lt {c h : Cut} (hl : bl c h) (hs : strip h.b = h.b) : bl (nearer c (some h)).cut h := by
  rcases hl with z | ⟨e, z⟩
  · exact .inl z
  · exact .inr ⟨e, near_list c.b h.b z hs⟩
theorem bl_lt {c d : Cut} (h : bl c d) : c.lt d = true := lt_iff.mpr (.inl h)
theorem fol_be (k : Ky) : be k.cut k.fol.cut := ⟨rfl, rfl⟩
/-! ### the first key of a class in a span -/
theorem below_iff {k : Ky} {h : Option Cut} : below k h = true ↔ ∀ c, h = some c → k.cut.lt c = true := by
  cases h with
  | none => exact ⟨fun _ _ e => (nomatch e), fun _ => rfl⟩
  | some c => exact ⟨fun h _ e => Option.some.inj e ▸ h, fun h => h c rfl⟩
def pickN (f : Bool) (k : Ky) : Ky := if f = true then k.nf else k.nfo
theorem pickN_fin (f : Bool) (k : Ky) : (pickN f k).fin = f := by
  cases f
  · exact nfo_fin k
  · exact nf_fin2 k
theorem pickN_b (f : Bool) (k : Ky) : (pickN f k).b = k.b := by
  cases f
  · exact (nfo_base k).2
  · exact (nf_base k).2
theorem pickN_le (f : Bool) (k : Ky) : le k.cut (pickN f k).cut := by
  cases f
  · exact nfo_le k
  · exact nf_le k
theorem pickN_least {f : Bool} {k x : Ky} (hf : x.fin = f) (h : le k.cut x.cut) : le (pickN f k).cut x.cut := by
  cases f
  · exact nfo_least hf h
  · exact nf_least hf h
theorem firstIn_after {c : Cut} {h : Option Cut} {f : Bool} (hc : c.t = none) : firstIn (c, h) f = some (if f = true then nearer c h else (nearer c h).fol) := by
  unfold firstIn
  obtain ⟨e, b, t⟩ := c
  have hc : t = none := hc
  subst hc
  rfl
theorem firstIn_key {e : Nat} {b : List Nat} {t : Tl} {h : Option Cut} {f : Bool} : firstIn ((Ky.mk e b t).cut, h) f = if below (pickN f ⟨e, b, t⟩) h = true then some (pickN f ⟨e, b, t⟩) else none := rfl
theorem firstIn_ok {s : Span} {f : Bool} {k : Ky} (hs : SpW s) (hn : SpN s) (e : firstIn s f = some k) : k.fin = f ∧ inS k s ∧ strip k.b = k.b := by
  obtain ⟨c, h⟩ := s
  cases hc : c.t with
  | none =>
    rw [firstIn_after hc] at e
    have hb : ∀ x : Ky, be (nearer c h).cut x.cut → inS x (c, h) := fun x hx => by
      refine ⟨le_of_lt (bl_lt ((near_gt c h).be hx)), fun d hd => ?_⟩
      have hd : h = some d := hd
      subst hd
      obtain ⟨h1, t, h2⟩ := hs.hi d rfl
      exact bl_lt (hx.symm.bl (near_lt (after_lt hc h2 (hn d rfl)) h1))
    have e' := Option.some.inj e
    subst e'
    cases f with
    | true => exact ⟨rfl, hb _ ⟨rfl, rfl⟩, near_strip c h⟩
    | false => exact ⟨fol_fin _, hb _ (fol_be _), near_strip c h⟩
  | some t =>
    obtain ⟨ep, b, t'⟩ := c
    have hc : t' = some t := hc
    subst hc
    have e : firstIn ((Ky.mk ep b t).cut, h) f = some k := e
    rw [firstIn_key] at e
    split at e
    · rename_i hb
      have e' := Option.some.inj e
      subst e'
      refine ⟨pickN_fin _ _, ⟨pickN_le f ⟨ep, b, t⟩, below_iff.mp hb⟩, ?_⟩
      rw [pickN_b]
      exact hs.lo
    · cases e
theorem firstIn_all {s : Span} {f : Bool} {x : Ky} (hf : x.fin = f) (hx : inS x s) : ∃ k, firstIn s f = some k ∧ (s.1.t ≠ none → le k.cut x.cut) := by
  obtain ⟨c, h⟩ := s
  cases hc : c.t with
  | none => exact ⟨_, firstIn_after hc, fun z => absurd rfl z⟩
  | some t =>
    obtain ⟨ep, b, t'⟩ := c
    have hc : t' = some t := hc
    subst hc
    have hl : le (pickN f ⟨ep, b, t⟩).cut x.cut := pickN_least hf hx.1
    refine ⟨pickN f ⟨ep, b, t⟩, ?_, fun _ => hl⟩
    show firstIn ((Ky.mk ep b t).cut, h) f = _
    rw [firstIn_key, if_pos (below_iff.mpr fun d hd => le_lt hl (hx.2 d hd))]
/-! ### above -/
theorem closed_iff {h : Option Cut} {c : Cut} : closed h c = false ↔ ∀ d, h = some d → c.lt d = true := by
  cases h with
  | none => exact ⟨fun _ _ e => (nomatch e), fun _ => rfl⟩
  | some d =>
    show (!c.lt d) = false ↔ _
    exact ⟨fun z _ e => Option.some.inj e ▸ (by simpa using z), fun z => by rw [z d rfl]; rfl⟩
theorem above_start (s : Span) (k : Ky) : k.cut.lt (if k.cut.lt s.1 = true then s.1 else k.fol.cut) = true ∧ le s.1 (if k.cut.lt s.1 = true then s.1 else k.fol.cut) := by
  split
  · rename_i h; exact ⟨h, le_refl _⟩
  · rename_i h; exact ⟨fol_lt k, le_trans (lt_of_not h) (le_of_lt (fol_lt k))⟩
theorem above_ok {s : Span} {f : Bool} {k g : Ky} (hs : SpW s) (hk : strip k.b = k.b) (e : above s k f = some g) : g.fin = f ∧ inS g s ∧ k.cut.lt g.cut = true ∧ strip g.b = g.b := by
  unfold above at e
  obtain ⟨h1, h2⟩ := above_start s k
  have h3 : strip (if k.cut.lt s.1 = true then s.1 else k.fol.cut).b = (if k.cut.lt s.1 = true then s.1 else k.fol.cut).b := by
    split
    · exact hs.lo
    · exact hk
  generalize (if k.cut.lt s.1 = true then s.1 else k.fol.cut) = c at e h1 h2 h3
  split at e
  · cases e
  split at e
  · cases e
  rename_i hc
  have hc := closed_iff.mp (Bool.eq_false_iff.mpr hc)
  obtain ⟨a, b, d⟩ := firstIn_ok (s := (c, s.2)) ⟨h3, hs.hi⟩ hc e
  exact ⟨a, ⟨le_trans h2 b.1, b.2⟩, lt_le h1 b.1, d⟩
theorem above_all {s : Span} {f : Bool} {k x : Ky} (hf : x.fin = f) (hx : inS x s) (hk : k.cut.lt x.cut = true) : ∃ g, above s k f = some g := by
  unfold above
  have h1 : le (if k.cut.lt s.1 = true then s.1 else k.fol.cut) x.cut := by
    split
    · exact hx.1
    · exact fol_le hk
  generalize (if k.cut.lt s.1 = true then s.1 else k.fol.cut) = c at h1
  rw [if_neg (by rw [closed_iff.mpr fun d hd => lt_trans hk (hx.2 d hd)]; exact Bool.false_ne_true), if_neg (by rw [closed_iff.mpr fun d hd => le_lt h1 (hx.2 d hd)]; exact Bool.false_ne_true)]
  obtain ⟨g, hg, _⟩ := firstIn_all (s := (c, s.2)) hf ⟨h1, hx.2⟩
  exact ⟨g, hg⟩
/-! ### behind -/
structure Pair (ss up : List Span) (z : Ky × Ky) : Prop where
  f1 : z.1.fin = true
  f2 : z.2.fin = false
  lt : z.1.cut.lt z.2.cut = true
  i1 : inR z.1 ss
  i2 : inR z.2 up
  s1 : strip z.1.b = z.1.b
  s2 : strip z.2.b = z.2.b
def bndE (g : Ky) : Option Cut → Option Cut
  | none => some g.cut
  | some h => if g.cut.lt h then some g.cut else some h
theorem behind_eq (s o : Span) (os : List Span) : behind s (o :: os) = if closed o.2 s.1 then behind s os else
    match firstIn (if s.1.lt o.1 then o.1 else s.1, o.2) false with
      | none => behind s os
      | some g => some (nearer s.1 (bndE g s.2), g) := by
  conv => lhs; unfold behind
  obtain ⟨s1, s2⟩ := s
  cases s2 <;> rfl
theorem le_cmax {a b x : Cut} (h1 : le a x) (h2 : le b x) : le (if a.lt b = true then b else a) x := by
  split
  · exact h2
  · exact h1
theorem behind_ok {s : Span} (hs : SpW s) (hn : SpN s) (ht : s.1.t = none) : ∀ {up : List Span} {z : Ky × Ky}, (∀ o ∈ up, SpW o ∧ SpN o) → behind s up = some z → Pair [s] up z
  | [], z, _, e => nomatch e
  | o :: os, z, hu, e => by
    have again : behind s os = some z → Pair [s] (o :: os) z := fun e => by
      have p := behind_ok hs hn ht (fun x hx => hu x (List.mem_cons_of_mem _ hx)) e
      obtain ⟨x, hx, hx2⟩ := p.i2
      exact ⟨p.f1, p.f2, p.lt, p.i1, ⟨x, List.mem_cons_of_mem _ hx, hx2⟩, p.s1, p.s2⟩
    obtain ⟨ow, on⟩ := hu o List.mem_cons_self
    rw [behind_eq] at e
    split at e
    · exact again e
    · rename_i hc
      have hc := closed_iff.mp (Bool.eq_false_iff.mpr hc)
      have c1 : le s.1 (if s.1.lt o.1 = true then o.1 else s.1) := by
        split
        · rename_i h; exact le_of_lt h
        · exact le_refl _
      have c2 : le o.1 (if s.1.lt o.1 = true then o.1 else s.1) := by
        split
        · exact le_refl _
        · rename_i h; exact lt_of_not h
      have c3 : SpW (if s.1.lt o.1 = true then o.1 else s.1, o.2) := by
        refine ⟨?_, ow.hi⟩
        show strip (if s.1.lt o.1 = true then o.1 else s.1).b = _
        split
        · exact ow.lo
        · exact hs.lo
      have c4 : SpN (if s.1.lt o.1 = true then o.1 else s.1, o.2) := by
        intro d hd
        show (if s.1.lt o.1 = true then o.1 else s.1).lt d = true
        split
        · exact on d hd
        · exact hc d hd
      split at e
      · exact again e
      · rename_i g hg
        obtain ⟨g1, g2, g3⟩ := firstIn_ok c3 c4 hg
        have e' := Option.some.inj e
        have sg : s.1.lt g.cut = true := by
          have hle : le s.1 g.cut := le_trans c1 g2.1
          have e1 : s.1 = ⟨s.1.ep, s.1.b, none⟩ := by rw [← ht]
          rw [e1] at hle ⊢
          exact bl_lt (none_le.mp hle)
        -- the bound
        have bnd : ∃ d : Cut, bndE g s.2 = some d ∧ strip d.b = d.b ∧ (∃ t, d.t = some t) ∧ s.1.lt d = true ∧ le d g.cut ∧ ∀ h, s.2 = some h → le d h := by
          cases h2 : s.2 with
          | none => exact ⟨g.cut, rfl, g3, ⟨g.t, rfl⟩, sg, le_refl _, fun _ e => nomatch e⟩
          | some h =>
            by_cases hl : g.cut.lt h = true
            · exact ⟨g.cut, if_pos hl, g3, ⟨g.t, rfl⟩, sg, le_refl _, fun _ e => Option.some.inj e ▸ le_of_lt hl⟩
            · obtain ⟨a, b⟩ := hs.hi h h2
              exact ⟨h, if_neg hl, a, b, hn h h2, lt_of_not hl, fun _ e => Option.some.inj e ▸ le_refl _⟩
        obtain ⟨d, d0, d1, ⟨t, d2⟩, d3, d4, d5⟩ := bnd
        rw [d0] at e'
        subst e'
        have nl : (nearer s.1 (some d)).cut.lt d = true := bl_lt (near_lt (after_lt ht d2 d3) d1)
        exact ⟨rfl, g1, lt_le nl d4, inR_one.mpr ⟨le_of_lt (bl_lt (near_gt _ _)), fun h hh => lt_le nl (d5 h hh)⟩, ⟨o, List.mem_cons_self, le_trans c2 g2.1, g2.2⟩, near_strip _ _, g3⟩
theorem behind_all {s : Span} {a b : Ky} (hb : b.fin = false) (ha : inS a s) (hab : a.cut.lt b.cut = true) : ∀ {up : List Span}, inR b up → ∃ z, behind s up = some z
  | [], h => absurd h (inR_nil b)
  | o :: os, ⟨x, hx, hxb⟩ => by
    have again : x ∈ os → ∃ z, behind s os = some z := fun h => behind_all hb ha hab ⟨x, h, hxb⟩
    unfold behind
    by_cases hc : closed o.2 s.1 = true
    · rw [if_pos hc]
      rcases List.mem_cons.mp hx with rfl | hx
      · rw [closed_iff.mpr fun d hd => le_lt ha.1 (lt_trans hab (hxb.2 d hd))] at hc; cases hc
      · exact again hx
    · rw [if_neg hc]
      cases hf : firstIn (if s.1.lt o.1 = true then o.1 else s.1, o.2) false with
      | some g => exact ⟨_, rfl⟩
      | none =>
        rcases List.mem_cons.mp hx with rfl | hx
        · obtain ⟨k, hk, _⟩ := firstIn_all (s := (if s.1.lt x.1 = true then x.1 else s.1, x.2)) hb ⟨le_cmax (le_trans ha.1 (le_of_lt hab)) hxb.1, hxb.2⟩
          rw [hk] at hf; cases hf
        · exact again hx
/-! ### pairs -/
theorem pairIn_ok {s : Span} {up : List Span} {z : Ky × Ky} (hs : SpW s ∧ SpN s) (hu : ∀ o ∈ up, SpW o ∧ SpN o) (e : pairIn s up = some z) : Pair [s] up z := by
  unfold pairIn at e
  split at e
  · rename_i ht
    exact behind_ok hs.1 hs.2 ht hu e
  · split at e
    · cases e
    · rename_i k hk
      obtain ⟨k1, k2, k3⟩ := firstIn_ok hs.1 hs.2 hk
      obtain ⟨g, hg, e2⟩ := Option.map_eq_some_iff.mp e
      subst e2
      obtain ⟨o, ho, eo⟩ := List.mem_filterMap.mp (List.mem_of_mem_head? hg)
      obtain ⟨g1, g2, g3, g4⟩ := above_ok (hu o ho).1 k3 eo
      exact ⟨k1, g1, g3, inR_one.mpr k2, ⟨o, ho, g2⟩, k3, g4⟩
theorem pairIn_all {s : Span} {up : List Span} {a b : Ky} (fa : a.fin = true) (fb : b.fin = false) (ha : inS a s) (hb : inR b up) (hab : a.cut.lt b.cut = true) : ∃ z, pairIn s up = some z := by
  unfold pairIn
  split
  · exact behind_all fb ha hab hb
  · rename_i t ht
    obtain ⟨k, hk, hka⟩ := firstIn_all fa ha
    rw [hk]
    have hkb : k.cut.lt b.cut = true := le_lt (hka (by rw [ht]; simp)) hab
    obtain ⟨o, ho, hob⟩ := hb
    obtain ⟨g, hg⟩ := above_all fb hob hkb
    have hm : g ∈ up.filterMap fun o => above o k false := List.mem_filterMap.mpr ⟨o, ho, hg⟩
    show ∃ z, Option.map (fun g => (k, g)) (up.filterMap fun o => above o k false).head? = some z
    cases hl : up.filterMap fun o => above o k false with
    | nil => rw [hl] at hm; cases hm
    | cons g' r => exact ⟨_, rfl⟩
theorem pairAbove_ok {up : List Span} (hu : ∀ o ∈ up, SpW o ∧ SpN o) : ∀ {ss : List Span} {z : Ky × Ky}, (∀ o ∈ ss, SpW o ∧ SpN o) → pairAbove ss up = some z → Pair ss up z
  | [], z, _, e => nomatch e
  | s :: ss, z, h, e => by
    unfold pairAbove at e
    split at e
    · have p := pairAbove_ok hu (fun x hx => h x (List.mem_cons_of_mem _ hx)) e
      obtain ⟨x, hx, hx2⟩ := p.i1
      exact ⟨p.f1, p.f2, p.lt, ⟨x, List.mem_cons_of_mem _ hx, hx2⟩, p.i2, p.s1, p.s2⟩
    · rename_i z' hz
      have p := pairIn_ok (h s List.mem_cons_self) hu hz
      have e' := Option.some.inj e
      subst e'
      exact ⟨p.f1, p.f2, p.lt, ⟨s, List.mem_cons_self, inR_one.mp p.i1⟩, p.i2, p.s1, p.s2⟩
theorem pairAbove_all {up : List Span} {a b : Ky} (fa : a.fin = true) (fb : b.fin = false) (hb : inR b up) (hab : a.cut.lt b.cut = true) : ∀ {ss : List Span}, inR a ss → pairAbove ss up ≠ none
  | [], h, _ => absurd h (inR_nil a)
  | s :: ss, ⟨x, hx, hxa⟩, e => by
    unfold pairAbove at e
    split at e
    · rename_i hn
      rcases List.mem_cons.mp hx with rfl | hx
      · obtain ⟨z, hz⟩ := pairIn_all fa fb hxa hb hab
        rw [hz] at hn; cases hn
      · exact pairAbove_all fa fb hb hab ⟨x, hx, hxa⟩ e
    · cases e
/-! ### the spans of a requirement -/
theorem key_sp (p : Pt) : strip p.key.b = p.key.b := strip_idem p.ns
theorem outs_w {lo hi : Cut} (h1 : strip lo.b = lo.b ∧ ∃ t, lo.t = some t) (h2 : strip hi.b = hi.b) : ∀ s ∈ outs lo hi, SpW s := by
  intro s hs
  rcases List.mem_append.mp hs with hs | hs
  · split at hs
    · rw [List.mem_singleton.mp hs]; exact ⟨rfl, fun _ e => Option.some.inj e ▸ h1⟩
    · cases hs
  · rw [List.mem_singleton.mp hs]; exact ⟨h2, fun _ e => nomatch e⟩
theorem cl_w {c : Cl} (hc : c.G) : ∀ s ∈ c.spans, SpW s := by
  have hs7 := sg7 hc.sg
  obtain ⟨sg, st, p⟩ := c
  have hk : strip p.key.cut.b = p.key.cut.b ∧ ∃ t, p.key.cut.t = some t := ⟨key_sp p, _, rfl⟩
  have hf : strip p.key.fol.cut.b = p.key.fol.cut.b ∧ ∃ t, p.key.fol.cut.t = some t := ⟨key_sp p, _, rfl⟩
  have one : ∀ (lo : Cut) (hi : Option Cut), strip lo.b = lo.b → (∀ h, hi = some h → strip h.b = h.b ∧ ∃ t, h.t = some t) → ∀ s ∈ [(lo, hi)], SpW s := fun lo hi h1 h2 s hs => by
    rw [List.mem_singleton.mp hs]; exact ⟨h1, h2⟩
  have sm : ∀ {d : Cut}, (strip d.b = d.b ∧ ∃ t, d.t = some t) → ∀ h, some d = some h → strip h.b = h.b ∧ ∃ t, h.t = some t := fun hd h e => Option.some.inj e ▸ hd
  have bw : ∀ ns, (strip (blk p.ep ns).1.b = (blk p.ep ns).1.b ∧ ∃ t, (blk p.ep ns).1.t = some t) ∧ (strip (blk p.ep ns).2.b = (blk p.ep ns).2.b ∧ ∃ t, (blk p.ep ns).2.t = some t) := fun ns => ⟨⟨strip_idem _, _, rfl⟩, ⟨strip_idem _, _, rfl⟩⟩
  cases st with
  | true =>
    have e2 : Cl.spans ⟨sg, true, p⟩ = if sg = 0 then [((blk p.ep p.ns).1, some (blk p.ep p.ns).2)] else outs (blk p.ep p.ns).1 (blk p.ep p.ns).2 := if_pos rfl
    rw [e2]
    split
    · exact one _ _ (bw _).1.1 (sm (bw _).2)
    · exact outs_w (bw _).1 (bw _).2.1
  | false =>
    rcases hs7 with h | h | h | h | h | h | h <;> (have h : sg = _ := h) <;> subst h
    · exact one _ _ hk.1 (sm hf)
    · exact outs_w hk hf.1
    · exact one _ _ rfl (sm hf)
    · exact one _ _ hk.1 (fun _ e => nomatch e)
    · show ∀ s ∈ (if least.lt ⟨p.ep, strip p.ns, some firstT⟩ = true then [(least, some ⟨p.ep, strip p.ns, some firstT⟩)] else []), SpW s
      split
      · exact one _ _ rfl (sm ⟨strip_idem _, _, rfl⟩)
      · exact fun _ h => nomatch h
    · exact one _ _ (strip_idem _) (fun _ e => nomatch e)
    · exact one _ _ hk.1 (sm (bw _).2)
theorem meet1_w {s s' : Span} (h : SpW s) (h' : SpW s') : ∀ z ∈ meet1 s s', SpW z ∧ SpN z := by
  have hlo : strip (cmax s.1 s'.1).b = (cmax s.1 s'.1).b := by
    unfold cmax
    split
    · exact h'.lo
    · exact h.lo
  have hhi : ∀ x, lesser s.2 s'.2 = some x → strip x.b = x.b ∧ ∃ t, x.t = some t := by
    have a := h.hi
    have b := h'.hi
    revert a b
    generalize s.2 = u
    generalize s'.2 = v
    intro a b
    rcases u with _ | c <;> rcases v with _ | d
    · exact fun _ e => nomatch e
    · exact b
    · exact a
    · intro x e
      have e : some (if d.lt c = true then d else c) = some x := e
      split at e
      · exact b x e
      · exact a x e
  intro z hz
  unfold meet1 at hz
  split at hz
  · rw [List.mem_singleton.mp hz]; exact ⟨⟨hlo, fun _ e => nomatch e⟩, fun _ e => nomatch e⟩
  · rename_i e el
    rw [el] at hhi
    split at hz
    · rename_i hl
      rw [List.mem_singleton.mp hz]; exact ⟨⟨hlo, hhi⟩, fun _ e => Option.some.inj e ▸ hl⟩
    · cases hz
theorem fold_w : ∀ (cs : List Cl) (a : List Span), (∀ c ∈ cs, c.G) → (∀ s ∈ a, SpW s ∧ SpN s) → ∀ s ∈ cs.foldl (fun a c => meet a c.spans) a, SpW s ∧ SpN s
  | [], a, _, h => h
  | c :: cs, a, hc, h => fold_w cs (meet a c.spans) (fun z hz => hc z (List.mem_cons_of_mem _ hz)) fun z hz => by
    obtain ⟨s, hs, hz⟩ := List.mem_flatMap.mp hz
    obtain ⟨s', hs', hz⟩ := List.mem_flatMap.mp hz
    exact meet1_w (h s hs).1 (cl_w (hc c List.mem_cons_self) s' hs') z hz
theorem spans_w {cs : List Cl} (h : ∀ c ∈ cs, c.G) : ∀ s ∈ spansOf cs, SpW s ∧ SpN s :=
  fold_w cs _ h fun s hs => by rw [List.mem_singleton.mp hs]; exact ⟨⟨rfl, fun _ e => nomatch e⟩, fun _ e => nomatch e⟩
/-! ### picks -/
theorem ptLe_iff {p q : Pt} : ptLe p q = true ↔ le p.key.cut q.key.cut := by
  unfold ptLe; simp
theorem last_spec {R : Pt → Pt → Prop} (hR : ∀ a, R a a) : ∀ l : List Pt, l.Pairwise R → l ≠ [] → ∃ p, last1 l = [p] ∧ p ∈ l ∧ ∀ q ∈ l, R q p
  | [], _, h => absurd rfl h
  | [x], _, _ => ⟨x, rfl, List.mem_singleton.mpr rfl, fun q hq => by rw [List.mem_singleton.mp hq]; exact hR x⟩
  | x :: y :: r, h, _ => by
    obtain ⟨h1, h2⟩ := List.pairwise_cons.mp h
    obtain ⟨p, e, hp, hq⟩ := last_spec hR (y :: r) h2 (by simp)
    refine ⟨p, ?_, List.mem_cons_of_mem _ hp, fun q hm => ?_⟩
    · rw [← e]; rfl
    · rcases List.mem_cons.mp hm with rfl | hm
      · exact h1 p hp
      · exact hq q hm
theorem elig_sorted (cs : List Cl) (rs : List Rel) : (elig cs rs).Pairwise fun p q => ptLe p q = true := by
  unfold elig
  refine List.pairwise_mergeSort (fun a b c h1 h2 => ?_) (fun a b => ?_) _
  · rw [ptLe_iff] at *; exact le_trans h1 h2
  · rw [Bool.or_eq_true, ptLe_iff, ptLe_iff]
    cases h : b.key.cut.lt a.key.cut with
    | false => exact .inl h
    | true => exact .inr (le_of_lt h)
theorem le_self (a : Pt) : ptLe a a = true := ptLe_iff.mpr (le_refl _)
theorem mem_elig {cs : List Cl} {rs : List Rel} {p : Pt} : p ∈ elig cs rs ↔ lets cs p = true ∧ ∃ b, (p, b) ∈ rs ∧ (b = false ∨ pins cs p = true) := by
  unfold elig
  rw [List.mem_mergeSort, List.mem_filter, List.mem_map]
  constructor
  · rintro ⟨⟨v, hv, rfl⟩, hl⟩
    obtain ⟨h1, h2⟩ := List.mem_filter.mp hv
    refine ⟨hl, v.2, h1, ?_⟩
    cases hb : v.2 with
    | false => exact .inl rfl
    | true => rw [hb] at h2; exact .inr h2
  · rintro ⟨hl, b, hv, hb⟩
    refine ⟨⟨(p, b), List.mem_filter.mpr ⟨hv, ?_⟩, rfl⟩, hl⟩
    rcases hb with rfl | hb
    · rfl
    · show (!b || pins cs p) = true
      rw [hb, Bool.or_true]
/-- the picked one: none eligible; or one that is the greatest of the class -/
theorem pick_spec (cs : List Cl) (rs : List Rel) : (pick cs rs = [] ∧ ∀ p, p ∉ elig cs rs) ∨ ∃ p, pick cs rs = [p] ∧ p ∈ elig cs rs ∧
    ((naming cs = false ∧ p.key.fin = true ∧ ∀ q ∈ elig cs rs, q.key.fin = true → ptLe q p = true) ∨
     ((naming cs = true ∨ ∀ q ∈ elig cs rs, q.key.fin = false) ∧ ∀ q ∈ elig cs rs, ptLe q p = true)) := by
  have hs := elig_sorted cs rs
  have whole : (naming cs = true ∨ ∀ q ∈ elig cs rs, q.key.fin = false) → pick cs rs = last1 (elig cs rs) → (pick cs rs = [] ∧ ∀ p, p ∉ elig cs rs) ∨ ∃ p, pick cs rs = [p] ∧ p ∈ elig cs rs ∧
    ((naming cs = false ∧ p.key.fin = true ∧ ∀ q ∈ elig cs rs, q.key.fin = true → ptLe q p = true) ∨
     ((naming cs = true ∨ ∀ q ∈ elig cs rs, q.key.fin = false) ∧ ∀ q ∈ elig cs rs, ptLe q p = true)) := fun h e => by
    by_cases h0 : elig cs rs = []
    · refine .inl ⟨by rw [e, h0]; rfl, fun p hp => ?_⟩
      rw [h0] at hp; cases hp
    · obtain ⟨p, e2, hp, hq⟩ := last_spec le_self _ hs h0
      exact .inr ⟨p, e.trans e2, hp, .inr ⟨h, hq⟩⟩
  unfold pick at whole ⊢
  split
  · rename_i hc
    rw [Bool.and_eq_true] at hc
    obtain ⟨h1, h2⟩ := hc
    have hne : (elig cs rs).filter (fun p => p.key.fin) ≠ [] := fun z => by rw [z] at h1; cases h1
    obtain ⟨p, e2, hp, hq⟩ := last_spec le_self _ (hs.sublist List.filter_sublist) hne
    obtain ⟨m1, m2⟩ := List.mem_filter.mp hp
    exact .inr ⟨p, e2, m1, .inl ⟨by simpa using h2, m2, fun q q1 q2 => hq q (List.mem_filter.mpr ⟨q1, q2⟩)⟩⟩
  · rename_i hc
    rw [if_neg hc] at whole
    refine whole ?_ rfl
    cases hn : naming cs with
    | true => exact .inl rfl
    | false =>
      right
      intro q hq
      cases hf : q.key.fin with
      | false => rfl
      | true =>
        refine absurd ?_ hc
        rw [hn]
        cases hl : (elig cs rs).filter (fun p => p.key.fin) with
        | nil =>
          have : q ∈ (elig cs rs).filter (fun p => p.key.fin) := List.mem_filter.mpr ⟨hq, hf⟩
          rw [hl] at this; cases this
        | cons => rfl
theorem no_falls {cs : List Cl} (h : ReqG cs) (e : felt cs = none) (r1 : List Rel) (x : Rel) : falls cs r1 (r1 ++ [x]) = false := by
  have up : ∀ p, p ∈ elig cs r1 → p ∈ elig cs (r1 ++ [x]) := fun p hp => by
    rw [mem_elig] at hp ⊢
    obtain ⟨hl, b, hb, hp⟩ := hp
    exact ⟨hl, b, List.mem_append_left _ hb, hp⟩
  unfold falls
  rcases pick_spec cs r1 with ⟨e1, _⟩ | ⟨p, e1, hp, c1⟩
  · rw [e1]
  rw [e1]
  rcases pick_spec cs (r1 ++ [x]) with ⟨e2, hn⟩ | ⟨q, e2, hq, c2⟩
  · exact absurd (up p hp) (hn p)
  rw [e2]
  show q.key.cut.lt p.key.cut = false
  rcases c2 with ⟨n2, f2, c2⟩ | ⟨n2, c2⟩
  · rcases c1 with ⟨n1, f1, c1⟩ | ⟨n1, c1⟩
    · exact ptLe_iff.mp (c2 p (up p hp) f1)
    · have fp : p.key.fin = false := by
        rcases n1 with n1 | n1
        · rw [n2] at n1; cases n1
        · exact n1 p hp
      unfold felt at e
      rw [n2] at e
      have e : pairAbove (spansOf cs) (spansOf cs) = none := e
      cases hl : q.key.cut.lt p.key.cut with
      | false => rfl
      | true =>
        have i1 := (lets_iff h.2 q).mp (mem_elig.mp hq).1
        have i2 := (lets_iff h.2 p).mp (mem_elig.mp hp).1
        exact absurd e (pairAbove_all f2 fp i2 hl i1)
  · exact ptLe_iff.mp (c2 p (up p hp))
theorem pt_key {k : Ky} (h : strip k.b = k.b) : k.pt.key = k := by
  obtain ⟨e, b, t⟩ := k
  have h : strip b = b := h
  show Ky.mk e (strip (if b = [] then [0] else b)) t = ⟨e, b, t⟩
  by_cases hb : b = []
  · subst hb; rfl
  · rw [if_neg hb, h]
theorem does_fall {cs : List Cl} (h : ReqG cs) {z : Ky × Ky} (e : felt cs = some z) : falls cs [(z.2.pt, false)] [(z.2.pt, false), (z.1.pt, false)] = true ∧ z.2.pt.key ≠ z.1.pt.key := by
  have hn : naming cs = false ∧ pairAbove (spansOf cs) (spansOf cs) = some z := by
    unfold felt at e
    cases hn : naming cs with
    | true => rw [hn] at e; cases e
    | false => rw [hn] at e; exact ⟨rfl, e⟩
  obtain ⟨hn, e⟩ := hn
  have hw := spans_w h.2
  have p := pairAbove_ok hw hw e
  obtain ⟨k, g⟩ := z
  have k0 : k.pt.key = k := pt_key p.s1
  have g0 : g.pt.key = g := pt_key p.s2
  have f1 : k.pt.key.fin = true := k0 ▸ p.f1
  have f2 : g.pt.key.fin = false := g0 ▸ p.f2
  have lt : k.pt.key.cut.lt g.pt.key.cut = true := by rw [k0, g0]; exact p.lt
  have l1 : lets cs k.pt = true := (lets_iff h.2 k.pt).mpr (by rw [k0]; exact p.i1)
  have l2 : lets cs g.pt = true := (lets_iff h.2 g.pt).mpr (by rw [g0]; exact p.i2)
  show falls cs [(g.pt, false)] [(g.pt, false), (k.pt, false)] = true ∧ g.pt.key ≠ k.pt.key
  refine ⟨?_, fun z => by rw [z, f1] at f2; cases f2⟩
  have m1 : ∀ q, q ∈ elig cs [(g.pt, false)] → q = g.pt := fun q hq => by
    obtain ⟨_, b, hb, _⟩ := mem_elig.mp hq
    exact congrArg Prod.fst (List.mem_singleton.mp hb)
  have m2 : ∀ q, q ∈ elig cs [(g.pt, false), (k.pt, false)] → q = g.pt ∨ q = k.pt := fun q hq => by
    obtain ⟨_, b, hb, _⟩ := mem_elig.mp hq
    rcases List.mem_cons.mp hb with hb | hb
    · exact .inl (congrArg Prod.fst hb)
    · exact .inr (congrArg Prod.fst (List.mem_singleton.mp hb))
  have g1 : g.pt ∈ elig cs [(g.pt, false)] := mem_elig.mpr ⟨l2, false, List.mem_singleton.mpr rfl, .inl rfl⟩
  have k2 : k.pt ∈ elig cs [(g.pt, false), (k.pt, false)] := mem_elig.mpr ⟨l1, false, List.mem_cons_of_mem _ (List.mem_singleton.mpr rfl), .inl rfl⟩
  unfold falls
  rcases pick_spec cs [(g.pt, false)] with ⟨_, hno⟩ | ⟨a, ea, ha, _⟩
  · exact absurd g1 (hno _)
  rw [ea, m1 a ha]
  rcases pick_spec cs [(g.pt, false), (k.pt, false)] with ⟨_, hno⟩ | ⟨b, eb, hb, cb⟩
  · exact absurd k2 (hno _)
  rw [eb]
  show b.key.cut.lt g.pt.key.cut = true
  rcases m2 b hb with rfl | rfl
  · rcases cb with ⟨_, fb, _⟩ | ⟨nb, _⟩
    · rw [f2] at fb; cases fb
    · rcases nb with nb | nb
      · rw [hn] at nb; cases nb
      · have := nb _ k2; rw [f1] at this; cases this
  · exact lt
theorem felt_naming {cs : List Cl} (h : naming cs = true) : felt cs = none := by
  unfold felt; rw [h]; rfl
end V.P

set_option Elab.async false
set_option linter.all false
set_option maxRecDepth 100000
set_option maxHeartbeats 4000000
namespace V
open PySem PySem.Spec PyProof.Rows L2 DL
open PySem.W (alike alikeAll dataLt)
open TL (numL joinL tl)
/-! ### _law_pool -/
def D_law_pool : DX := anyD (fun cs : List Cl => [.list [clsD cs], .int 25]) (fun cs n => ReqG cs ∧ n < 2 ^ 56) fun _ n d n' => n ≤ n' ∧ n' ≤ n + 1000 ∧ ∃ ps : List Pt, PoolG ps ∧ d = .list (ps.map txD)
theorem pm_law_pool : Pm 2 D_law_pool := pm_any fun _ => rfl
def pS (cs : List Cl) (o3 o4 o5 o6 o7 : Sl) (n : Nat) : DS := ⟨[.st, .d (.list [clsD cs]), .d (.int 25), o3, o4, o5, o6, o7, .un, .un, .un], n⟩
def poE : TDS := (dPoolEnd 8 10 D_law_key (dCons (dFrz (dLc (diL (dGive 6)) (gdName 9) dYes (dTup (dCons (dCB reprR (dCons (dCall D_law_key (dCons (dVar 9) dNil)) dNil)) (dCons (dVar 9) dNil))) [9])) dNil))
theorem sh_word (i : Nat) : Sh 24 (PyData.str (wordS i)).shown := by
  match i with
  | 0 => exact ⟨by decide +kernel, by decide +kernel⟩
  | 1 => exact ⟨by decide +kernel, by decide +kernel⟩
  | n + 2 =>
    show Sh 24 (PyData.str "rc").shown
    exact ⟨by decide +kernel, by decide +kernel⟩
theorem sh_m1 : Sh 24 (PyData.int (-1)).shown := ⟨by decide +kernel, by decide +kernel⟩
theorem sh_sm {n : Nat} (h : n ≤ 9) : Sh 24 (PyData.int (n : Int)).shown := sh_num (Nat.lt_of_le_of_lt h (by decide))
theorem sh_lk {p : Pt} (h : p.G) : Sh 20000 p.key.lk.shown := by
  have hb : Sh 3133 (baseD p.key.ep p.key.b).shown := by
    refine (sh_tup (m := 1563) (k := 2) (fun d hd => ?_) (Nat.le_refl _)).mono (by decide)
    simp only [List.mem_cons, List.not_mem_nil, or_false] at hd
    rcases hd with rfl | rfl
    · exact (sh_num h.eb).mono (by decide)
    · refine (sh_lst (m := 24) (k := 60) (fun d hd => ?_) (by rw [natsD_len]; exact Nat.le_trans (strip_len _) h.ln)).mono (by decide)
      unfold natsD at hd
      obtain ⟨n, hn, rfl⟩ := List.mem_map.mp hd
      exact sh_num (h.nb n (strip_mem hn))
  have row : ∀ l : List PyData, l.length ≤ 3 → (∀ d ∈ l, Sh 24 d.shown) → Sh 3133 (PyData.list l).shown := fun l hl hd => (sh_lst (m := 24) (k := 3) hd hl).mono (by decide)
  have hs : Sh 3133 (stageD p.t).shown := by
    unfold stageD
    cases hf : p.t.fo with
    | none =>
      refine row _ (Nat.le_of_ble_eq_true rfl) fun d hd => ?_
      rw [List.mem_singleton.mp hd]
      refine sh_sm ?_
      unfold stN
      split <;> decide
    | some x =>
      obtain ⟨i, n⟩ := x
      refine row _ (Nat.le_of_ble_eq_true rfl) fun d hd => ?_
      simp only [List.mem_cons, List.not_mem_nil, or_false] at hd
      rcases hd with rfl | rfl | rfl
      · exact sh_sm (n := 1) (by decide)
      · exact sh_word i
      · exact sh_num (h.t.1 i n hf).2
  have hp : Sh 3133 (postD p.t.po).shown := by
    cases hf : p.t.po with
    | none => exact row _ (Nat.le_of_ble_eq_true rfl) fun d hd => by rw [List.mem_singleton.mp hd]; exact sh_m1
    | some n => exact row _ (Nat.le_of_ble_eq_true rfl) fun d hd => by rw [List.mem_singleton.mp hd]; exact sh_num (h.t.2.1 n hf)
  have hd : Sh 3133 (devD p.t.de).shown := by
    cases hf : p.t.de with
    | none => exact row _ (Nat.le_of_ble_eq_true rfl) fun d hd => by rw [List.mem_singleton.mp hd]; exact sh_sm (n := 1) (by decide)
    | some n =>
      refine row _ (Nat.le_of_ble_eq_true rfl) fun d hd => ?_
      simp only [List.mem_cons, List.not_mem_nil, or_false] at hd
      rcases hd with rfl | rfl
      · exact sh_sm (n := 0) (by decide)
      · exact sh_num (h.t.2.2 n hf)
  refine (sh_tup (m := 3133) (k := 4) (fun d hd' => ?_) (Nat.le_refl _)).mono (by decide)
  simp only [List.mem_cons, List.not_mem_nil, or_false] at hd'
  rcases hd' with rfl | rfl | rfl | rfl
  · exact hb
  · exact hs
  · exact hp
  · exact hd
theorem show_int {n : Nat} (h : n < 10 ^ 24) : (PyData.int (n : Int)).showable = true := by
  show decide ((n : Int).natAbs.log2 < 1920) = true
  rw [Int.natAbs_natCast]
  refine decide_eq_true ?_
  by_cases h0 : n = 0
  · subst h0; decide
  · have : n.log2 < 80 := (Nat.log2_lt h0).mpr (Nat.lt_of_lt_of_le h (by decide))
    omega
theorem show_nats : ∀ l : List Nat, (∀ n ∈ l, n < 10 ^ 24) → PyData.showableAll (natsD l) = true
  | [], _ => rfl
  | n :: l, h => by
    have := show_nats l fun x hx => h x (List.mem_cons_of_mem _ hx)
    have h1 := show_int (h n List.mem_cons_self)
    unfold natsD at this ⊢
    rw [List.map_cons]
    simp only [PyData.showableAll, this, h1, Bool.and_self]
theorem show_lk {p : Pt} (h : p.G) : p.key.lk.showable = true := by
  show PyData.showableAll [baseD p.ep (strip p.ns), stageD p.t, postD p.t.po, devD p.t.de] = true
  have h1 : (baseD p.ep (strip p.ns)).showable = true := by
    show PyData.showableAll [.int (p.ep : Int), .list (natsD (strip p.ns))] = true
    have h1 : (PyData.list (natsD (strip p.ns))).showable = true := show_nats _ fun n hn => h.nb n (strip_mem hn)
    simp only [PyData.showableAll, h1, show_int h.eb, Bool.and_self]
  have i1 : (PyData.int 1).showable = true := show_int (n := 1) (by decide)
  have i0 : (PyData.int 0).showable = true := show_int (n := 0) (by decide)
  have im : (PyData.int (-1)).showable = true := by decide
  have h2 : (stageD p.t).showable = true := by
    unfold stageD
    cases hf : p.t.fo with
    | none =>
      show PyData.showableAll [.int (stN p.t : Int)] = true
      have hz : (PyData.int (stN p.t : Int)).showable = true := show_int (by unfold stN; split <;> decide)
      simp only [PyData.showableAll, hz, Bool.and_self]
    | some x =>
      obtain ⟨i, n⟩ := x
      show PyData.showableAll [.int 1, .str (wordS i), .int (n : Int)] = true
      have hw : (PyData.str (wordS i)).showable = true := rfl
      simp only [PyData.showableAll, i1, hw, show_int (h.t.1 i n hf).2, Bool.and_self]
  have h3 : (postD p.t.po).showable = true := by
    cases hf : p.t.po with
    | none =>
      show PyData.showableAll [.int (-1)] = true
      simp only [PyData.showableAll, im, Bool.and_self]
    | some n =>
      show PyData.showableAll [.int (n : Int)] = true
      simp only [PyData.showableAll, show_int (h.t.2.1 n hf), Bool.and_self]
  have h4 : (devD p.t.de).showable = true := by
    cases hf : p.t.de with
    | none =>
      show PyData.showableAll [.int 1] = true
      simp only [PyData.showableAll, i1, Bool.and_self]
    | some n =>
      show PyData.showableAll [.int 0, .int (n : Int)] = true
      simp only [PyData.showableAll, i0, show_int (h.t.2.2 n hf), Bool.and_self]
  simp only [PyData.showableAll, h1, h2, h3, h4, Bool.and_self]
theorem txs_of {fs : List Pt} : ∀ {ds : List PyData}, (∀ d ∈ ds, ∃ p ∈ fs, txD p = d) → ∃ l : List Pt, ds = l.map txD ∧ ∀ p ∈ l, p ∈ fs
  | [], _ => ⟨[], rfl, fun _ h => nomatch h⟩
  | d :: ds, h => by
    obtain ⟨l, e, hl⟩ := txs_of (fun z hz => h z (List.mem_cons_of_mem _ hz))
    obtain ⟨p, hp, ep⟩ := h d List.mem_cons_self
    refine ⟨p :: l, by rw [List.map_cons, ep, e], fun z hz => ?_⟩
    rcases List.mem_cons.mp hz with rfl | hz
    · exact hp
    · exact hl z hz
theorem poE_ok {cs : List Cl} {n : Nat} {Q : QN} {o3 o4 o5 o7 : Sl} {fs : List Pt} (hf : ∀ p ∈ fs, p.G) (h0 : fs ≠ []) (hl : fs.length ≤ 1000) (q : ∀ ps : List Pt, PoolG ps → Q (.list (ps.map txD)) n) : poE (ends Q) (pS cs o3 o4 o5 (.own (fs.map txD)) o7 n) := by
  refine ⟨_, rfl, _, rfl, by rw [List.length_map, sizeLine_eq]; omega, ?_⟩
  refine lc_pure txD (fun _ => true) (fun p => .tuple [.str p.key.lk.shown, txD p]) fs [] (fun p hp K K0 k1 _ => ?_) ?_
  · have hs := (sh_lk (hf p hp)).ln
    exact ⟨_, rfl, p, rfl, hf p hp, _, rfl, rfl, show_lk (hf p hp), by rw [depth_lk]; decide, by show p.key.lk.shown.length ≤ _; rw [sizeLine_eq]; omega, _, rfl, fit (by rfl), k1 rfl⟩
  · rw [List.nil_append, List.filter_eq_self.mpr (fun _ _ => rfl)]
    have ex : ∀ ds : List PyData, (∀ d, d ∈ ds → ∃ p, p ∈ (fs.map fun p => ((p.key.lk.shown, txD p) : Str × PyData)) ∧ p.2 = d) → ∃ l : List Pt, ds = l.map txD ∧ ∀ p ∈ l, p ∈ fs := fun ds h => txs_of fun d hd => by
      obtain ⟨x, hx, e⟩ := h d hd
      obtain ⟨p, hp, rfl⟩ := List.mem_map.mp hx
      exact ⟨p, hp, e⟩
    refine ⟨⟨by show 8 < 11; decide, by show 10 < 11; decide⟩, fs.map fun p => (p.key.lk.shown, txD p), keyFn, ?_, ?_, by rw [List.length_map]; exact hl, fun x hx => ?_, fun x hx => ?_, fun ds h => ?_, fun ds r hd0 hdl h => ?_⟩
    · rw [List.map_map]; rfl
    · intro z
      rw [List.map_eq_nil_iff] at z
      exact h0 z
    · obtain ⟨p, hp, rfl⟩ := List.mem_map.mp hx
      exact ⟨p, rfl, hf p hp, (keyFn_at (hf p hp)).symm, rfl⟩
    · obtain ⟨p, hp, rfl⟩ := List.mem_map.mp hx
      show (keyFn (.str p.tx)).depth ≤ 50
      rw [keyFn_at (hf p hp), depth_lk]
      decide
    · obtain ⟨l, rfl, hm⟩ := ex ds h
      exact ⟨lk_alike l fun p hp => hf p (hm p hp), lk_sort l fun p hp => hf p (hm p hp)⟩
    · obtain ⟨l, rfl, hm⟩ := ex ds h
      rw [List.length_map, List.length_map] at hdl
      exact q l ⟨fun p hp => hf p (hm p hp), fun z => hd0 (by rw [z]; rfl), by omega⟩
end V

set_option Elab.async false
set_option linter.all false
set_option maxRecDepth 100000
set_option maxHeartbeats 4000000
namespace V
open PySem PySem.Spec PyProof.Rows L2 DL
open PySem.W (alike alikeAll dataLt)
open TL (numL joinL tl)
theorem erase_map : ∀ (l : List Pt) (j : Nat), (l.map txD).eraseIdx j = (l.eraseIdx j).map txD
  | [], _ => rfl
  | _ :: _, 0 => rfl
  | x :: l, j + 1 => by rw [List.map_cons, List.eraseIdx_cons_succ, List.eraseIdx_cons_succ, List.map_cons, erase_map l j]
def poBody : TDS := (dDrop (dApp 6 (dPopAt 3 (dCallS 0 D_law_draw (dCons (dLenOwn 3) dNil)))))
def poD : TDS := (dSeq (dFor (diRng (dCons (dCB min2R (dCons (dVar 2) (dCons (dLenOwn 3) dNil))) dNil)) (gdName 7) poBody) poE)
theorem poD_go {cs : List Cl} {o4 o5 : Sl} {D : DEnds} {N0 N : Nat} (hN : N < 2 ^ 60) (q : ∀ (av found : List Pt) o7 n', (∀ p ∈ found, p.G) → found ≠ [] → found.length ≤ 1000 → N0 ≤ n' → n' ≤ N → D.nx (pS cs (.own (av.map txD)) o4 o5 (.own (found.map txD)) o7 n')) :
    ∀ (l : List PyData) (av found : List Pt) (o7 : Sl) (n : Nat), (∀ p ∈ av, p.G) → (∀ p ∈ found, p.G) → found ≠ [] → l.length ≤ av.length → av.length ≤ 1000 → found.length + l.length ≤ 1000 → N0 ≤ n → n + l.length ≤ N →
    forGo (gdName 7) poBody D l (pS cs (.own (av.map txD)) o4 o5 (.own (found.map txD)) o7 n)
  | [], av, found, o7, n, _, hf, h0, _, _, hl, hn0, hn => q av found o7 n hf h0 (by simp only [List.length_nil] at hl; omega) hn0 (by omega)
  | x :: l, av, found, o7, n, hs, hf, h0, hls, hs2, hl, hn0, hn => by
    rw [List.length_cons] at hls hl hn
    refine ⟨⟨_, rfl⟩, ⟨_, rfl⟩, rfl, _, rfl, ((av.map txD).length : Nat), rfl, ?_, ?_⟩
    · rw [List.length_map]
      exact dr3 (by omega) (by omega) (by show n < _; omega)
    · rw [List.length_map]
      refine drawK (m := av.length) fun y hy => ?_
      have hg : (av[y]'hy).G := hs _ (List.getElem_mem _)
      refine ⟨av.map txD, y, txD (av[y]'hy), rfl, rfl, by rw [List.getElem?_map, List.getElem?_eq_getElem hy]; rfl, by rw [List.length_map, sizeLine_eq]; omega, ?_⟩
      refine ⟨found.map txD, rfl, by rw [List.length_map, sizeLine_eq]; omega, ?_⟩
      have e1 : found.map txD ++ [txD (av[y]'hy)] = (found ++ [av[y]'hy]).map txD := by rw [List.map_append]; rfl
      have el : (av.eraseIdx y).length = av.length - 1 := List.length_eraseIdx_of_lt hy
      have key := poD_go hN q l (av.eraseIdx y) (found ++ [av[y]'hy]) (.d x) (n + 1) (fun p hp => hs p (List.mem_of_mem_eraseIdx hp)) (fun p hp => by
        rcases List.mem_append.mp hp with hp | hp
        · exact hf p hp
        · rw [List.mem_singleton.mp hp]; exact hg) (by simp) (by omega) (by omega) (by rw [List.length_append]; simp only [List.length_cons, List.length_nil]; omega) (by omega) (by omega)
      rw [← erase_map, ← e1] at key
      exact key
theorem min_int (a : Nat) : (if dataLt (.int (a : Int)) (.int 25) = true then PyData.int (a : Int) else .int 25) = .int ((min a 25 : Nat) : Int) := by
  rw [PySem.W.dataLt_int]
  by_cases h : (a : Int) < 25
  · rw [if_pos (decide_eq_true h), Nat.min_eq_left (by omega)]
  · rw [if_neg (by rw [decide_eq_false h]; exact Bool.false_ne_true), Nat.min_eq_right (by omega)]
    rfl
theorem alike_ints (a b : Int) : PySem.W.AlikeAll [.int a, .int b] := by
  refine ⟨fun x hx y hy => ?_, fun x hx => ?_⟩
  · simp only [List.mem_cons, List.not_mem_nil, or_false] at hx hy
    rcases hx with rfl | rfl <;> rcases hy with rfl | rfl <;> simp only [alike]
  · simp only [List.mem_cons, List.not_mem_nil, or_false] at hx
    rcases hx with rfl | rfl <;> exact fun z => nomatch z
theorem poD_ok {cs : List Cl} {n : Nat} {Q : QN} {o4 o5 o7 : Sl} {av found : List Pt} (hn : n < 2 ^ 59) (hs : ∀ p ∈ av, p.G) (hf : ∀ p ∈ found, p.G) (h0 : found ≠ []) (hls : av.length ≤ 100) (hl : found.length ≤ 100) (q : ∀ ps : List Pt, PoolG ps → ∀ m, n ≤ m → m ≤ n + 25 → Q (.list (ps.map txD)) m) : poD (ends Q) (pS cs (.own (av.map txD)) o4 o5 (.own (found.map txD)) o7 n) := by
  refine ⟨_, rfl, _, rfl, .int 25, .int ((av.map txD).length : Nat), rfl, alike_ints _ _, by simp only [PyData.depthAll, PyData.depth]; omega, ?_⟩
  rw [min_int, List.length_map]
  refine ⟨_, rfl, by omega, by omega, ?_⟩
  have et : (((min av.length 25 : Nat) : Int)).toNat = min av.length 25 := Int.toNat_natCast _
  rw [et]
  refine poD_go (N0 := n) (N := n + 25) (by omega) (fun av' found' o7' n' g1 g2 g3 g4 g5 => ?_) _ av found o7 n hs hf h0 (by rw [rng_len]; omega) (by omega) (by rw [rng_len]; omega) (Nat.le_refl _) (by rw [rng_len]; omega)
  exact poE_ok g1 g2 g3 fun ps hp => q ps hp n' g4 g5
def verP (y : PyData) : Prop := ∃ p : Pt, p.G ∧ y = txD p
theorem ver_list : ∀ {ys : List PyData}, (∀ y ∈ ys, verP y) → ∃ ps : List Pt, ys = ps.map txD ∧ ∀ p ∈ ps, p.G
  | [], _ => ⟨[], rfl, fun _ h => nomatch h⟩
  | y :: ys, h => by
    obtain ⟨cs, e, hn⟩ := ver_list (fun z hz => h z (List.mem_cons_of_mem _ hz))
    obtain ⟨c, hc, ec⟩ := h y List.mem_cons_self
    refine ⟨c :: cs, by rw [e, ec]; rfl, fun z hz => ?_⟩
    rcases List.mem_cons.mp hz with rfl | h'
    · exact hc
    · exact hn z h'
def poC : TDS := (dSeq (dSetOwn 6 (dLc (diRng (dCons (dC (.int 3)) dNil)) (gdName 7) dYes (dCallS 0 D_law_version dNil) [7])) poD)
theorem poC_ok {cs : List Cl} {n : Nat} {Q : QN} {o4 o5 o6 o7 : Sl} {av : List Pt} (hn : n < 2 ^ 57) (hs : ∀ p ∈ av, p.G) (hls : av.length ≤ 100) (q : ∀ ps : List Pt, PoolG ps → ∀ m, n ≤ m → m ≤ n + 200 → Q (.list (ps.map txD)) m) : poC (ends Q) (pS cs (.own (av.map txD)) o4 o5 o6 o7 n) := by
  refine ⟨3, rfl, by omega, by omega, ?_⟩
  refine ⟨by rw [rng_len, sizeLine_eq]; decide, ?_⟩
  have step : ∀ (Z : Nat → Prop), ∀ m, m + 30 ≤ 2 ^ 58 → ∀ K : PyData → Nat → Prop, (∀ y m', verP y → m ≤ m' → m' ≤ m + 30 → K y m') → ∀ z : PyData, gdName 7 z ⟨wipeR (pS cs (.own (av.map txD)) o4 o5 o6 o7 n).r [7], m⟩ fun s2 => dYes s2 fun b s3 => if b = true then dCallS 0 D_law_version dNil s3 fun y s4 => K y s4.n else Z s3.n := fun Z m hm K kk z => by
    refine ⟨rfl, (), rfl, by show m < 2 ^ 59; omega, ?_⟩
    rintro d n' ⟨e1, e2, p, hp, rfl⟩
    exact kk _ _ ⟨p, hp.G, rfl⟩ e1 e2
  refine lc_draw verP 30 (2 ^ 58) (rngD 3) [] n (by rw [rng_len]; omega) (fun z hz m hm K k => step _ m hm K k z) (fun z hz m hm K k Z => step Z m hm K k z) fun ys n' hl hy h1 h2 => ?_
  rw [rng_len] at hl h2
  obtain ⟨ps, rfl, hps⟩ := ver_list hy
  rw [List.length_map] at hl
  rw [List.nil_append]
  exact poD_ok (n := n') (by omega) hs hps (fun z => by rw [z] at hl; cases hl) hls (by omega) fun ps hp m m1 m2 => q ps hp m (by omega) (by omega)
def poX : TDS := dDrop (dExt 3 (dCall D_law_around (dCons (dVar 5) dNil)))
def poB : TDS := (dSeq (dFor (diL (dVar 1)) (gdName 4) (dFor (diT (dVar 4)) (gdName 5) poX)) poC)
theorem poB_go {cs : List Cl} {o4 o6 o7 : Sl} {D : DEnds} {n : Nat} (q : ∀ (av : List Pt) o5, (∀ p ∈ av, p.G) → av.length ≤ 100 → D.nx (pS cs (.own (av.map txD)) o4 o5 o6 o7 n)) :
    ∀ (l : List Cl) (av : List Pt) (o5 : Sl), (∀ c ∈ l, c.G) → (∀ p ∈ av, p.G) → av.length + 13 * l.length ≤ 100 →
    forGo (gdName 5) poX D (l.map Cl.d) (pS cs (.own (av.map txD)) o4 o5 o6 o7 n)
  | [], av, o5, _, hs, hl => q av o5 hs (by simp only [List.length_nil] at hl; omega)
  | c :: l, av, o5, hc, hs, hl => by
    rw [List.length_cons] at hl
    refine ⟨⟨_, rfl⟩, _, rfl, c, rfl, hc c List.mem_cons_self, ?_⟩
    rintro d n' ⟨rfl, ps, hps, hpl, rfl⟩
    have key := poB_go q l (av ++ ps) (.d c.d) (fun z hz => hc z (List.mem_cons_of_mem _ hz)) (fun p hp => (List.mem_append.mp hp).elim (hs p) (hps p)) (by rw [List.length_append]; omega)
    rw [List.map_append] at key
    exact ⟨av.map txD, ps.map txD, rfl, rfl, by rw [List.length_map, List.length_map, sizeLine_eq]; omega, key⟩
theorem poB_ok {cs : List Cl} {n : Nat} {Q : QN} {o4 o5 o6 o7 : Sl} {av : List Pt} (hc : ReqG cs) (hn : n < 2 ^ 57) (hs : ∀ p ∈ av, p.G) (hls : av.length ≤ 4) (q : ∀ ps : List Pt, PoolG ps → ∀ m, n ≤ m → m ≤ n + 200 → Q (.list (ps.map txD)) m) : poB (ends Q) (pS cs (.own (av.map txD)) o4 o5 o6 o7 n) := by
  have h4 := hc.1
  refine ⟨_, rfl, _, rfl, ?_⟩
  refine ⟨_, rfl, _, rfl, ?_⟩
  refine poB_go (cs := cs) (o4 := .d (clsD cs)) (n := n) (fun av' o5' g1 g2 => ?_) cs av o5 hc.2 hs (by omega)
  exact poC_ok hn g1 g2 q
def some4 : List Pt := [⟨0, [0], ⟨none, none, some 0⟩⟩, ⟨0, [1], plain⟩, ⟨0, [2, 0], ⟨some (0, 1), none, none⟩⟩, ⟨1, [0], plain⟩]
theorem some4_d : [PyData.str "0.dev0", .str "1", .str "2.0a1", .str "1!0"] = some4.map txD := by
  have e1 : Str.ofString "0.dev0" = (Pt.mk 0 [0] ⟨none, none, some 0⟩).tx := by decide +kernel
  have e2 : Str.ofString "1" = (Pt.mk 0 [1] plain).tx := by decide +kernel
  have e3 : Str.ofString "2.0a1" = (Pt.mk 0 [2, 0] ⟨some (0, 1), none, none⟩).tx := by decide +kernel
  have e4 : Str.ofString "1!0" = (Pt.mk 1 [0] plain).tx := by decide +kernel
  show [PyData.str (Str.ofString "0.dev0"), .str (Str.ofString "1"), .str (Str.ofString "2.0a1"), .str (Str.ofString "1!0")] = _
  rw [e1, e2, e3, e4]
  rfl
theorem some4_G : ∀ p ∈ some4, p.G := by
  intro p hp
  refine Pt.Sm.G ?_
  simp only [some4, List.mem_cons, List.not_mem_nil, or_false] at hp
  rcases hp with rfl | rfl | rfl | rfl
  · exact ⟨by decide, by decide, by decide, by decide, fun i n e => (nomatch e), fun n e => (nomatch e), fun n e => by cases e; decide⟩
  · exact ⟨by decide, by decide, by decide, by decide, fun i n e => (nomatch e), fun n e => (nomatch e), fun n e => (nomatch e)⟩
  · exact ⟨by decide, by decide, by decide, by decide, fun i n e => (by cases e; decide), fun n e => (nomatch e), fun n e => (nomatch e)⟩
  · exact ⟨by decide, by decide, by decide, by decide, fun i n e => (nomatch e), fun n e => (nomatch e), fun n e => (nomatch e)⟩
theorem wp_law_pool (ds : List PyData) (n : Nat) (Q : QN) (h : D_law_pool ds n Q) : td_law_pool D_law_key D_law_draw D_law_version D_law_around (ends Q) (entry true N_law_pool ds n) := by
  obtain ⟨cs, rfl, ⟨hc, hn⟩, q⟩ := h
  have hn : n < 2 ^ 56 := hn
  refine ⟨fit (by rfl), ?_⟩
  have key : ∀ l : List PyData, l = some4.map txD → poB (ends Q) (pS cs (.own l) .un .un .un .un n) := by
    rintro _ rfl
    exact poB_ok hc (by omega) some4_G (by decide) fun ps hp m m1 m2 => q _ _ ⟨m1, by show m ≤ n + 1000; omega, ps, hp, rfl⟩
  exact key _ some4_d
end V

set_option Elab.async false
set_option linter.all false
set_option maxRecDepth 100000
set_option maxHeartbeats 4000000
namespace V
open PySem PySem.Spec PyProof.Rows L2 DL
open PySem.W (alike alikeAll dataLt)
open TL (numL joinL tl)
/-! ### law -/
def lS (o2 o3 o4 o5 o6 o7 : Sl) (n : Nat) : DS := ⟨[.un, .st, o2, o3, o4, o5, o6, o7], n⟩
def lF : TDS := (dIfS (dAnd (dTest (dVar 4)) (dTest (dCall D_law_falls (dCons (dVar 3) (dCons (dSl (dVar 6) dNoPart (dPart (dVar 7))) (dCons (dSl (dVar 6) dNoPart (dPart (dOp addR (dVar 7) (dC (.int 1))))) dNil)))))) (dRet (dC (.bool false))) dNext)
theorem cut_rel (rs : List Rel) (k : Nat) : DL.cutD (rs.map relD) none (some (k : Int)) = (rs.take k).map relD := by rw [cut_to, List.map_take]
theorem lF_ok {D : DEnds} {cs : List Cl} {rs : List Rel} {o2 o5 : Sl} {n j : Nat} (hc : ReqG cs) (hr : RelG rs) (hj : j < rs.length) (q : D.nx (lS o2 (.d (clsD cs)) (.d (.bool (felt cs).isNone)) o5 (.d (relsD rs)) (.d (.int (j : Int))) n)) :
    lF D (lS o2 (.d (clsD cs)) (.d (.bool (felt cs).isNone)) o5 (.d (relsD rs)) (.d (.int (j : Int))) n) := by
  refine ⟨_, rfl, _, rfl, ?_⟩
  cases hf : (felt cs).isNone with
  | false =>
    rw [hf] at q
    exact onF rfl (onF rfl q)
  | true =>
    rw [hf] at q
    have hn : felt cs = none := Option.isNone_iff_eq_none.mp hf
    have e1 := cut_rel rs j
    have e2 : DL.cutD (rs.map relD) none (some ((j : Int) + 1)) = (rs.take (j + 1)).map relD := cut_rel rs (j + 1)
    have e3 : rs.take (j + 1) = rs.take j ++ [rs[j]] := (List.take_append_getElem hj).symm
    refine onT rfl ⟨_, rfl, _, rfl, _, rfl, _, rfl, _, rfl, _, rfl, _, rfl, (cs, rs.take j, rs.take (j + 1)), ?_, ⟨hc, ⟨fun v hv => hr.1 v (List.mem_of_mem_take hv), Nat.le_trans (List.length_take_le' _ _) hr.2⟩, ⟨fun v hv => hr.1 v (List.mem_of_mem_take hv), Nat.le_trans (List.length_take_le' _ _) hr.2⟩⟩, _, rfl, ?_⟩
    · show [clsD cs, PyData.tuple (DL.cutD (rs.map relD) none (some (j : Int))), PyData.tuple (DL.cutD (rs.map relD) none (some ((j : Int) + 1)))] = [clsD cs, relsD (rs.take j), relsD (rs.take (j + 1))]
      rw [e1, e2]
      rfl
    · refine onF ?_ q
      show falls cs (rs.take j) (rs.take (j + 1)) = false
      rw [e3]
      exact P.no_falls hc hn _ _
theorem lF_go {D : DEnds} {cs : List Cl} {rs : List Rel} {o2 o5 : Sl} {n : Nat} (hc : ReqG cs) (hr : RelG rs) (q : ∀ o7, D.nx (lS o2 (.d (clsD cs)) (.d (.bool (felt cs).isNone)) o5 (.d (relsD rs)) o7 n)) :
    ∀ (l : List PyData) (o7 : Sl), (∀ x ∈ l, ∃ j : Nat, j < rs.length ∧ x = .int (j : Int)) → forGo (gdName 7) lF D l (lS o2 (.d (clsD cs)) (.d (.bool (felt cs).isNone)) o5 (.d (relsD rs)) o7 n)
  | [], o7, _ => q o7
  | x :: l, o7, h => by
    obtain ⟨j, hj, rfl⟩ := h x List.mem_cons_self
    exact lF_ok (D := { D with nx := forGo (gdName 7) lF D l, ct := forGo (gdName 7) lF D l, bk := D.nx }) hc hr hj (lF_go hc hr q l _ fun z hz => h z (List.mem_cons_of_mem _ hz))
theorem rng_mem {m : Nat} : ∀ x ∈ rngD m, ∃ j : Nat, j < m ∧ x = .int (j : Int) := fun x hx => by
  unfold rngD at hx
  obtain ⟨j, hj, rfl⟩ := List.mem_map.mp hx
  exact ⟨j, List.mem_range.mp hj, rfl⟩
def lE : TDS := (dSeq (dAsg (dCallS 1 D_law_releases (dCons (dC (.int 25)) (dCons (dCallS 1 D_law_pool (dCons (dLst (dCons (dVar 3) dNil)) (dCons (dC (.int 25)) dNil))) dNil))) (gdName 6))
  (dFor (diRng (dCons (dCB lenR (dCons (dVar 6) dNil)) dNil)) (gdName 7) lF))
theorem lE_ok {D : DEnds} {cs : List Cl} {o2 o5 o6 o7 : Sl} {n : Nat} (hc : ReqG cs) (hn : n < 2 ^ 55) (q : ∀ o6 o7 m, n ≤ m → m ≤ n + 3000 → D.nx (lS o2 (.d (clsD cs)) (.d (.bool (felt cs).isNone)) o5 o6 o7 m)) :
    lE D (lS o2 (.d (clsD cs)) (.d (.bool (felt cs).isNone)) o5 o6 o7 n) := by
  refine ⟨rfl, rfl, _, rfl, fit (by rfl), cs, rfl, ⟨hc, by show n < 2 ^ 56; omega⟩, ?_⟩
  rintro d n1 ⟨e1, e2, ps, hp, rfl⟩
  have e1' : n ≤ n1 := e1
  have e2' : n1 ≤ n + 1000 := e2
  refine ⟨(25, ps), rfl, ⟨by show 25 ≤ 25; decide, hp, by show n1 < 2 ^ 57; omega⟩, ?_⟩
  rintro d n2 ⟨e3, e4, rs, hr, hl, rfl⟩
  have e3' : n1 ≤ n2 := e3
  have e4' : n2 ≤ n1 + 2000 := e4
  refine ⟨_, rfl, _, rfl, ?_⟩
  refine ⟨by omega, by rw [List.length_map]; omega, ?_⟩
  have et : (((rs.map relD).length : Nat) : Int).toNat = rs.length := by rw [Int.toNat_natCast, List.length_map]
  rw [et]
  exact lF_go (n := n2) hc hr (fun o7 => q _ o7 n2 (by omega) (by omega)) _ _ rng_mem
def lP : TDS := (dSeq (dIfS (dAnd (dTest (dOp isntR (dVar 5) (dC .none))) (dNot (dTest (dCall D_law_pair_right (dCons (dVar 3) (dCons (dVar 5) dNil)))))) (dRet (dC (.bool false))) dNext) lE)
theorem lP_ok {D : DEnds} {cs : List Cl} {o2 o6 o7 : Sl} {n : Nat} (hc : ReqG cs) (hn : n < 2 ^ 55) (q : ∀ o5 o6 o7 m, n ≤ m → m ≤ n + 3000 → D.nx (lS o2 (.d (clsD cs)) (.d (.bool (felt cs).isNone)) o5 o6 o7 m)) :
    lP D (lS o2 (.d (clsD cs)) (.d (.bool (felt cs).isNone)) (.d (feltD (felt cs))) o6 o7 n) := by
  have rest := lE_ok (D := D) (o2 := o2) (o5 := .d (feltD (felt cs))) (o6 := o6) (o7 := o7) hc hn (q _)
  refine ⟨_, rfl, rfl, _, rfl, ?_⟩
  cases hf : felt cs with
  | none =>
    rw [hf] at rest
    exact onF rfl (onF rfl rest)
  | some z =>
    rw [hf] at rest
    obtain ⟨f1, f2⟩ := P.does_fall hc hf
    refine onT rfl ⟨_, rfl, _, rfl, (cs, z), rfl, ⟨hc, hf, f2⟩, _, rfl, ?_⟩
    refine onF ?_ rest
    show (!falls cs [(z.2.pt, false)] [(z.2.pt, false), (z.1.pt, false)]) = false
    rw [f1]
    rfl
def lC : TDS := (dSeq (dIfS (dOr (dTest (dOp neR (dCB reprR (dCons (dVar 4) dNil)) (dCB reprR (dCons (dOp isR (dVar 5) (dC .none)) dNil)))) (dAnd (dTest (dCall D_law_names (dCons (dVar 3) dNil))) (dNot (dTest (dVar 4))))) (dRet (dC (.bool false))) dNext) lP)
theorem felt_isNone (o : Option (Ky × Ky)) : DL.isNone (feltD o) = o.isNone := by cases o <;> rfl
theorem lC_ok {D : DEnds} {cs : List Cl} {o2 o6 o7 : Sl} {n : Nat} (hc : ReqG cs) (hn : n < 2 ^ 55) (q : ∀ o5 o6 o7 m, n ≤ m → m ≤ n + 3000 → D.nx (lS o2 (.d (clsD cs)) (.d (.bool (felt cs).isNone)) o5 o6 o7 m)) :
    lC D (lS o2 (.d (clsD cs)) (.d (.bool (felt cs).isNone)) (.d (feltD (felt cs))) o6 o7 n) := by
  have rest := lP_ok (o6 := o6) (o7 := o7) hc hn q
  have sb : ∀ b : Bool, nested (.bool b) = true ∧ (PyData.bool b).showable = true ∧ (PyData.bool b).depth ≤ 50 ∧ (PyData.bool b).shown.length ≤ sizeLine := fun b => ⟨rfl, rfl, by simp [PyData.depth], by have := (sh_bool b).ln; rw [sizeLine_eq]; omega⟩
  obtain ⟨b1, b2, b3, b4⟩ := sb (felt cs).isNone
  have e : PyData.eqv (.str (PyData.bool (felt cs).isNone).shown) (.str (PyData.bool (felt cs).isNone).shown) = true := by
    generalize (PyData.bool (felt cs).isNone).shown = S
    have e : S = tx (tl S) := TL.ext_tl rfl
    rw [e, eqv_tx]
    simp
  refine ⟨_, rfl, _, rfl, b1, b2, b3, b4, _, rfl, rfl, PyData.bool (felt cs).isNone, congrArg (fun b => [PyData.bool b]) (felt_isNone _), b1, b2, b3, b4, (sh_bool _).shaped, (sh_bool _).shaped, false, congrArg PyData.bool (congrArg (!·) e), ?_⟩
  refine onF rfl ⟨_, rfl, cs, rfl, hc, _, rfl, ?_⟩
  cases hn : naming cs with
  | false => exact onF rfl (onF rfl rest)
  | true =>
    refine onT rfl ⟨_, rfl, _, rfl, onF ?_ rest⟩
    rw [P.felt_naming hn]
    rfl
def lB : TDS := (dSeq (dAsg (dCallS 1 D_law_requirement (dCons (dC (.int 4)) dNil)) (gdName 3))
  (dSeq (dPar 4 5 (dCall D_is_rising (dCons (dVar 3) dNil)) (dCall D_falling (dCons (dVar 3) dNil))) lC))
theorem lB_ok {D : DEnds} {o2 o3 o4 o5 o6 o7 : Sl} {n : Nat} (hn : n < 2 ^ 54) (q : ∀ o3 o4 o5 o6 o7 m, n ≤ m → m ≤ n + 4000 → D.nx (lS o2 o3 o4 o5 o6 o7 m)) :
    lB D (lS o2 o3 o4 o5 o6 o7 n) := by
  refine ⟨rfl, 4, rfl, ⟨by decide, by show n < 2 ^ 57; omega⟩, ?_⟩
  rintro d n1 ⟨e1, e2, cs, hc, rfl⟩
  have e1' : n ≤ n1 := e1
  have e2' : n1 ≤ n + 1000 := e2
  refine ⟨_, rfl, cs, rfl, hc, _, rfl, cs, rfl, hc, ?_⟩
  exact lC_ok (n := n1) (o2 := o2) (o6 := o6) (o7 := o7) hc (by omega) fun o5 o6 o7 m m1 m2 => q _ _ o5 o6 o7 m (by omega) (by omega)
theorem lB_go {D : DEnds} {N : Nat} (hN : N < 2 ^ 54) (q : ∀ o2 o3 o4 o5 o6 o7 m, D.nx (lS o2 o3 o4 o5 o6 o7 m)) : ∀ (l : List PyData) (o2 o3 o4 o5 o6 o7 : Sl) (n : Nat), n + 4000 * l.length ≤ N → forGo (gdName 2) lB D l (lS o2 o3 o4 o5 o6 o7 n)
  | [], o2, o3, o4, o5, o6, o7, n, _ => q o2 o3 o4 o5 o6 o7 n
  | x :: l, o2, o3, o4, o5, o6, o7, n, h => by
    rw [List.length_cons, Nat.mul_add] at h
    exact lB_ok (D := { D with nx := forGo (gdName 2) lB D l, ct := forGo (gdName 2) lB D l, bk := D.nx }) (n := n) (o2 := .d x) (o3 := o3) (o4 := o4) (o5 := o5) (o6 := o6) (o7 := o7) (by omega) fun o3 o4 o5 o6 o7 m m1 m2 => lB_go hN q l _ o3 o4 o5 o6 o7 m (by omega)
theorem wp_law : td_law D_law_requirement D_is_rising D_falling D_law_names D_law_pair_right D_law_releases D_law_pool D_law_falls lawEnds lawEntry := by
  refine ⟨3, rfl, by omega, by omega, ?_⟩
  exact lB_go (N := 12000) (by omega) (fun _ _ _ _ _ _ _ => rfl) (rngD 3) _ _ _ _ _ _ 0 (by rw [rng_len]; omega)
end V

set_option Elab.async false
set_option linter.all false
set_option maxRecDepth 100000
set_option maxHeartbeats 4000000
namespace V
open PySem PySem.Spec PyProof.Rows L2 DL
/-! ### every def keeps its promise -/
section
variable {P : Program} {w : World} {K : PySem.W.Frag} {mg : Str → Option Value} {base : Heap}
theorem c_law_mixed (T : Txt K mg) : Okd P w K mg base 1 "_law_mixed" ["cell", "k"] false 2 D_mixed := ok_law_mixed T  wp_law_mixed
theorem c_law_draw (T : Txt K mg) : Okd P w K mg base 2 "_law_draw" ["state", "many"] true 1 D_law_draw := ok_law_draw T (c_law_mixed T)
theorem c_number_at (T : Txt K mg) : Okd P w K mg base 1 "number_at" ["text", "at"] false 2 D_number_at := ok_number_at T  wp_number_at
theorem c_based (T : Txt K mg) : Okd P w K mg base 1 "based" ["numbers"] false 1 D_based := ok_based T  wp_based
theorem c_tail_of (T : Txt K mg) : Okd P w K mg base 1 "tail_of" ["ahead", "post", "dev"] false 3 D_tail_of := ok_tail_of T  wp_tail_of
theorem c_split_tail (T : Txt K mg) : Okd P w K mg base 1 "split_tail" ["tail"] false 1 D_split_tail := ok_split_tail T  wp_split_tail
theorem c_is_plain (T : Txt K mg) : Okd P w K mg base 1 "is_plain" ["parts"] false 1 D_is_plain := ok_is_plain T  wp_is_plain
theorem c_is_small (T : Txt K mg) : Okd P w K mg base 1 "is_small" ["parts"] false 1 D_is_small := ok_is_small T  wp_is_small
theorem c_outside (T : Txt K mg) : Okd P w K mg base 1 "outside" ["low", "high"] false 2 D_outside := ok_outside T  wp_outside
theorem c_bounded_spans (T : Txt K mg) : Okd P w K mg base 1 "bounded_spans" ["sign", "key"] false 2 D_bounded_spans := ok_bounded_spans T  wp_bounded_spans
theorem c_lesser_end (T : Txt K mg) : Okd P w K mg base 1 "lesser_end" ["one", "other"] false 2 D_lesser_end := ok_lesser_end T  wp_lesser_end
theorem c_is_after (T : Txt K mg) : Okd P w K mg base 1 "is_after" ["cut"] false 1 D_is_after := ok_is_after T  wp_is_after
theorem c_within (T : Txt K mg) : Okd P w K mg base 1 "within" ["base", "number"] false 2 D_within := ok_within T  wp_within
theorem c_law_parts (T : Txt K mg) : Okd P w K mg base 1 "_law_parts" ["text"] false 1 D_law_parts := ok_law_parts T  wp_law_parts
theorem c_law_base (T : Txt K mg) : Okd P w K mg base 1 "_law_base" ["parts"] false 1 D_law_base := ok_law_base T  wp_law_base
theorem c_law_text (T : Txt K mg) : Okd P w K mg base 1 "_law_text" ["epoch", "numbers", "fore", "post", "dev"] false 5 D_law_text := ok_law_text T  wp_law_text
theorem c_law_in_block (T : Txt K mg) : Okd P w K mg base 1 "_law_in_block" ["parts", "numbers", "epoch"] false 3 D_law_in_block := ok_law_in_block T  wp_law_in_block
theorem c_numbers_at (T : Txt K mg) : Okd P w K mg base 2 "numbers_at" ["text", "at"] false 2 D_numbers_at := ok_numbers_at T pm_number_at (c_number_at T) wp_numbers_at
theorem c_word_at (T : Txt K mg) : Okd P w K mg base 2 "word_at" ["text", "at", "words"] false 3 D_word_at := ok_word_at T pm_number_at (c_number_at T) wp_word_at
theorem c_key_from (T : Txt K mg) : Okd P w K mg base 2 "key_from" ["parts"] false 1 D_key_from := ok_key_from T pm_tail_of (c_tail_of T) pm_based (c_based T) wp_key_from
theorem c_text_of (T : Txt K mg) : Okd P w K mg base 2 "text_of" ["key"] false 1 D_text_of := ok_text_of T pm_split_tail (c_split_tail T) wp_text_of
theorem c_following_key (T : Txt K mg) : Okd P w K mg base 2 "following_key" ["key"] false 1 D_following_key := ok_following_key T pm_split_tail (c_split_tail T) pm_tail_of (c_tail_of T) wp_following_key
theorem c_is_final_key (T : Txt K mg) : Okd P w K mg base 2 "is_final_key" ["key"] false 1 D_is_final_key := ok_is_final_key T pm_split_tail (c_split_tail T) wp_is_final_key
theorem c_numbers_cuts (T : Txt K mg) : Okd P w K mg base 2 "numbers_cuts" ["epoch", "numbers"] false 2 D_numbers_cuts := ok_numbers_cuts T pm_based (c_based T) wp_numbers_cuts
theorem c_meet (T : Txt K mg) : Okd P w K mg base 2 "meet" ["one", "other"] false 2 D_meet := ok_meet T pm_lesser_end (c_lesser_end T) wp_meet
theorem c_nearer (T : Txt K mg) : Okd P w K mg base 2 "nearer" ["cut", "bound"] false 2 D_nearer := ok_nearer T pm_within (c_within T) wp_nearer
theorem c_law_key (T : Txt K mg) : Okd P w K mg base 2 "_law_key" ["text"] false 1 D_law_key := ok_law_key T pm_law_parts (c_law_parts T) pm_law_base (c_law_base T) wp_law_key
theorem c_law_is_forerunner (T : Txt K mg) : Okd P w K mg base 2 "_law_is_forerunner" ["text"] false 1 D_law_is_forerunner := ok_law_is_forerunner T pm_law_parts (c_law_parts T) wp_law_is_forerunner
theorem c_law_around (T : Txt K mg) : Okd P w K mg base 2 "_law_around" ["clause"] false 1 D_law_around := ok_law_around T pm_law_parts (c_law_parts T) pm_law_text (c_law_text T) wp_law_around
theorem c_tail_at (T : Txt K mg) : Okd P w K mg base 3 "tail_at" ["text", "at"] false 2 D_tail_at := ok_tail_at T pm_word_at (c_word_at T) wp_tail_at
theorem c_next_final (T : Txt K mg) : Okd P w K mg base 3 "next_final" ["key"] false 1 D_next_final := ok_next_final T pm_is_final_key (c_is_final_key T) wp_next_final
theorem c_next_forerunner (T : Txt K mg) : Okd P w K mg base 3 "next_forerunner" ["key"] false 1 D_next_forerunner := ok_next_forerunner T pm_is_final_key (c_is_final_key T) pm_following_key (c_following_key T) wp_next_forerunner
theorem c_lesser_forerunner (T : Txt K mg) : Okd P w K mg base 3 "lesser_forerunner" ["cut", "bound"] false 2 D_lesser_forerunner := ok_lesser_forerunner T pm_nearer (c_nearer T) fun _ _ _ h => h.elim
theorem c_shown (T : Txt K mg) : Okd P w K mg base 3 "shown" ["keys"] false 1 D_shown := ok_shown T pm_text_of (c_text_of T) wp_shown
theorem c_law_clause_lets (T : Txt K mg) : Okd P w K mg base 3 "_law_clause_lets" ["clause", "version"] false 2 D_law_clause_lets := ok_law_clause_lets T pm_law_key (c_law_key T) pm_law_parts (c_law_parts T) pm_law_in_block (c_law_in_block T) pm_law_base (c_law_base T) wp_law_clause_lets
theorem c_law_names (T : Txt K mg) : Okd P w K mg base 3 "_law_names" ["requirement"] false 1 D_law_names := ok_law_names T pm_law_is_forerunner (c_law_is_forerunner T) wp_law_names
theorem c_law_pins (T : Txt K mg) : Okd P w K mg base 3 "_law_pins" ["requirement", "version"] false 2 D_law_pins := ok_law_pins T pm_law_key (c_law_key T) wp_law_pins
theorem c_law_version (T : Txt K mg) : Okd P w K mg base 3 "_law_version" ["state"] true 0 D_law_version := ok_law_version T pm_law_draw (c_law_draw T) pm_law_text (c_law_text T) wp_law_version
theorem c_law_plain (T : Txt K mg) : Okd P w K mg base 3 "_law_plain" ["state"] true 0 D_law_plain := ok_law_plain T pm_law_draw (c_law_draw T) pm_law_text (c_law_text T) wp_law_plain
theorem c_parts_of (T : Txt K mg) : Okd P w K mg base 4 "parts_of" ["thing"] false 1 D_parts_of := ok_parts_of T pm_number_at (c_number_at T) pm_numbers_at (c_numbers_at T) pm_tail_at (c_tail_at T) wp_parts_of
theorem c_first_in (T : Txt K mg) : Okd P w K mg base 4 "first_in" ["span", "is_final"] false 2 D_first_in := ok_first_in T pm_is_after (c_is_after T) pm_nearer (c_nearer T) pm_following_key (c_following_key T) pm_next_final (c_next_final T) pm_next_forerunner (c_next_forerunner T) wp_first_in
theorem c_law_lets (T : Txt K mg) : Okd P w K mg base 4 "_law_lets" ["requirement", "version"] false 2 D_law_lets := ok_law_lets T pm_law_clause_lets (c_law_clause_lets T) wp_law_lets
theorem c_law_clause (T : Txt K mg) : Okd P w K mg base 4 "_law_clause" ["state"] true 0 D_law_clause := ok_law_clause T pm_law_draw (c_law_draw T) pm_law_version (c_law_version T) pm_law_plain (c_law_plain T) pm_law_parts (c_law_parts T) pm_law_text (c_law_text T) wp_law_clause
theorem c_law_releases (T : Txt K mg) : Okd P w K mg base 4 "_law_releases" ["state", "most", "some"] true 2 D_law_releases := ok_law_releases T pm_law_draw (c_law_draw T) pm_law_version (c_law_version T) pm_law_key (c_law_key T) wp_law_releases
theorem c_key_of (T : Txt K mg) : Okd P w K mg base 5 "key_of" ["version"] false 1 D_key_of := ok_key_of T pm_key_from (c_key_from T) pm_parts_of (c_parts_of T) wp_key_of
theorem c_numbers_of (T : Txt K mg) : Okd P w K mg base 5 "numbers_of" ["version"] false 1 D_numbers_of := ok_numbers_of T pm_parts_of (c_parts_of T) wp_numbers_of
theorem c_is_version (T : Txt K mg) : Okd P w K mg base 5 "is_version" ["thing"] false 1 D_is_version := ok_is_version T pm_parts_of (c_parts_of T) wp_is_version
theorem c_is_clause (T : Txt K mg) : Okd P w K mg base 5 "is_clause" ["thing"] false 1 D_is_clause := ok_is_clause T pm_parts_of (c_parts_of T) pm_is_small (c_is_small T) pm_is_plain (c_is_plain T) wp_is_clause
theorem c_above (T : Txt K mg) : Okd P w K mg base 5 "above" ["span", "bound", "is_final"] false 3 D_above := ok_above T pm_following_key (c_following_key T) pm_first_in (c_first_in T) wp_above
theorem c_pair_behind (T : Txt K mg) : Okd P w K mg base 5 "pair_behind" ["span", "is_final", "upper", "is_upper_final"] false 4 D_pair_behind := ok_pair_behind T pm_first_in (c_first_in T) pm_nearer (c_nearer T) pm_lesser_forerunner (c_lesser_forerunner T) wp_pair_behind
theorem c_law_pick (T : Txt K mg) : Okd P w K mg base 5 "_law_pick" ["requirement", "releases"] false 2 D_law_pick := ok_law_pick T pm_law_pins (c_law_pins T) pm_law_key (c_law_key T) pm_law_lets (c_law_lets T) pm_law_is_forerunner (c_law_is_forerunner T) pm_law_names (c_law_names T) wp_law_pick
theorem c_law_requirement (T : Txt K mg) : Okd P w K mg base 5 "_law_requirement" ["state", "most"] true 1 D_law_requirement := ok_law_requirement T pm_law_draw (c_law_draw T) pm_law_clause (c_law_clause T) wp_law_requirement
theorem c_law_pool (T : Txt K mg) : OkdG P w K mg base 5 "_law_pool" ["state", "requirements", "most"] true 2 D_law_pool := ok_law_pool T pm_law_key (c_law_key T) pm_law_draw (c_law_draw T) pm_law_version (c_law_version T) pm_law_around (c_law_around T) wp_law_pool
theorem c_need_requirement (T : Txt K mg) : Okd P w K mg base 6 "need_requirement" ["thing"] false 1 D_need_requirement := ok_need_requirement T pm_is_clause (c_is_clause T) wp_need_requirement
theorem c_names_of (T : Txt K mg) : Okd P w K mg base 6 "names_of" ["requirement"] false 1 D_names_of := ok_names_of T pm_is_final_key (c_is_final_key T) pm_key_of (c_key_of T) wp_names_of
theorem c_block_cuts (T : Txt K mg) : Okd P w K mg base 6 "block_cuts" ["text"] false 1 D_block_cuts := ok_block_cuts T pm_numbers_of (c_numbers_of T) pm_numbers_cuts (c_numbers_cuts T) wp_block_cuts
theorem c_is_release (T : Txt K mg) : Okd P w K mg base 6 "is_release" ["thing"] false 1 D_is_release := ok_is_release T pm_is_version (c_is_version T) wp_is_release
theorem c_pair_above (T : Txt K mg) : Okd P w K mg base 6 "pair_above" ["lower", "is_final", "upper", "is_upper_final"] false 4 D_pair_above := ok_pair_above T pm_is_after (c_is_after T) pm_pair_behind (c_pair_behind T) pm_first_in (c_first_in T) pm_above (c_above T) wp_pair_above
theorem c_law_falls (T : Txt K mg) : Okd P w K mg base 6 "_law_falls" ["requirement", "releases", "longer"] false 3 D_law_falls := ok_law_falls T pm_law_pick (c_law_pick T) pm_law_key (c_law_key T) wp_law_falls
theorem c_clause_spans (T : Txt K mg) : Okd P w K mg base 7 "clause_spans" ["clause"] false 1 D_clause_spans := ok_clause_spans T pm_block_cuts (c_block_cuts T) pm_outside (c_outside T) pm_key_of (c_key_of T) pm_bounded_spans (c_bounded_spans T) pm_numbers_of (c_numbers_of T) pm_numbers_cuts (c_numbers_cuts T) pm_following_key (c_following_key T) wp_clause_spans
theorem c_need_releases (T : Txt K mg) : Okd P w K mg base 7 "need_releases" ["thing"] false 1 D_need_releases := ok_need_releases T pm_is_release (c_is_release T) pm_key_of (c_key_of T) wp_need_releases
theorem c_is_naming_felt (T : Txt K mg) : Okd P w K mg base 7 "is_naming_felt" ["spans"] false 1 D_is_naming_felt := ok_is_naming_felt T pm_pair_above (c_pair_above T) wp_is_naming_felt
theorem c_spans_of (T : Txt K mg) : Okd P w K mg base 8 "spans_of" ["requirement"] false 1 D_spans_of := ok_spans_of T pm_meet (c_meet T) pm_clause_spans (c_clause_spans T) wp_spans_of
theorem c_falling (T : Txt K mg) : Okd P w K mg base 9 "falling" ["requirement"] false 1 D_falling := ok_falling T pm_is_naming_felt (c_is_naming_felt T) pm_spans_of (c_spans_of T) pm_need_requirement (c_need_requirement T) pm_names_of (c_names_of T) pm_shown (c_shown T) wp_falling
theorem c_is_rising (T : Txt K mg) : Okd P w K mg base 10 "is_rising" ["requirement"] false 1 D_is_rising := ok_is_rising T pm_falling (c_falling T) wp_is_rising
theorem c_law_pair_right (T : Txt K mg) : OkdG P w K mg base 10 "_law_pair_right" ["requirement", "found"] false 2 D_law_pair_right := ok_law_pair_right T pm_need_releases (c_need_releases T) pm_falling (c_falling T) pm_law_falls (c_law_falls T) wp_law_pair_right
theorem c_law (T : Txt K mg) {fd : FuncData} (Fd : FnP K "law" Hd.s_law (He.ga K "law") fd) : FnG P w K mg base CX0 11 (He.ga K "law") fd ["script"] (spLaw K) := ok_law T pm_law_requirement (c_law_requirement T) pm_is_rising (c_is_rising T) pm_falling (c_falling T) pm_law_names (c_law_names T) pm_law_pair_right (c_law_pair_right T) pm_law_releases (c_law_releases T) pm_law_pool (c_law_pool T) pm_law_falls (c_law_falls T) wp_law Fd
end
theorem facts {P : Program} {w : World} {K : PySem.W.Frag} {h : Heap} {mg : Str → Option Value} {f : Addr} (T : Txt K mg) (hfa : mg ("law" : Str) = some (.ref f)) :
    ∃ fd : FuncData, (∀ (s : Shared) (v : Value), BindsTo s fd ⟨[v], []⟩ [("script", v)]) ∧ ∀ base : Heap, K.In base → base.Ns mainGlobals mg → FnG P w K mg base CX0 11 f fd ["script"] (spLaw K) := by
  obtain ⟨hm, fd, Fd⟩ := T.fn 68 "law" Hd.s_law rfl
  have e := hfa.symm.trans hm
  cases e
  have bA := FunD.bindsA (ps := ["script"]) Fd fun _ _ _ _ _ _ us hl => match us, hl with | [_], _ => rfl
  exact ⟨fd, fun s v => bA s [v] rfl, fun base _ _ => c_law T Fd⟩
end V
open PySem PySem.W PySem.Calls PyProof.Rows
theorem PySem.Challenge.cw_pickedrelease_k24_whole_rising_holds : PySem.Challenge.rw_pickedrelease_k24_whole_rising.Holds := by
  w_on; o_law
  refine HandSHeadRun.head_any (r := OpenLaw.row PySem.Challenge.rw_pickedrelease_k24_whole_rising) (q := view (OpenLaw.row PySem.Challenge.rw_pickedrelease_k24_whole_rising).prog [96]) (H := Hd.hk 4) (ob := Hd.ob) (M := 6000) (loose := Hd.loose) (d := HandSHeadRun.topDef (OpenLaw.row PySem.Challenge.rw_pickedrelease_k24_whole_rising).prog 96) (kwd := []) Hd.ob_eq
    (by kernel_rfl) (fun s => by kernel_rfl) Hd.run (by kernel_rfl) (by kernel_rfl) (by kernel_rfl) (by rfl) (by first | assumption | decide +kernel) (by decide +kernel) ⟨rfl, rfl, rfl, rfl, rfl, by decide +kernel⟩ ?hw ?hc
  case hw => w_witness2
  case hc =>
    refine L2.walk_ofEG (l := PySem.Challenge.rw_pickedrelease_k24_whole_rising) (n := 63) (k := 11) (x := "script") (CX := L2.CX0) rfl (by decide) (by kernel_rfl) ⟨rfl, by decide, by decide⟩ ?F (fun _ _ _ _ z => z)
    intro w mg fa h Y G hmg0
    obtain ⟨K, KX, c, e⟩ := Y
    have hmg : mg ("law" : PySem.Str) = some (.ref fa) := by
      have e : (HandSHeadRun.topDef (OpenLaw.row PySem.Challenge.rw_pickedrelease_k24_whole_rising).prog 96).name = ("law" : PySem.Str) := by kernel_rfl
      rw [← e]
      exact hmg0
    obtain ⟨fd, hb, hF⟩ := V.facts (P := (PySem.Challenge.rw_pickedrelease_k24_whole_rising).prog) (w := w) (h := h) (V.txt_of KX G c e) hmg
    exact ⟨K, fd, V.spLaw K, KX, hb, fun H a ns hl _ hS => ⟨a, ns, rfl, hS, hl, fun _ => rfl⟩, hF⟩

