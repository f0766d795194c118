import PyProof.Rows.All
import Wide.All
import OpenK.AllK
import Wide.FinOn
import KE.KStateDown
import HandS.Base
import HandS.Call
import HandS.Ends
import HandS.More
import HandS.Words
import HandS.WordsExc
import HandS.Defaults
import HandS.Head0
import HandS.Head1
import HandS.Head2
import HandS.HeadEnd
import HandS.HeadHook1
import HandS.HeadHook2
import HandS.HeadHook3
import HandS.HeadHook4
import KE.KLam
import KE.KeyNested
import KE.KDictKeyed
import HandS.List
import HandS.Comp
import HandS.Text
import HandS.Exc
import HandS.Codes
import HandS.TryOnly
import HandS.Lambda
import HandS.Dict
import HandS.DictComp
import KE.KDictSum
import KE.SortData
import KE.SortKeyHeap
import PyProof.Rows.CallKwBuiltin
import PyProof.TupleOfSeq
import HandS.Iter
import HandS.SortKw
import HandS.Zip
import KE.GoesEnum
import KE.KDictZip
import HandS.Conv
import HandS.Style
import HandS.Deep
import HandS.IsInst
import HandS.TupAny
import PyProof.Rows.TupDisplay
import PyProof.WalkInts
import KE.KRevSl
import KE.KDictCopyH
import KE.KEqDict
import HandS.Sort
import PyProof.Rows.SumGenD
import HandS.Wide
import HandS.HeadWalk
import PySem.Challenge.RW_laytogether_k63_across_games
/-! ## LtHead -/
set_option Elab.async false
set_option linter.all false
set_option maxRecDepth 100000
set_option maxHeartbeats 0
namespace LT
open PySem PySem.Spec PyProof.Rows L2
def top (i : Nat) : Stmt := PySem.Challenge.pw_laytogether_k63_across_games.main.body.getD i (.Pass ⟨0, 0, 0, 0⟩)
abbrev s_whole : Stmt := top 12
abbrev s_within : Stmt := top 13
abbrev s_need_number : Stmt := top 14
abbrev s_tuple_of : Stmt := top 15
abbrev s_is_row : Stmt := top 16
abbrev s_bad_row : Stmt := top 17
abbrev s_need_table : Stmt := top 18
abbrev s_is_table : Stmt := top 19
abbrev s_is_order : Stmt := top 20
abbrev s_need_order : Stmt := top 21
abbrev s_need_like : Stmt := top 22
abbrev s_is_over_row : Stmt := top 24
abbrev s_are_at_odds : Stmt := top 25
abbrev s_odds_of : Stmt := top 26
abbrev s_count_at_odds : Stmt := top 27
abbrev s_is_tower : Stmt := top 28
abbrev s_crowd_of : Stmt := top 31
abbrev s_crowd : Stmt := top 32
abbrev s_laid : Stmt := top 33
abbrev s_nexts_of : Stmt := top 34
abbrev s_next_crowds : Stmt := top 35
abbrev s_tower_of : Stmt := top 36
abbrev s_tower : Stmt := top 37
abbrev s_spread : Stmt := top 38
abbrev s_least_deeds : Stmt := top 39
abbrev s_most_deeds : Stmt := top 40
abbrev s_is_row_of_deeds : Stmt := top 41
abbrev s_steps_of : Stmt := top 43
abbrev s_worths_of : Stmt := top 45
abbrev s_worth : Stmt := top 46
abbrev s_first_wins : Stmt := top 47
abbrev s_winning_next : Stmt := top 48
abbrev s_lengths_of : Stmt := top 49
abbrev s_game_length : Stmt := top 50
abbrev s_best_play : Stmt := top 51
abbrev s_shows_play : Stmt := top 52
abbrev s_both_games : Stmt := top 53
abbrev s_first_chance : Stmt := top 54
abbrev s_lowest : Stmt := top 55
abbrev s_deeds_left : Stmt := top 56
abbrev s_few : Stmt := top 57
abbrev s_is_down : Stmt := top 59
abbrev s_is_written : Stmt := top 60
abbrev s_shows_to_tower : Stmt := top 61
abbrev s_need_goods_order : Stmt := top 63
abbrev s_goods_in_order : Stmt := top 64
abbrev s_people_in_order : Stmt := top 65
abbrev s__law_taken : Stmt := top 67
abbrev s__law_pick : Stmt := top 68
abbrev s__law_table : Stmt := top 69
abbrev s__law_unlike : Stmt := top 70
abbrev s_law : Stmt := top 71
abbrev FnP (K : PySem.W.Frag) (x : Str) (st : Stmt) (f : Addr) (fd : FuncData) : Prop := FunD K x x (defArgs st) (defBody st) (defScope st) [] [] f fd
def d_whole : He.DefD := ⟨("whole", none), "whole", "whole", defArgs s_whole, defBody s_whole, defScope s_whole, [], []⟩
def d_within : He.DefD := ⟨("within", none), "within", "within", defArgs s_within, defBody s_within, defScope s_within, [], []⟩
def d_need_number : He.DefD := ⟨("need_number", none), "need_number", "need_number", defArgs s_need_number, defBody s_need_number, defScope s_need_number, [], []⟩
def d_tuple_of : He.DefD := ⟨("tuple_of", none), "tuple_of", "tuple_of", defArgs s_tuple_of, defBody s_tuple_of, defScope s_tuple_of, [], []⟩
def d_is_row : He.DefD := ⟨("is_row", none), "is_row", "is_row", defArgs s_is_row, defBody s_is_row, defScope s_is_row, [], []⟩
def d_bad_row : He.DefD := ⟨("bad_row", none), "bad_row", "bad_row", defArgs s_bad_row, defBody s_bad_row, defScope s_bad_row, [], []⟩
def d_need_table : He.DefD := ⟨("need_table", none), "need_table", "need_table", defArgs s_need_table, defBody s_need_table, defScope s_need_table, [], []⟩
def d_is_table : He.DefD := ⟨("is_table", none), "is_table", "is_table", defArgs s_is_table, defBody s_is_table, defScope s_is_table, [], []⟩
def d_is_order : He.DefD := ⟨("is_order", none), "is_order", "is_order", defArgs s_is_order, defBody s_is_order, defScope s_is_order, [], []⟩
def d_need_order : He.DefD := ⟨("need_order", none), "need_order", "need_order", defArgs s_need_order, defBody s_need_order, defScope s_need_order, [], []⟩
def d_need_like : He.DefD := ⟨("need_like", none), "need_like", "need_like", defArgs s_need_like, defBody s_need_like, defScope s_need_like, [], []⟩
def d_is_over_row : He.DefD := ⟨("is_over_row", none), "is_over_row", "is_over_row", defArgs s_is_over_row, defBody s_is_over_row, defScope s_is_over_row, [], []⟩
def d_are_at_odds : He.DefD := ⟨("are_at_odds", none), "are_at_odds", "are_at_odds", defArgs s_are_at_odds, defBody s_are_at_odds, defScope s_are_at_odds, [], []⟩
def d_odds_of : He.DefD := ⟨("odds_of", none), "odds_of", "odds_of", defArgs s_odds_of, defBody s_odds_of, defScope s_odds_of, [], []⟩
def d_count_at_odds : He.DefD := ⟨("count_at_odds", none), "count_at_odds", "count_at_odds", defArgs s_count_at_odds, defBody s_count_at_odds, defScope s_count_at_odds, [], []⟩
def d_is_tower : He.DefD := ⟨("is_tower", none), "is_tower", "is_tower", defArgs s_is_tower, defBody s_is_tower, defScope s_is_tower, [], []⟩
def d_crowd_of : He.DefD := ⟨("crowd_of", none), "crowd_of", "crowd_of", defArgs s_crowd_of, defBody s_crowd_of, defScope s_crowd_of, [], []⟩
def d_crowd : He.DefD := ⟨("crowd", none), "crowd", "crowd", defArgs s_crowd, defBody s_crowd, defScope s_crowd, [], []⟩
def d_laid : He.DefD := ⟨("laid", none), "laid", "laid", defArgs s_laid, defBody s_laid, defScope s_laid, [], []⟩
def d_nexts_of : He.DefD := ⟨("nexts_of", none), "nexts_of", "nexts_of", defArgs s_nexts_of, defBody s_nexts_of, defScope s_nexts_of, [], []⟩
def d_next_crowds : He.DefD := ⟨("next_crowds", none), "next_crowds", "next_crowds", defArgs s_next_crowds, defBody s_next_crowds, defScope s_next_crowds, [], []⟩
def d_tower_of : He.DefD := ⟨("tower_of", none), "tower_of", "tower_of", defArgs s_tower_of, defBody s_tower_of, defScope s_tower_of, [], []⟩
def d_tower : He.DefD := ⟨("tower", none), "tower", "tower", defArgs s_tower, defBody s_tower, defScope s_tower, [], []⟩
def d_spread : He.DefD := ⟨("spread", none), "spread", "spread", defArgs s_spread, defBody s_spread, defScope s_spread, [], []⟩
def d_least_deeds : He.DefD := ⟨("least_deeds", none), "least_deeds", "least_deeds", defArgs s_least_deeds, defBody s_least_deeds, defScope s_least_deeds, [], []⟩
def d_most_deeds : He.DefD := ⟨("most_deeds", none), "most_deeds", "most_deeds", defArgs s_most_deeds, defBody s_most_deeds, defScope s_most_deeds, [], []⟩
def d_is_row_of_deeds : He.DefD := ⟨("is_row_of_deeds", none), "is_row_of_deeds", "is_row_of_deeds", defArgs s_is_row_of_deeds, defBody s_is_row_of_deeds, defScope s_is_row_of_deeds, [], []⟩
def d_steps_of : He.DefD := ⟨("steps_of", none), "steps_of", "steps_of", defArgs s_steps_of, defBody s_steps_of, defScope s_steps_of, [], []⟩
def d_worths_of : He.DefD := ⟨("worths_of", none), "worths_of", "worths_of", defArgs s_worths_of, defBody s_worths_of, defScope s_worths_of, [], []⟩
def d_worth : He.DefD := ⟨("worth", none), "worth", "worth", defArgs s_worth, defBody s_worth, defScope s_worth, [], []⟩
def d_first_wins : He.DefD := ⟨("first_wins", none), "first_wins", "first_wins", defArgs s_first_wins, defBody s_first_wins, defScope s_first_wins, [], []⟩
def d_winning_next : He.DefD := ⟨("winning_next", none), "winning_next", "winning_next", defArgs s_winning_next, defBody s_winning_next, defScope s_winning_next, [], []⟩
def d_lengths_of : He.DefD := ⟨("lengths_of", none), "lengths_of", "lengths_of", defArgs s_lengths_of, defBody s_lengths_of, defScope s_lengths_of, [], []⟩
def d_game_length : He.DefD := ⟨("game_length", none), "game_length", "game_length", defArgs s_game_length, defBody s_game_length, defScope s_game_length, [], []⟩
def d_best_play : He.DefD := ⟨("best_play", none), "best_play", "best_play", defArgs s_best_play, defBody s_best_play, defScope s_best_play, [], []⟩
def d_shows_play : He.DefD := ⟨("shows_play", none), "shows_play", "shows_play", defArgs s_shows_play, defBody s_shows_play, defScope s_shows_play, [], []⟩
def d_both_games : He.DefD := ⟨("both_games", none), "both_games", "both_games", defArgs s_both_games, defBody s_both_games, defScope s_both_games, [], []⟩
def d_first_chance : He.DefD := ⟨("first_chance", none), "first_chance", "first_chance", defArgs s_first_chance, defBody s_first_chance, defScope s_first_chance, [], []⟩
def d_lowest : He.DefD := ⟨("lowest", none), "lowest", "lowest", defArgs s_lowest, defBody s_lowest, defScope s_lowest, [], []⟩
def d_deeds_left : He.DefD := ⟨("deeds_left", none), "deeds_left", "deeds_left", defArgs s_deeds_left, defBody s_deeds_left, defScope s_deeds_left, [], []⟩
def d_few : He.DefD := ⟨("few", none), "few", "few", defArgs s_few, defBody s_few, defScope s_few, [], []⟩
def d_is_down : He.DefD := ⟨("is_down", none), "is_down", "is_down", defArgs s_is_down, defBody s_is_down, defScope s_is_down, [], []⟩
def d_is_written : He.DefD := ⟨("is_written", none), "is_written", "is_written", defArgs s_is_written, defBody s_is_written, defScope s_is_written, [], []⟩
def d_shows_to_tower : He.DefD := ⟨("shows_to_tower", none), "shows_to_tower", "shows_to_tower", defArgs s_shows_to_tower, defBody s_shows_to_tower, defScope s_shows_to_tower, [], []⟩
def d_need_goods_order : He.DefD := ⟨("need_goods_order", none), "need_goods_order", "need_goods_order", defArgs s_need_goods_order, defBody s_need_goods_order, defScope s_need_goods_order, [], []⟩
def d_goods_in_order : He.DefD := ⟨("goods_in_order", none), "goods_in_order", "goods_in_order", defArgs s_goods_in_order, defBody s_goods_in_order, defScope s_goods_in_order, [], []⟩
def d_people_in_order : He.DefD := ⟨("people_in_order", none), "people_in_order", "people_in_order", defArgs s_people_in_order, defBody s_people_in_order, defScope s_people_in_order, [], []⟩
def d__law_taken : He.DefD := ⟨("_law_taken", none), "_law_taken", "_law_taken", defArgs s__law_taken, defBody s__law_taken, defScope s__law_taken, [], []⟩
def d__law_pick : He.DefD := ⟨("_law_pick", none), "_law_pick", "_law_pick", defArgs s__law_pick, defBody s__law_pick, defScope s__law_pick, [], []⟩
def d__law_table : He.DefD := ⟨("_law_table", none), "_law_table", "_law_table", defArgs s__law_table, defBody s__law_table, defScope s__law_table, [], []⟩
def d__law_unlike : He.DefD := ⟨("_law_unlike", none), "_law_unlike", "_law_unlike", defArgs s__law_unlike, defBody s__law_unlike, defScope s__law_unlike, [], []⟩
def d_law : He.DefD := ⟨("law", none), "law", "law", defArgs s_law, defBody s_law, defScope s_law, [], []⟩
def fn : List He.DefD := [d_whole, d_within, d_need_number, d_tuple_of, d_is_row, d_bad_row, d_need_table, d_is_table, d_is_order, d_need_order, d_need_like, d_is_over_row, d_are_at_odds, d_odds_of, d_count_at_odds, d_is_tower, d_crowd_of, d_crowd, d_laid, d_nexts_of, d_next_crowds, d_tower_of, d_tower, d_spread, d_least_deeds, d_most_deeds, d_is_row_of_deeds, d_steps_of, d_worths_of, d_worth, d_first_wins, d_winning_next, d_lengths_of, d_game_length, d_best_play, d_shows_play, d_both_games, d_first_chance, d_lowest, d_deeds_left, d_few, d_is_down, d_is_written, d_shows_to_tower, d_need_goods_order, d_goods_in_order, d_people_in_order, d__law_taken, d__law_pick, d__law_table, d__law_unlike, d_law]
def fa : List He.Fa := [.glo "whole", .glo "within", .glo "need_number", .glo "tuple_of", .glo "is_row", .glo "bad_row", .glo "need_table", .glo "is_table", .glo "is_order", .glo "need_order", .glo "need_like", .glo "is_over_row", .glo "are_at_odds", .glo "odds_of", .glo "count_at_odds", .glo "is_tower", .glo "crowd_of", .glo "crowd", .glo "laid", .glo "nexts_of", .glo "next_crowds", .glo "tower_of", .glo "tower", .glo "spread", .glo "least_deeds", .glo "most_deeds", .glo "is_row_of_deeds", .glo "steps_of", .glo "worths_of", .glo "worth", .glo "first_wins", .glo "winning_next", .glo "lengths_of", .glo "game_length", .glo "best_play", .glo "shows_play", .glo "both_games", .glo "first_chance", .glo "lowest", .glo "deeds_left", .glo "few", .glo "is_down", .glo "is_written", .glo "shows_to_tower", .glo "need_goods_order", .glo "goods_in_order", .glo "people_in_order", .glo "_law_taken", .glo "_law_pick", .glo "_law_table", .glo "_law_unlike", .glo "law", .int "MOST_PEOPLE" 6, .int "MOST_GOODS" 5, .int "MOST_HEAP" 99, .int "MOST_MET" 3000, .free "isinstance", .free "int", .free "bool", .free "tuple", .free "all", .free "any", .free "len", .free "enumerate", .free "zip", .free "sorted", .free "list", .free "range", .free "max", .free "min", .free "sum"]
def tf : List He.Defn := [("spread", none), ("worths_of", none), ("lengths_of", none), ("first_chance", none)]
abbrev R : PySem.W.OpenRow := PySem.W.OpenLaw.row PySem.Challenge.rw_laytogether_k63_across_games
def ex : PySem.W.Frag → Bool := fun K => decide ((tf.map fun p => (He.cT K p).2).Nodup)
abbrev hk : PySem.W.Hook := He.hookX 4 fa fn [] tf ex
def ob (s : PySem.W.SharedT) : He.AlX := He.obsX 4 fa fn [] tf ex (HandSHeadRun.getT s)
theorem ob_eq (s : PySem.W.SharedT) : ob s = hk.obs s.abs := He.obsX_eq (HandSHeadRun.getT_eq s)
def loose0 : List PySem.Str := ["LayError", "BadTable", "BadOrder", "BadGoods", "BadNumber", "NotLike", "TooMany", "MOST_PEOPLE", "MOST_GOODS", "MOST_HEAP", "MOST_MET", "whole", "within", "need_number", "tuple_of", "is_row", "bad_row", "need_table", "is_table", "is_order", "need_order", "need_like", "is_over_row", "are_at_odds", "odds_of", "count_at_odds", "is_tower", "crowd_of", "crowd", "laid"]
def loose1 : List PySem.Str := ["nexts_of", "next_crowds", "tower_of", "tower", "spread", "least_deeds", "most_deeds", "is_row_of_deeds", "steps_of", "worths_of", "worth", "first_wins", "winning_next", "lengths_of", "game_length", "best_play", "shows_play", "both_games", "first_chance", "lowest", "deeds_left", "few", "is_down", "is_written", "shows_to_tower", "need_goods_order", "goods_in_order", "people_in_order", "_law_taken", "_law_pick"]
def loose2 : List PySem.Str := ["_law_table", "_law_unlike"]
def loose : List PySem.Str := loose0 ++ loose1 ++ loose2
theorem run (w : World) : HandSHeadRun.RunEq R (PySem.W.view R.prog [71]) hk ob 6000 loose w := by
  intro os
  kernel_rfl
end LT
/-! ## LtCore -/
set_option Elab.async false
set_option linter.all false
set_option maxRecDepth 100000
set_option maxHeartbeats 4000000
namespace LT
open PySem PySem.Spec PyProof.Rows L2 LamX

/-! ### heaps that grow -/
def TupE (H H' : Hp) : Prop := ∀ a xs, H a = some (.tup xs) → H' a = some (.tup xs)
theorem TupE.refl (H : Hp) : TupE H H := fun _ _ h => h
theorem TupE.trans {H H1 H2 : Hp} (a : TupE H H1) (b : TupE H1 H2) : TupE H H2 := fun c o h => b c o (a c o h)
theorem tupE_of {H H' : Hp} (e : ExtN H H') : TupE H H' := fun a xs h => e a _ h (fun _ z => by cases z)
theorem TupE.upd {H : Hp} {d : Addr} {o u : HO} (h : H d = some o) (n : ∀ xs, o ≠ .tup xs) : TupE H (upd H d u) := fun a xs e => by
  rw [upd_ne (fun z => by rw [z, h] at e; exact n xs (Option.some.inj e))]
  exact e
theorem TupE.new {H : Hp} {d : Addr} {u : HO} (h : H d = none) : TupE H (L2.upd H d u) := fun a xs e => by
  rw [upd_ne (ne_of_none e h)]
  exact e

/-! ### dicts whose keys are nested tuples: the raw object -/
def entryN (w : World) (x : NestedKey × Addr × Value) : DictEntry := ⟨x.1.hash w, .ref x.2.1, x.2.2⟩
def SameK (p : NestedKey × Addr × V) (q : NestedKey × Addr × Value) : Prop := p.1 = q.1 ∧ p.2.1 = q.2.1 ∧ RelV p.2.2 q.2.2
def rawP (w : World) (d : Addr) (ks : List (NestedKey × Addr × V)) (h : Heap) : Prop :=
  ∃ (xs : List (NestedKey × Addr × Value)) (o : Obj) (es : Array DictEntry) (ep : Nat), Paired SameK ks xs ∧ h.get? d = some o ∧ o.ExactDict ∧ o.data = .dict es ep ∧ es.toList = xs.map (entryN w) ∧
    (d == sysModules) = false ∧ (xs.map (·.1)).Nodup ∧ xs.length ≤ sizeLine
def rawD (w : World) (d : Addr) (ks : List (NestedKey × Addr × V)) : HO := .ext (rawP w d ks)
/-- what may be changed under one's hands: a list, one of our dicts, a dict of ints -/
inductive Soft : HO → Prop
  | lst (xs) : Soft (.lst xs)
  | dic (w d ks) : Soft (rawD w d ks)
  | dK (kvs) : Soft (.dK kvs)
  | frd (o w d ks) : Soft (.frz o (rawD w d ks))
theorem Soft.ntbl {o : HO} (s : Soft o) : ∀ ps, o ≠ .tbl ps := fun ps z => by
  cases s with
  | lst xs => cases z
  | dic w d ks => unfold rawD at z; cases z
  | dK kvs => cases z
  | frd o w d ks => cases z
theorem Soft.ntup {o : HO} (s : Soft o) : ∀ ps, o ≠ .tup ps := fun ps z => by
  cases s with
  | lst xs => cases z
  | dic w d ks => unfold rawD at z; cases z
  | dK kvs => cases z
  | frd o w d ks => cases z

theorem code_ne_raw (c : Addr) (q : Str) (w : World) (d : Addr) (ks : List (NestedKey × Addr × V)) : CodeO c q ≠ rawD w d ks := fun z => by
  unfold CodeO rawD at z
  have z' := HO.ext.inj z
  let oc : Obj := { cls := .none, data := .fields #[.none, .str q 0] }
  let h0 : Heap := ⟨Array.replicate (c + d + 1) oc, {}⟩
  have hg : ∀ a : Nat, a < c + d + 1 → h0.get? a = some oc := fun a ha => by
    rw [Heap.get?_some_iff]
    refine ⟨?_, rfl⟩
    show (Array.replicate (c + d + 1) oc)[a]? = some oc
    rw [Array.getElem?_replicate, if_pos ha]
  have l1 : (show Nat from c) < (show Nat from c) + (show Nat from d) + 1 := Nat.lt_succ_of_le (Nat.le_add_right _ _)
  have l2 : (show Nat from d) < (show Nat from c) + (show Nat from d) + 1 := Nat.lt_succ_of_le (Nat.le_add_left _ _)
  have p : (fun h : Heap => ∃ (oc : Obj) (vs : Array Value) (t : Tok), h.get? c = some oc ∧ oc.data = .fields vs ∧ vs[1]? = some (.str q t)) h0 := ⟨oc, _, 0, hg c l1, rfl, rfl⟩
  rw [z'] at p
  obtain ⟨xs, o, es, ep, _, e3, _, e4, _⟩ := p
  rw [hg d l2] at e3
  cases e3
  cases e4
theorem Soft.ncode {o : HO} (s : Soft o) (c : Addr) (q : Str) : CodeO c q ≠ o := fun z => by
  cases s with
  | lst xs => unfold CodeO at z; cases z
  | dic w d ks => exact code_ne_raw _ _ _ _ _ z
  | dK kvs => unfold CodeO at z; cases z
  | frd o w d ks => unfold CodeO at z; cases z

/-- all but tables stays, the tables are well -/
def Ex (T : List (Addr × Str)) (H H' : Hp) : Prop := ExtN H H' ∧ Tabs T H'
/-- nothing of H that stays stands at p -/
def Fr0 (H : Hp) (p : Addr) : Prop := ∀ o, H p = some o → ∃ ps, o = .tbl ps
section
variable {T : List (Addr × Str)} {H H1 H2 H3 H' : Hp} {p : Addr} {o o' : HO}
theorem Ex.refl (h : Tabs T H) : Ex T H H := ⟨ExtN.refl H, h⟩
theorem Ex.trans (a : Ex T H H1) (b : Ex T H1 H2) : Ex T H H2 := ⟨a.1.trans b.1, b.2⟩
theorem Ex.here (a : Ex T H H1) : Ex T H1 H1 := ⟨ExtN.refl _, a.2⟩
theorem Ex.tup (a : Ex T H H1) : TupE H H1 := tupE_of a.1
theorem extn_new (h : H p = none) : ExtN H (upd H p o) := fun b u e _ => by
  rw [upd_ne (ne_of_none e h)]
  exact e
theorem same_new (h : H p = none) : ∀ b u, H b = some u → upd H p o b = some u := fun b u e => by
  rw [upd_ne (ne_of_none e h)]
  exact e
theorem Ex.new (t : Tabs T H) (h : H p = none) : Ex T H (upd H p o) := ⟨extn_new h, t.ext (same_new h)⟩
theorem Fr0.of_none (h : H p = none) : Fr0 H p := fun o e => by rw [h] at e; cases e
theorem Fr0.back (e : ExtN H H1) (h : Fr0 H1 p) : Fr0 H p := fun o q => by
  by_cases n : ∀ ps, o ≠ .tbl ps
  · exact h o (e p o q n)
  · exact Classical.byContradiction fun z => n fun ps q' => z ⟨ps, q'⟩
theorem Ex.fr0 (e : Ex T H H1) (h : H1 p = none) : Fr0 H p := (Fr0.of_none h).back e.1
theorem Fr0.ne (f : Fr0 H p) {b : Addr} {u : HO} (e : H b = some u) (n : ∀ ps, u ≠ .tbl ps) : b ≠ p := fun z => by
  rw [z] at e
  obtain ⟨ps, q⟩ := f u e
  exact n ps q
theorem extn_mut (e : ExtN H H1) (f : Fr0 H p) : ExtN H (upd H1 p o) := fun b u q n => by
  rw [upd_ne (f.ne q n)]
  exact e b u q n
theorem Tabs.mut (t : Tabs T H) (h : H p = some o) (s : Soft o) : Tabs T (upd H p o') := fun x hx => by
  obtain ⟨ps, h1, h2, h3⟩ := t x hx
  have n1 : x.1 ≠ p := fun z => by
    rw [z, h] at h1
    exact s.ntbl ps (Option.some.inj h1)
  refine ⟨ps, by rw [upd_ne n1]; exact h1, h2, fun pos cv hc => ?_⟩
  obtain ⟨c, e1, e2⟩ := h3 pos cv hc
  refine ⟨c, e1, ?_⟩
  rw [upd_ne (fun z => by rw [z, h] at e2; exact s.ncode p x.2 (Option.some.inj e2).symm)]
  exact e2
theorem Ex.mut (e : Ex T H H1) (f : Fr0 H p) (h : H1 p = some o) (s : Soft o) : Ex T H (upd H1 p o') := ⟨extn_mut e.1 f, Tabs.mut e.2 h s⟩
theorem TupE.mut (h : H p = some o) (s : Soft o) : TupE H (L2.upd H p o') := TupE.upd h s.ntup
theorem Ex.get (e : Ex T H H1) (h : H p = some o) (s : Soft o) : H1 p = some o := e.1 p o h s.ntbl
end

/-! ### what a value stands for -/
structure Rp (α : Type) where
  rel : Hp → V → α → Prop
  mono : ∀ {H H' : Hp} {v : V} {x : α}, ExtN H H' → rel H v x → rel H' v x
def Imm {α : Type} (r : Rp α) : Prop := ∀ {H H' : Hp} {v : V} {x : α}, TupE H H' → r.rel H v x → r.rel H' v x
theorem paired_imp {α β : Type} {F G : α → β → Prop} (h : ∀ a b, F a b → G a b) {l : List α} {m : List β} (p : Paired F l m) : Paired G l m := Paired.mapP p h
def pI : Rp Int := ⟨fun _ v x => v = .int x, fun _ h => h⟩
def pN : Rp Nat := ⟨fun _ v x => v = .int (x : Int), fun _ h => h⟩
def pB : Rp Bool := ⟨fun _ v x => v = .bl x, fun _ h => h⟩
def pU : Rp Unit := ⟨fun _ v _ => v = .non, fun _ h => h⟩
def tupRel {α : Type} (r : Rp α) (H : Hp) (v : V) (xs : List α) : Prop := ∃ a vs, v = .ref a ∧ H a = some (.tup vs) ∧ Paired (r.rel H) vs xs
def lstRel {α : Type} (r : Rp α) (H : Hp) (v : V) (xs : List α) : Prop := ∃ a vs, v = .ref a ∧ H a = some (.lst vs) ∧ Paired (r.rel H) vs xs
def pairRel {α β : Type} (r : Rp α) (s : Rp β) (H : Hp) (v : V) (x : α × β) : Prop := ∃ a u w, v = .ref a ∧ H a = some (.tup [u, w]) ∧ r.rel H u x.1 ∧ s.rel H w x.2
def pTup {α : Type} (r : Rp α) : Rp (List α) := ⟨tupRel r, fun e h => by
  obtain ⟨a, vs, h1, h2, h3⟩ := h
  exact ⟨a, vs, h1, tupE_of e _ _ h2, paired_imp (fun _ _ => r.mono e) h3⟩⟩
def pLst {α : Type} (r : Rp α) : Rp (List α) := ⟨lstRel r, fun e h => by
  obtain ⟨a, vs, h1, h2, h3⟩ := h
  exact ⟨a, vs, h1, e _ _ h2 (fun _ z => by cases z), paired_imp (fun _ _ => r.mono e) h3⟩⟩
def pPair {α β : Type} (r : Rp α) (s : Rp β) : Rp (α × β) := ⟨pairRel r s, fun e h => by
  obtain ⟨a, u, w, h1, h2, h3, h4⟩ := h
  exact ⟨a, u, w, h1, tupE_of e _ _ h2, r.mono e h3, s.mono e h4⟩⟩
theorem imI : Imm pI := fun _ h => h
theorem imN : Imm pN := fun _ h => h
theorem imB : Imm pB := fun _ h => h
theorem imTup {α : Type} {r : Rp α} (i : Imm r) : Imm (pTup r) := fun e h => by
  obtain ⟨a, vs, h1, h2, h3⟩ := h
  exact ⟨a, vs, h1, e _ _ h2, paired_imp (fun _ _ => i e) h3⟩
theorem imPair {α β : Type} {r : Rp α} {s : Rp β} (i : Imm r) (j : Imm s) : Imm (pPair r s) := fun e h => by
  obtain ⟨a, u, w, h1, h2, h3, h4⟩ := h
  exact ⟨a, u, w, h1, e _ _ h2, i e h3, j e h4⟩
abbrev Row := List Int
abbrev Tbl := List Row
abbrev pR : Rp Row := pTup pI
abbrev pT : Rp Tbl := pTup pR
theorem imR : Imm pR := imTup imI
theorem imT : Imm pT := imTup imR
section
variable {α β : Type} {F : α → β → Prop}
theorem Paired.at1 : ∀ {l : List α} {m : List β} {i : Nat} {b : β}, Paired F l m → m[i]? = some b → ∃ a, l[i]? = some a ∧ F a b
  | _, _, _, _, .nil, h => by simp at h
  | _, _, 0, _, .cons r _, h => by simp at h; subst h; exact ⟨_, rfl, r⟩
  | _, _, i + 1, b, .cons _ t, h => by
    obtain ⟨a, h1, h2⟩ := Paired.at1 (i := i) (b := b) t (by simpa using h)
    exact ⟨a, by simpa using h1, h2⟩
theorem Paired.at2 : ∀ {l : List α} {m : List β} {i : Nat} {a : α}, Paired F l m → l[i]? = some a → ∃ b, m[i]? = some b ∧ F a b
  | _, _, _, _, .nil, h => by simp at h
  | _, _, 0, _, .cons r _, h => by simp at h; subst h; exact ⟨_, rfl, r⟩
  | _, _, i + 1, b, .cons _ t, h => by
    obtain ⟨a, h1, h2⟩ := Paired.at2 (i := i) (a := b) t (by simpa using h)
    exact ⟨a, by simpa using h1, h2⟩
theorem Paired.app : ∀ {l l' : List α} {m m' : List β}, Paired F l m → Paired F l' m' → Paired F (l ++ l') (m ++ m')
  | _, _, _, _, .nil, s => s
  | _, _, _, _, .cons r t, s => .cons r (Paired.app t s)
theorem Paired.rev : ∀ {l : List α} {m : List β}, Paired F l m → Paired F l.reverse m.reverse
  | _, _, .nil => .nil
  | _, _, .cons r t => by
    rw [List.reverse_cons, List.reverse_cons]
    exact Paired.app (Paired.rev t) (.cons r .nil)
theorem Paired.tk : ∀ {l : List α} {m : List β} (n : Nat), Paired F l m → Paired F (l.take n) (m.take n)
  | _, _, 0, _ => .nil
  | _, _, _ + 1, .nil => .nil
  | _, _, n + 1, .cons r t => .cons r (Paired.tk n t)
theorem Paired.dp : ∀ {l : List α} {m : List β} (n : Nat), Paired F l m → Paired F (l.drop n) (m.drop n)
  | _, _, 0, r => r
  | _, _, _ + 1, .nil => .nil
  | _, _, n + 1, .cons _ t => Paired.dp n t
theorem Paired.pow {γ : Type} {f : β → γ} {G : α → γ → Prop} (h : ∀ a b, F a b → G a (f b)) : ∀ {l : List α} {m : List β}, Paired F l m → Paired G l (m.map f)
  | _, _, .nil => .nil
  | _, _, .cons r t => .cons (h _ _ r) (Paired.pow h t)
end
theorem ints_of {H : Hp} : ∀ {vs : List V} {xs : List Int}, Paired (pI.rel H) vs xs → vs = xs.map V.int
  | _, _, .nil => rfl
  | _, _, .cons r t => by
    rw [ints_of t, show _ = _ from r]
    rfl
theorem ints_to {H : Hp} : ∀ {xs : List Int}, Paired (pI.rel H) (xs.map V.int) xs
  | [] => .nil
  | _ :: _ => .cons rfl ints_to
theorem bls_of {H : Hp} : ∀ {vs : List V} {xs : List Bool}, Paired (pB.rel H) vs xs → vs = xs.map V.bl
  | _, _, .nil => rfl
  | _, _, .cons r t => by
    rw [bls_of t, show _ = _ from r]
    rfl
theorem bls_to {H : Hp} : ∀ {xs : List Bool}, Paired (pB.rel H) (xs.map V.bl) xs
  | [] => .nil
  | _ :: _ => .cons rfl bls_to
theorem nats_of {H : Hp} : ∀ {vs : List V} {xs : List Nat}, Paired (pN.rel H) vs xs → vs = (xs.map fun n : Nat => (n : Int)).map V.int
  | _, _, .nil => rfl
  | _, _, .cons r t => by
    rw [nats_of t, show _ = _ from r]
    rfl
theorem nats_to {H : Hp} : ∀ {xs : List Nat}, Paired (pN.rel H) ((xs.map fun n : Nat => (n : Int)).map V.int) xs
  | [] => .nil
  | _ :: _ => .cons rfl nats_to
theorem sq_l {K : PySem.W.Frag} {H : Hp} {a : Addr} {xs : List V} (h : H a = some (.lst xs)) : SqL K H a xs := Or.inl (Or.inl h)
theorem sq_t {K : PySem.W.Frag} {H : Hp} {a : Addr} {xs : List V} (h : H a = some (.tup xs)) : SqT K H a xs := Or.inl (Or.inl h)

/-! ### what a reading evaluates to -/
section
variable {α β γ : Type}
def Ev (T : List (Addr × Str)) (r : Rp α) (te : TE) (σ : L2.St) (H : Hp) (P : α → Prop) : Prop :=
  ∀ H1, Ex T H H1 → ∀ Q : VK, (∀ v x H2, Ex T H1 H2 → r.rel H2 v x → P x → Q v H2) → te σ H1 Q
/-- a test -/
def EvT (T : List (Addr × Str)) (t : TT) (σ : L2.St) (H : Hp) (b : Bool) : Prop := ∀ H1, Ex T H H1 → ∀ Q : Bool → Hp → Prop, (∀ H2, Ex T H1 H2 → Q b H2) → t σ H1 Q
structure RpA (α : Type) where
  rel : Hp → List V → α → Prop
  mono : ∀ {H H' : Hp} {v : List V} {x : α}, ExtN H H' → rel H v x → rel H' v x
def EvA (T : List (Addr × Str)) (ra : RpA α) (ta : TA) (σ : L2.St) (H : Hp) (P : α → Prop) : Prop :=
  ∀ H1, Ex T H H1 → ∀ Q : List V → Hp → Prop, (∀ vs x H2, Ex T H1 H2 → ra.rel H2 vs x → P x → Q vs H2) → ta σ H1 Q
def a0 : RpA Unit := ⟨fun _ vs _ => vs = [], fun _ h => h⟩
def aC (r : Rp α) (ra : RpA β) : RpA (α × β) := ⟨fun H vs x => ∃ v ws, vs = v :: ws ∧ r.rel H v x.1 ∧ ra.rel H ws x.2, fun e h => by
  obtain ⟨v, ws, h1, h2, h3⟩ := h
  exact ⟨v, ws, h1, r.mono e h2, ra.mono e h3⟩⟩
abbrev a1 (r : Rp α) : RpA (α × Unit) := aC r a0
abbrev a2 (r : Rp α) (s : Rp β) : RpA (α × β × Unit) := aC r (aC s a0)
abbrev a3 (r : Rp α) (s : Rp β) (q : Rp γ) : RpA (α × β × γ × Unit) := aC r (aC s (aC q a0))
abbrev is (x : α) : α → Prop := fun y => y = x
end
section
variable {α β γ δ : Type} {T : List (Addr × Str)} {r : Rp α} {s : Rp β} {q : Rp γ} {ra : RpA β} {te ta tb : TE} {t u : TT} {σ : L2.St} {H H' : Hp} {P : α → Prop} {Pb : β → Prop} {Pc : γ → Prop} {v : V} {x : α}
theorem Ev.mono (e : Ex T H H') (h : Ev T r te σ H P) : Ev T r te σ H' P := fun H1 a Q q => h H1 (e.trans a) Q q
theorem EvT.mono {b : Bool} (e : Ex T H H') (h : EvT T t σ H b) : EvT T t σ H' b := fun H1 a Q q => h H1 (e.trans a) Q q
theorem Ev.imp {P' : α → Prop} (h : Ev T r te σ H P) (i : ∀ x, P x → P' x) : Ev T r te σ H P' := fun H1 a Q q => h H1 a Q fun v x H2 e rl p => q v x H2 e rl (i x p)
/-- told by another relation -/
theorem Ev.as (f : α → β) (h : Ev T r te σ H P) (i : ∀ H v x, r.rel H v x → P x → s.rel H v (f x) ∧ Pb (f x)) : Ev T s te σ H Pb := fun H1 a Q q => h H1 a Q fun v x H2 e rl p => let z := i H2 v x rl p; q v (f x) H2 e z.1 z.2
theorem ev_v (h : ∀ H1, Ex T H H1 → ∀ Q : VK, Q v H1 → te σ H1 Q) (rl : r.rel H v x) : Ev T r te σ H (is x) := fun H1 e Q q => h H1 e Q (q v x H1 e.here (r.mono e.1 rl) rfl)
theorem ev_var {i : Nat} (rl : r.rel H v x) (h : σ[i]? = some (some v)) : Ev T r (tVar i) σ H (is x) := ev_v (fun H1 _ Q q => ⟨v, h, q⟩) rl
theorem ev_int {i : Int} : Ev T pI (tC (.int i)) σ H (is i) := ev_v (fun _ _ _ q => q) rfl
theorem ev_nat {i : Nat} : Ev T pN (tC (.int (i : Int))) σ H (is i) := ev_v (fun _ _ _ q => q) rfl
theorem ev_bl {b : Bool} : Ev T pB (tC (.bl b)) σ H (is b) := ev_v (fun _ _ _ q => q) rfl
theorem ev_non : Ev T pU (tC .non) σ H (is ()) := ev_v (fun _ _ _ q => q) rfl
/-- a two-place operation, by its values -/
theorem ev_op {op : R2} (ha : Ev T r ta σ H P) (hb : Ev T s tb σ H Pb)
    (hr : ∀ v w x y H1, Ex T H H1 → r.rel H1 v x → s.rel H1 w y → P x → Pb y → ∀ Q : VK, (∀ u z H2, Ex T H1 H2 → q.rel H2 u z → Pc z → Q u H2) → op v w H1 Q) : Ev T q (tOp op ta tb) σ H Pc := fun H1 e Q k =>
  ha H1 e _ fun v x H2 e2 rx px => hb H2 (e.trans e2) _ fun w y H3 e3 ry py => hr v w x y H3 ((e.trans e2).trans e3) (r.mono e3.1 rx) ry px py Q fun u z H4 e4 rz pz => k u z H4 ((e2.trans e3).trans e4) rz pz
theorem ev_I0 {g : Int → Int → V} {i j : Int} {z : α} (hg : ∀ H, r.rel H (g i j) z) (ha : Ev T pI ta σ H (is i)) (hb : Ev T pI tb σ H (is j)) : Ev T r (tOp (rI0 g) ta tb) σ H (is z) :=
  ev_op ha hb fun v w x y H1 e rx ry px py Q k => ⟨i, j, by rw [show v = _ from rx, show x = _ from px], by rw [show w = _ from ry, show y = _ from py], k _ z H1 e.here (hg H1) rfl⟩
theorem ev_II {C : Int → Int → Prop} {g : Int → Int → V} {i j : Int} {z : α} (hg : ∀ H, r.rel H (g i j) z) (hC : C i j) (ha : Ev T pI ta σ H (is i)) (hb : Ev T pI tb σ H (is j)) : Ev T r (tOp (L2.rI C g) ta tb) σ H (is z) :=
  ev_op ha hb fun v w x y H1 e rx ry px py Q k => ⟨i, j, by rw [show v = _ from rx, show x = _ from px], by rw [show w = _ from ry, show y = _ from py], hC, k _ z H1 e.here (hg H1) rfl⟩
theorem ev_i (h : Ev T pN te σ H (is n)) : Ev T pI te σ H (is (n : Int)) := h.as (fun n : Nat => (n : Int)) fun _ _ x rl p => ⟨rl, by rw [show x = _ from p]⟩
theorem ev_n {n : Nat} (h : Ev T pI te σ H (is (n : Int))) : Ev T pN te σ H (is n) := fun H1 e Q k => h H1 e Q fun v x H2 e2 rl p => k v n H2 e2 (by rw [show x = _ from p] at rl; exact rl) rfl
theorem ev_is {y : α} (h : Ev T r te σ H (is x)) (e : x = y) : Ev T r te σ H (is y) := by
  rw [← e]
  exact h
theorem et_is {a b : Bool} (h : EvT T t σ H a) (e : a = b) : EvT T t σ H b := by
  rw [← e]
  exact h
/-- == and != of flat values -/
theorem ev_eqI {i j : Int} (ha : Ev T pI ta σ H (is i)) (hb : Ev T pI tb σ H (is j)) : Ev T pB (tOp rEq ta tb) σ H (is (decide (i = j))) :=
  ev_op ha hb fun v w x y H1 e rx ry px py Q k => by
    rw [show v = _ from rx, show x = _ from px, show w = _ from ry, show y = _ from py]
    refine ⟨rfl, k _ _ H1 e.here ?_ rfl⟩
    show V.bl _ = V.bl _
    exact congrArg V.bl (decide_eq_decide.mpr ⟨V.int.inj, congrArg V.int⟩)
theorem ev_neI {i j : Int} (ha : Ev T pI ta σ H (is i)) (hb : Ev T pI tb σ H (is j)) : Ev T pB (tOp rNe ta tb) σ H (is (!decide (i = j))) :=
  ev_op ha hb fun v w x y H1 e rx ry px py Q k => by
    rw [show v = _ from rx, show x = _ from px, show w = _ from ry, show y = _ from py]
    refine ⟨rfl, k _ _ H1 e.here ?_ rfl⟩
    show V.bl _ = V.bl _
    exact congrArg V.bl (congrArg not (decide_eq_decide.mpr ⟨V.int.inj, congrArg V.int⟩))
theorem ev_eqB {i j : Bool} (ha : Ev T pB ta σ H (is i)) (hb : Ev T pB tb σ H (is j)) : Ev T pB (tOp rEq ta tb) σ H (is (i == j)) :=
  ev_op ha hb fun v w x y H1 e rx ry px py Q k => by
    rw [show v = _ from rx, show x = _ from px, show w = _ from ry, show y = _ from py]
    refine ⟨rfl, k _ _ H1 e.here ?_ rfl⟩
    show V.bl _ = V.bl _
    cases i <;> cases j <;> rfl
theorem ev_neB {i j : Bool} (ha : Ev T pB ta σ H (is i)) (hb : Ev T pB tb σ H (is j)) : Ev T pB (tOp rNe ta tb) σ H (is (i != j)) :=
  ev_op ha hb fun v w x y H1 e rx ry px py Q k => by
    rw [show v = _ from rx, show x = _ from px, show w = _ from ry, show y = _ from py]
    refine ⟨rfl, k _ _ H1 e.here ?_ rfl⟩
    show V.bl _ = V.bl _
    cases i <;> cases j <;> rfl
theorem ev_isN {b : Bool} (hn : ∀ H v x, r.rel H v x → P x → decide (v = .non) = b) (ha : Ev T r ta σ H P) (hb : Ev T pU tb σ H (is ())) : Ev T pB (tOp (fun x y H Q => y = V.non ∧ Q (.bl (decide (x = .non))) H) ta tb) σ H (is b) :=
  ev_op ha hb fun v w x y H1 e rx ry px py Q k => ⟨ry, k _ b H1 e.here (by rw [hn H1 v x rx px]; rfl) rfl⟩
/-! tests -/
theorem et_test {b : Bool} (h : Ev T pB te σ H (is b)) : EvT T (tTest te) σ H b := fun H1 e Q k => h H1 e _ fun v x H2 e2 rl p => ⟨b, by rw [show v = _ from rl, show x = _ from p], k H2 e2⟩
theorem et_B {b : Bool} (h : Ev T pB te σ H (is b)) : EvT T (tB te) σ H b := fun H1 e Q k => h H1 e _ fun v x H2 e2 rl p => ⟨b, by rw [show v = _ from rl, show x = _ from p], k H2 e2⟩
theorem et_and {a b : Bool} (h1 : EvT T t σ H a) (h2 : a = true → EvT T u σ H b) : EvT T (tAnd t u) σ H (a && b) := fun H1 e Q k => h1 H1 e _ fun H2 e2 => by
  cases a with
  | true => exact (h2 rfl) H2 (e.trans e2) Q fun H3 e3 => k H3 (e2.trans e3)
  | false => exact k H2 e2
theorem et_or {a b : Bool} (h1 : EvT T t σ H a) (h2 : a = false → EvT T u σ H b) : EvT T (tOr t u) σ H (a || b) := fun H1 e Q k => h1 H1 e _ fun H2 e2 => by
  cases a with
  | false => exact (h2 rfl) H2 (e.trans e2) Q fun H3 e3 => k H3 (e2.trans e3)
  | true => exact k H2 e2
theorem et_not {a : Bool} (h1 : EvT T t σ H a) : EvT T (tNot t) σ H (!a) := fun H1 e Q k => h1 H1 e _ fun H2 e2 => k H2 e2
theorem ev_andV {a b : Bool} (h1 : Ev T pB ta σ H (is a)) (h2 : a = true → Ev T pB tb σ H (is b)) : Ev T pB (tAndV ta tb) σ H (is (a && b)) := fun H1 e Q k => h1 H1 e _ fun v x H2 e2 rl p => ⟨a, by rw [show v = _ from rl, show x = _ from p], by
  cases a with
  | true => exact (h2 rfl) H2 (e.trans e2) Q fun u z H3 e3 => k u z H3 (e2.trans e3)
  | false => exact k _ false H2 e2 rfl rfl⟩
theorem ev_orV {a b : Bool} (h1 : Ev T pB ta σ H (is a)) (h2 : a = false → Ev T pB tb σ H (is b)) : Ev T pB (tOrV ta tb) σ H (is (a || b)) := fun H1 e Q k => h1 H1 e _ fun v x H2 e2 rl p => ⟨a, by rw [show v = _ from rl, show x = _ from p], by
  cases a with
  | false => exact (h2 rfl) H2 (e.trans e2) Q fun u z H3 e3 => k u z H3 (e2.trans e3)
  | true => exact k _ true H2 e2 rfl rfl⟩
theorem ev_notV {a : Bool} (h1 : Ev T pB ta σ H (is a)) : Ev T pB (tNotV ta) σ H (is (!a)) := fun H1 e Q k => h1 H1 e _ fun v x H2 e2 rl p => ⟨a, by rw [show v = _ from rl, show x = _ from p], k _ _ H2 e2 rfl rfl⟩
theorem ev_if {b : Bool} (h : EvT T t σ H b) (h1 : b = true → Ev T r ta σ H P) (h2 : b = false → Ev T r tb σ H P) : Ev T r (tIf t ta tb) σ H P := fun H1 e Q k => h H1 e _ fun H2 e2 => by
  cases b with
  | true => exact (h1 rfl) H2 (e.trans e2) Q fun u z H3 e3 => k u z H3 (e2.trans e3)
  | false => exact (h2 rfl) H2 (e.trans e2) Q fun u z H3 e3 => k u z H3 (e2.trans e3)
/-- a <= b <= c -/
theorem ev_chain {tc : TE} {g g' : Int → Int → Bool} {i j k : Int} (ha : Ev T pI ta σ H (is i)) (hb : Ev T pI tb σ H (is j)) (hc : Ev T pI tc σ H (is k)) :
    Ev T pB (tChain (rI0 fun i j => .bl (g i j)) (rI0 fun i j => .bl (g' i j)) ta tb tc) σ H (is (g i j && g' j k)) := fun H1 e Q kk =>
  ha H1 e _ fun v x H2 e2 rx px => hb H2 (e.trans e2) _ fun w y H3 e3 ry py => ⟨i, j, by rw [show v = _ from rx, show x = _ from px], by rw [show w = _ from ry, show y = _ from py], g i j, rfl, by
    cases hg : g i j with
    | true =>
      rw [if_pos rfl]
      refine hc H3 ((e.trans e2).trans e3) _ fun u z H4 e4 rz pz => ⟨j, k, by rw [show w = _ from ry, show y = _ from py], by rw [show u = _ from rz, show z = _ from pz], kk _ _ H4 ((e2.trans e3).trans e4) rfl (by rw [hg, Bool.true_and])⟩
    | false =>
      rw [if_neg Bool.false_ne_true]
      exact kk _ _ H3 (e2.trans e3) rfl (by rw [hg, Bool.false_and])⟩
/-! arguments, calls -/
theorem ea_0 : EvA T a0 tNil σ H (fun _ => True) := fun H1 e Q k => k [] () H1 e.here rfl trivial
theorem ea_c (ha : Ev T r ta σ H P) {tr : TA} (hb : EvA T ra tr σ H Pb) : EvA T (aC r ra) (tCons ta tr) σ H (fun p => P p.1 ∧ Pb p.2) := fun H1 e Q k =>
  ha H1 e _ fun v x H2 e2 rx px => hb H2 (e.trans e2) _ fun ws y H3 e3 ry py => k (v :: ws) (x, y) H3 (e2.trans e3) ⟨v, ws, rfl, r.mono e3.1 rx, ry⟩ ⟨px, py⟩
theorem ea_1 (ha : Ev T r ta σ H (is x)) : EvA T (a1 r) (tCons ta tNil) σ H (is (x, ())) := fun H1 e Q k => ea_c ha ea_0 H1 e Q fun vs p H2 e2 rl pp => k vs (x, ()) H2 e2 (by obtain ⟨z, ⟨⟩⟩ := p; rw [← show z = x from pp.1]; exact rl) rfl
theorem ea_2 {y : β} (ha : Ev T r ta σ H (is x)) (hb : Ev T s tb σ H (is y)) : EvA T (a2 r s) (tCons ta (tCons tb tNil)) σ H (is (x, y, ())) := fun H1 e Q k => ea_c ha (ea_1 hb) H1 e Q fun vs p H2 e2 rl pp => k vs _ H2 e2 (by obtain ⟨z, z'⟩ := p; rw [← show z = x from pp.1, ← show z' = (y, ()) from pp.2]; exact rl) rfl
theorem ea_3 {tc : TE} {y : β} {z : γ} (ha : Ev T r ta σ H (is x)) (hb : Ev T s tb σ H (is y)) (hc : Ev T q tc σ H (is z)) : EvA T (a3 r s q) (tCons ta (tCons tb (tCons tc tNil))) σ H (is (x, y, z, ())) := fun H1 e Q k => ea_c ha (ea_2 hb hc) H1 e Q fun vs p H2 e2 rl pp => k vs _ H2 e2 (by obtain ⟨p1, p2⟩ := p; rw [← show p1 = x from pp.1, ← show p2 = (y, z, ()) from pp.2]; exact rl) rfl
end
/-- a def's promise: x the arguments, pre what must hold of them, P what the answer is -/
def SpG {γ β : Type} (T : List (Addr × Str)) (ra : RpA γ) (pre : γ → Prop) (r : Rp β) (P : γ → β → Prop) : Sp := fun vs H Q _ =>
  ∃ x, ra.rel H vs x ∧ pre x ∧ Tabs T H ∧ ∀ u y H2, Ex T H H2 → r.rel H2 u y → P x y → Q u H2
section
variable {α β γ : Type} {T : List (Addr × Str)} {r : Rp β} {ra : RpA γ} {ta : TA} {te : TE} {σ : L2.St} {H : Hp} {pre : γ → Prop} {P : γ → β → Prop} {x : γ}
theorem ev_call (ha : EvA T ra ta σ H (is x)) (hp : pre x) : Ev T r (tCall (SpG T ra pre r P) [] E0 ta) σ H (P x) := fun H1 e Q k =>
  ha H1 e _ fun vs y H2 e2 ry py => by
    show SpG T ra pre r P (vs ++ []) H2 Q E0
    rw [List.append_nil]
    refine ⟨y, ry, by rw [show y = x from py]; exact hp, (e.trans e2).2, fun u z H3 e3 rz pz => k u z H3 (e2.trans e3) rz (by rw [← show y = x from py]; exact pz)⟩
/-- a built-in, by its values -/
theorem ev_cb {rr : List V → Hp → VK → Prop} {Pr : γ → Prop} {Q' : β → Prop} (ha : EvA T ra ta σ H Pr)
    (hr : ∀ vs x H1, Ex T H H1 → ra.rel H1 vs x → Pr x → ∀ Q : VK, (∀ u z H2, Ex T H1 H2 → r.rel H2 u z → Q' z → Q u H2) → rr vs H1 Q) : Ev T r (tCB rr ta) σ H Q' := fun H1 e Q k =>
  ha H1 e _ fun vs x H2 e2 rx px => hr vs x H2 (e.trans e2) rx px Q fun u z H3 e3 rz pz => k u z H3 (e2.trans e3) rz pz
end
end LT
/-! ## LtDict -/
set_option Elab.async false
set_option linter.all false
set_option maxRecDepth 100000
set_option maxHeartbeats 4000000
namespace LT
open PySem PySem.Spec PyProof.Rows L2 LamX

/-! ### keys -/
structure KRp (α : Type) [DecidableEq α] where
  p : Rp α
  key : α → NestedKey
  inj : ∀ x y, key x = key y → x = y
  imm : Imm p
  deep : ∀ x, (key x).depth ≤ 8
  at_ : ∀ {P : Program} {w : World} {H : Hp} {h : Heap} {v : V} {x : α}, HOk P w H h → p.rel H v x → ∃ a, v = .ref a ∧ NestedIs h (key x) (.ref a)
section
variable {α : Type} {r : Rp α} {P : Program} {w : World} {H : Hp} {h : Heap}
theorem tup_obj {a : Addr} {vs : List V} (ok : HOk P w H h) (e : H a = some (.tup vs)) : ∃ (its : List Value) (o : Obj) (n : Nat), Vals vs its ∧ h.get? a = some o ∧ o.cls = .type "tuple" ∧ o.data = .seq its.toArray n := by
  obtain ⟨_, its, rv, o, ho, hc, n, hd⟩ := ok a _ e
  exact ⟨its, o, n, rv, ho, hc, hd⟩
theorem nested_all {F : α → NestedKey} (hF : ∀ (v : V) (x : α) (u : Value), r.rel H v x → RelV v u → NestedIs h (F x) u) : ∀ {vs : List V} {xs : List α} {us : List Value}, Paired (r.rel H) vs xs → Vals vs us → NestedAll h (xs.map F) us
  | _, _, _, .nil, .nil => .nil
  | _, _, _, .cons a b, .cons c d => .cons (hF _ _ _ a c) (nested_all hF b d)
theorem nested_tup {F : α → NestedKey} (ok : HOk P w H h) (hF : ∀ (v : V) (x : α) (u : Value), r.rel H v x → RelV v u → NestedIs h (F x) u) {v : V} {xs : List α} {u : Value} (e : (pTup r).rel H v xs) (ru : RelV v u) : NestedIs h (.tup (xs.map F)) u := by
  obtain ⟨a, vs, rfl, e1, e2⟩ := e
  cases ru
  obtain ⟨its, o, n, rv, ho, hc, hd⟩ := tup_obj ok e1
  exact .tup ho hc hd (by simpa using nested_all hF e2 rv)
end
def keyR (r : Row) : NestedKey := .tup (r.map NestedKey.num)
def keyT (t : Tbl) : NestedKey := .tup (t.map keyR)
theorem map_inj {α β : Type} {f : α → β} (h : ∀ x y, f x = f y → x = y) : ∀ {xs ys : List α}, xs.map f = ys.map f → xs = ys
  | [], [], _ => rfl
  | [], _ :: _, e => by cases e
  | _ :: _, [], e => by cases e
  | x :: xs, y :: ys, e => by
    rw [List.map_cons, List.map_cons] at e
    injection e with e1 e2
    rw [h x y e1, map_inj h e2]
theorem keyR_inj (x y : Row) (e : keyR x = keyR y) : x = y := map_inj (fun a b q => NestedKey.num.inj q) (NestedKey.tup.inj e)
theorem keyT_inj (x y : Tbl) (e : keyT x = keyT y) : x = y := map_inj keyR_inj (NestedKey.tup.inj e)
theorem deep_all {α : Type} (f : α → NestedKey) (n : Nat) (h : ∀ x, (f x).depth ≤ n) : ∀ xs : List α, NestedKey.depthAll (xs.map f) ≤ n
  | [] => by simp [NestedKey.depthAll]
  | x :: xs => by
    rw [List.map_cons, NestedKey.depthAll]
    exact Nat.max_le.mpr ⟨h x, deep_all f n h xs⟩
theorem keyR_deep (r : Row) : (keyR r).depth ≤ 1 := by
  unfold keyR
  rw [NestedKey.depth]
  exact Nat.succ_le_succ (deep_all NestedKey.num 0 (fun _ => by simp [NestedKey.depth]) r)
theorem keyT_deep (t : Tbl) : (keyT t).depth ≤ 2 := by
  unfold keyT
  rw [NestedKey.depth]
  exact Nat.succ_le_succ (deep_all keyR 1 keyR_deep t)
section
variable {P : Program} {w : World} {H : Hp} {h : Heap}
theorem isI {v : V} {x : Int} {u : Value} (e : pI.rel H v x) (ru : RelV v u) : NestedIs h (.num x) u := by
  cases e
  obtain ⟨t, rfl⟩ := ru
  exact .int _ _
theorem isR (ok : HOk P w H h) {v : V} {x : Row} {u : Value} (e : pR.rel H v x) (ru : RelV v u) : NestedIs h (keyR x) u := nested_tup ok (fun _ _ _ a b => isI a b) e ru
theorem isT (ok : HOk P w H h) {v : V} {x : Tbl} {u : Value} (e : pT.rel H v x) (ru : RelV v u) : NestedIs h (keyT x) u := nested_tup ok (fun _ _ _ a b => isR ok a b) e ru
end
def kT : KRp Tbl := ⟨pT, keyT, keyT_inj, imT, fun x => Nat.le_trans (keyT_deep x) (by decide), fun ok e => by
  obtain ⟨a, vs, rfl, h⟩ := id e
  exact ⟨a, rfl, isT ok e rfl⟩⟩
/-- the keys of few: (crowd, number, whose turn) -/
abbrev FK := Tbl × Int × Bool
def trRel (H : Hp) (v : V) (x : FK) : Prop := ∃ a u, v = .ref a ∧ H a = some (.tup [u, .int x.2.1, .bl x.2.2]) ∧ pT.rel H u x.1
def pFK : Rp FK := ⟨trRel, fun e h => by
  obtain ⟨a, u, h1, h2, h3⟩ := h
  exact ⟨a, u, h1, tupE_of e _ _ h2, pT.mono e h3⟩⟩
theorem imFK : Imm pFK := fun e h => by
  obtain ⟨a, u, h1, h2, h3⟩ := h
  exact ⟨a, u, h1, e _ _ h2, imT e h3⟩
def keyF (x : FK) : NestedKey := .tup [keyT x.1, .num x.2.1, .num (if x.2.2 = true then 1 else 0)]
theorem keyF_inj (x y : FK) (e : keyF x = keyF y) : x = y := by
  obtain ⟨t, i, b⟩ := x
  obtain ⟨t', i', b'⟩ := y
  unfold keyF at e
  have e := NestedKey.tup.inj e
  injection e with e1 e
  injection e with e2 e
  injection e with e3 e
  have q1 := keyT_inj _ _ e1
  have q2 := NestedKey.num.inj e2
  have q3 := NestedKey.num.inj e3
  simp only at q1 q2 q3
  subst q1 q2
  cases b <;> cases b' <;> first | rfl | simp at q3
def kF : KRp FK := ⟨pFK, keyF, keyF_inj, imFK, fun x => by
  unfold keyF
  rw [NestedKey.depth]
  have h := keyT_deep x.1
  simp only [NestedKey.depthAll, NestedKey.depth]
  omega, fun {P w H h v x} ok e => by
  obtain ⟨a, u, rfl, e1, e2⟩ := e
  refine ⟨a, rfl, ?_⟩
  obtain ⟨its, o, n, rv, ho, hc, hd⟩ := tup_obj ok e1
  refine .tup ho hc hd ?_
  cases rv with
  | cons r1 rv =>
    cases rv with
    | cons r2 rv =>
      cases rv with
      | cons r3 rv =>
        cases rv
        obtain ⟨t, rfl⟩ := r2
        cases r3
        exact .cons (isT ok e2 r1) (.cons (.int _ _) (.cons (.bool rfl) .nil))⟩

/-! ### what a dict holds -/
section
variable {α β : Type} [DecidableEq α]
def getA (kvs : List (α × β)) (a : α) : Option β := (kvs.find? fun p => decide (p.1 = a)).map (·.2)
def putA (kvs : List (α × β)) (a : α) (b : β) : List (α × β) := if (getA kvs a).isSome then kvs.map (fun p => if p.1 = a then (p.1, b) else p) else kvs ++ [(a, b)]
theorem getA_nil (a : α) : getA ([] : List (α × β)) a = none := rfl
theorem getA_pos {p : α × β} {l : List (α × β)} {a : α} (e : p.1 = a) : getA (p :: l) a = some p.2 := by simp [getA, List.find?_cons, e]
theorem getA_neg {p : α × β} {l : List (α × β)} {a : α} (e : ¬ p.1 = a) : getA (p :: l) a = getA l a := by simp [getA, List.find?_cons, e]
theorem getA_app (l m : List (α × β)) (a : α) : getA (l ++ m) a = (getA l a).or (getA m a) := by
  induction l with
  | nil => simp [getA_nil]
  | cons p l ih =>
    by_cases e : p.1 = a
    · rw [List.cons_append, getA_pos e, getA_pos e]
      rfl
    · rw [List.cons_append, getA_neg e, getA_neg e, ih]
theorem getA_map (l : List (α × β)) (a j : α) (b : β) : getA (l.map (fun p => if p.1 = a then (p.1, b) else p)) j = if j = a then (getA l a).map (fun _ => b) else getA l j := by
  induction l with
  | nil =>
    show none = _
    split <;> rfl
  | cons p l ih =>
    rw [List.map_cons]
    by_cases e : p.1 = a
    · rw [if_pos e]
      by_cases q : j = a
      · rw [if_pos q, getA_pos (p := (p.1, b)) (show (p.1, b).1 = j from e.trans q.symm), getA_pos e]
        rfl
      · have n : ¬ p.1 = j := fun z => q (z.symm.trans e)
        rw [if_neg q, getA_neg (p := (p.1, b)) n, getA_neg n, ih, if_neg q]
    · rw [if_neg e]
      by_cases q : p.1 = j
      · have n : ¬ j = a := fun z => e (q.trans z)
        rw [getA_pos q, if_neg n, getA_pos q]
      · rw [getA_neg q, ih, getA_neg e, getA_neg q]
theorem getA_put (l : List (α × β)) (a j : α) (b : β) : getA (putA l a b) j = if j = a then some b else getA l j := by
  unfold putA
  cases h : getA l a with
  | some c =>
    rw [if_pos (show (some c).isSome = true from rfl), getA_map, h]
    rfl
  | none =>
    rw [if_neg (by simp), getA_app]
    by_cases q : j = a
    · subst q
      rw [h, if_pos rfl, Option.none_or, getA_pos rfl]
    · rw [if_neg q, getA_neg (fun z => q z.symm), getA_nil, Option.or_none]
theorem put_len (l : List (α × β)) (a : α) (b : β) : (putA l a b).length ≤ l.length + 1 := by
  unfold putA
  split
  · rw [List.length_map]
    omega
  · rw [List.length_append]
    exact Nat.le_refl _
theorem getA_none {l : List (α × β)} {a : α} : getA l a = none ↔ a ∉ l.map (·.1) := by
  induction l with
  | nil => simp [getA_nil]
  | cons p l ih =>
    by_cases e : p.1 = a
    · rw [getA_pos e]
      simp [e]
    · rw [getA_neg e, ih, List.map_cons, List.mem_cons, not_or]
      exact ⟨fun h => ⟨fun q => e q.symm, h⟩, fun h => h.2⟩
theorem put_keys (l : List (α × β)) (a : α) (b : β) : (putA l a b).map (·.1) = if a ∈ l.map (·.1) then l.map (·.1) else l.map (·.1) ++ [a] := by
  unfold putA
  by_cases h : a ∈ l.map (·.1)
  · have q : (getA l a).isSome = true := by
      cases z : getA l a with
      | some c => rfl
      | none => exact absurd h (getA_none.mp z)
    rw [if_pos q, if_pos h, List.map_map]
    refine List.map_congr_left fun p _ => ?_
    show (if p.1 = a then (p.1, b) else p).1 = p.1
    split <;> rfl
  · rw [if_neg h, if_neg (by rw [getA_none.mpr h]; simp), List.map_append]
    rfl
theorem put_nodup {l : List (α × β)} (h : (l.map (·.1)).Nodup) (a : α) (b : β) : ((putA l a b).map (·.1)).Nodup := by
  rw [put_keys]
  split
  · exact h
  · rename_i n
    rw [List.nodup_append]
    exact ⟨h, by simp, fun x hx y hy => by rw [List.mem_singleton.mp hy]; exact fun z => n (z ▸ hx)⟩
theorem getA_mem {l : List (α × β)} {a : α} {b : β} (h : getA l a = some b) : (a, b) ∈ l := by
  induction l with
  | nil => rw [getA_nil] at h; cases h
  | cons p l ih =>
    by_cases e : p.1 = a
    · rw [getA_pos e] at h
      obtain ⟨x, y⟩ := p
      cases h
      cases e
      exact List.mem_cons_self
    · rw [getA_neg e] at h
      exact List.mem_cons_of_mem _ (ih h)
theorem getA_of_mem {l : List (α × β)} (n : (l.map (·.1)).Nodup) {a : α} {b : β} (h : (a, b) ∈ l) : getA l a = some b := by
  induction l with
  | nil => cases h
  | cons p l ih =>
    rw [List.map_cons, List.nodup_cons] at n
    rcases List.mem_cons.mp h with e | h
    · rw [← e]
      exact getA_pos rfl
    · rw [getA_neg (fun z => n.1 (z ▸ List.mem_map.mpr ⟨_, h, rfl⟩))]
      exact ih n.2 h
end

/-- the V-level twin of storedH -/
def putN (ks : List (NestedKey × Addr × V)) (k : NestedKey) (a : Addr) (v : V) : List (NestedKey × Addr × V) :=
  if (ks.find? fun x => decide (x.1 = k)).isSome then ks.map (fun x => if x.1 = k then (x.1, x.2.1, v) else x) else ks ++ [(k, a, v)]
theorem sameK_find {k : NestedKey} : ∀ {ks : List (NestedKey × Addr × V)} {xs : List (NestedKey × Addr × Value)}, Paired SameK ks xs → (ks.find? fun x => decide (x.1 = k)).isSome = (atKey xs k).isSome
  | _, _, .nil => rfl
  | _, _, .cons (a := x) (b := y) r t => by
    have ih := sameK_find (k := k) t
    unfold atKey at ih ⊢
    by_cases e : x.1 = k
    · have e' : y.1 = k := r.1.symm.trans e
      simp [List.find?_cons, e, e']
    · have e' : ¬ y.1 = k := fun z => e (r.1.trans z)
      simp only [List.find?_cons, e, e', decide_false, Bool.false_eq_true, if_false]
      exact ih
theorem sameK_put {k : NestedKey} {a : Addr} {v : V} {u : Value} (r : RelV v u) {ks : List (NestedKey × Addr × V)} {xs : List (NestedKey × Addr × Value)} (p : Paired SameK ks xs) : Paired SameK (putN ks k a v) (storedH xs k a u) := by
  unfold putN storedH
  rw [sameK_find p]
  split
  · rename_i hh
    clear hh
    induction p with
    | nil => exact .nil
    | @cons x y _ _ q _ ih =>
      refine .cons ?_ ih
      obtain ⟨q1, q2, q3⟩ := q
      show SameK (if x.1 = k then (x.1, x.2.1, v) else x) (if y.1 = k then (y.1, y.2.1, u) else y)
      by_cases e : x.1 = k
      · rw [if_pos e, if_pos (q1.symm.trans e)]
        exact ⟨q1, q2, r⟩
      · rw [if_neg e, if_neg fun z => e (q1.trans z)]
        exact ⟨q1, q2, q3⟩
  · exact Paired.app p (.cons ⟨rfl, rfl, r⟩ .nil)
section
variable {α β : Type} [DecidableEq α] {w : World} {k : KRp α} {r : Rp β} {H H' : Hp} {d : Addr} {kvs : List (α × β)}
def N3 (k : KRp α) (r : Rp β) (H : Hp) (q : NestedKey × Addr × V) (p : α × β) : Prop := q.1 = k.key p.1 ∧ k.p.rel H (.ref q.2.1) p.1 ∧ r.rel H q.2.2 p.2
def dictAt (w : World) (k : KRp α) (r : Rp β) (H : Hp) (d : Addr) (kvs : List (α × β)) : Prop := ∃ ks, H d = some (rawD w d ks) ∧ Paired (N3 k r H) ks kvs
theorem N3.imm (ir : Imm r) (e : TupE H H') {q : NestedKey × Addr × V} {p : α × β} (h : N3 k r H q p) : N3 k r H' q p := ⟨h.1, k.imm e h.2.1, ir e h.2.2⟩
theorem dictAt.keep (ir : Imm r) (e : TupE H H') (eq : H' d = H d) (h : dictAt w k r H d kvs) : dictAt w k r H' d kvs := by
  obtain ⟨ks, h1, h2⟩ := h
  exact ⟨ks, eq.trans h1, paired_imp (fun _ _ z => z.imm ir e) h2⟩
theorem dictAt.ext (e : ExtN H H') (h : dictAt w k r H d kvs) : dictAt w k r H' d kvs := by
  obtain ⟨ks, h1, h2⟩ := h
  exact ⟨ks, e _ _ h1 (Soft.dic w d ks).ntbl, paired_imp (fun _ _ z => ⟨z.1, k.p.mono e z.2.1, r.mono e z.2.2⟩) h2⟩
theorem dictAt.soft (h : dictAt w k r H d kvs) : ∃ o, H d = some o ∧ Soft o := by
  obtain ⟨ks, h1, _⟩ := h
  exact ⟨_, h1, .dic _ _ _⟩
def pD (w : World) (k : KRp α) (r : Rp β) : Rp (List (α × β)) := ⟨fun H v kvs => ∃ d, v = .ref d ∧ dictAt w k r H d kvs, fun e h => by
  obtain ⟨d, h1, h2⟩ := h
  exact ⟨d, h1, h2.ext e⟩⟩
theorem n3_find {a : α} : ∀ {ks : List (NestedKey × Addr × V)} {kvs : List (α × β)}, Paired (N3 k r H) ks kvs → (ks.find? fun x => decide (x.1 = k.key a)).isSome = (getA kvs a).isSome
  | _, _, .nil => rfl
  | _, _, .cons (a := x) (b := y) q t => by
    have ih := n3_find (a := a) t
    unfold getA at ih ⊢
    by_cases e : y.1 = a
    · have e' : x.1 = k.key a := q.1.trans (by rw [e])
      simp [List.find?_cons, e, e']
    · have e' : ¬ x.1 = k.key a := fun z => e (k.inj _ _ (q.1.symm.trans z))
      simp only [List.find?_cons, e, e', decide_false, Bool.false_eq_true, if_false]
      exact ih
theorem n3_put {a : α} {b : β} {ad : Addr} {v : V} (ir : Imm r) (e : TupE H H') (ha : k.p.rel H' (.ref ad) a) (hb : r.rel H' v b) {ks : List (NestedKey × Addr × V)} {kvs : List (α × β)} (p : Paired (N3 k r H) ks kvs) :
    Paired (N3 k r H') (putN ks (k.key a) ad v) (putA kvs a b) := by
  unfold putN putA
  rw [n3_find p]
  split
  · rename_i hh
    clear hh
    induction p with
    | nil => exact .nil
    | @cons x y _ _ q _ ih =>
      refine .cons ?_ ih
      show N3 k r H' (if x.1 = k.key a then (x.1, x.2.1, v) else x) (if y.1 = a then (y.1, b) else y)
      by_cases z : y.1 = a
      · rw [if_pos z, if_pos (q.1.trans (by rw [z]))]
        exact ⟨q.1, k.imm e q.2.1, hb⟩
      · rw [if_neg z, if_neg fun z' => z (k.inj _ _ (q.1.symm.trans z'))]
        exact q.imm ir e
  · exact Paired.app (paired_imp (fun _ _ z => z.imm ir e) p) (.cons ⟨rfl, ha, hb⟩ .nil)
theorem n3_get {a : α} : ∀ {ks : List (NestedKey × Addr × V)} {xs : List (NestedKey × Addr × Value)} {kvs : List (α × β)}, Paired (N3 k r H) ks kvs → Paired SameK ks xs →
    (∀ b, getA kvs a = some b → ∃ p v, atKey xs (k.key a) = some p ∧ RelV v p.2 ∧ r.rel H v b) ∧ (getA kvs a = none → atKey xs (k.key a) = none)
  | _, _, _, .nil, .nil => ⟨fun b h => by rw [getA_nil] at h; (cases h), fun _ => rfl⟩
  | _, _, _, .cons (a := x) (b := y) q t, .cons (b := z) s t' => by
    have ih := n3_get (a := a) t t'
    unfold atKey at ih ⊢
    by_cases e : y.1 = a
    · have e' : z.1 = k.key a := s.1.symm.trans (q.1.trans (by rw [e]))
      rw [getA_pos e]
      refine ⟨fun b hb => ⟨z.2, x.2.2, by simp [List.find?_cons, e'], s.2.2, ?_⟩, fun h => by cases h⟩
      cases hb
      exact q.2.2
    · have e' : ¬ z.1 = k.key a := fun h => e (k.inj _ _ (q.1.symm.trans (s.1.trans h)))
      rw [getA_neg e]
      simp only [List.find?_cons, e', decide_false]
      exact ih
end

/-! ### the object at hand -/
section
variable {α β : Type} [DecidableEq α] {X : Cx} {pins : List (Addr × Obj)} {σ : L2.St} {H H' : Hp} {s : Shared} {k : KRp α} {r : Rp β} {d : Addr} {kvs : List (α × β)} {A : Around} {E : Value → Shared → Prop}
theorem n_open (I : Inv X pins σ H s) (h : dictAt X.w k r H d kvs) : ∃ (ks : List (NestedKey × Addr × V)) (xs : List (NestedKey × Addr × Value)), H d = some (rawD X.w d ks) ∧ Paired (N3 k r H) ks kvs ∧ Paired SameK ks xs ∧
    s.heap.DictOfH (nestedKind X.prog X.w) d xs ∧ (d == sysModules) = false ∧ xs.length = kvs.length ∧ xs.length ≤ sizeLine := by
  obtain ⟨ks, h1, h2⟩ := h
  obtain ⟨⟨xs, o, es, ep, p, ho, hc, hd, he, hs, hn, hz⟩, _, _⟩ := I.hok d _ h1
  have hl : xs.length = kvs.length := p.length.symm.trans h2.length
  refine ⟨ks, xs, h1, h2, p, ⟨o, es, ep, ho, hc, hd, he, ?_, hn⟩, hs, hl, hz⟩
  have key : ∀ {ks : List (NestedKey × Addr × V)} {xs : List (NestedKey × Addr × Value)} {kvs : List (α × β)}, Paired (N3 k r H) ks kvs → Paired SameK ks xs → ∀ x ∈ xs, (nestedKind X.prog X.w).is s.heap x.1 x.2.1 := by
    intro ks xs kvs p1 p2
    induction p2 generalizing kvs with
    | nil => exact fun x hx => absurd hx (by simp)
    | cons q _ ih =>
      cases p1 with
      | cons q1 t1 =>
        intro x hx
        rcases List.mem_cons.mp hx with e | hx
        · subst e
          obtain ⟨a, ea, hn⟩ := k.at_ I.hok q1.2.1
          cases ea
          rw [← q.1, ← q.2.1, q1.1]
          exact ⟨hn, k.deep _⟩
        · exact ih t1 x hx
  exact key h2 p
theorem key_is (I : Inv X pins σ H s) {v : V} {a : α} {u : Value} (h : k.p.rel H v a) (ru : RelV v u) : ∃ ad, v = .ref ad ∧ u = .ref ad ∧ (nestedKind X.prog X.w).is s.heap (k.key a) ad := by
  obtain ⟨ad, e, hn⟩ := k.at_ I.hok h
  subst e
  exact ⟨ad, rfl, ru, hn, k.deep a⟩
theorem n_typeIs (I : Inv X pins σ H s) (h : dictAt X.w k r H d kvs) : s.TypeIs (.ref d) "dict" := by
  obtain ⟨_, _, _, _, _, dd, _⟩ := n_open I h
  exact dd.typeIs
theorem n_isD (I : Inv X pins σ H s) (h : dictAt X.w k r H d kvs) : ∀ b, Value.ref d = .ref b → ∃ ob, s.heap.get? b = some ob ∧ ob.dict = none := fun b q => by
  cases q
  obtain ⟨_, _, _, _, _, ⟨ob, _, _, h1, h2, _⟩, _⟩ := n_open I h
  exact ⟨ob, h1, h2.2.1⟩
theorem raw_ok {P : Program} {w : World} {H' : Hp} {h' : Heap} {ks : List (NestedKey × Addr × V)} {xs : List (NestedKey × Addr × Value)} (p : Paired SameK ks xs) (dd : h'.DictOfH (nestedKind P w) d xs) (hd : (d == sysModules) = false) (hz : xs.length ≤ sizeLine) :
    ObjOk P w H' h' d (rawD w d ks) := by
  obtain ⟨o, es, ep, ho, hc, hdat, he, _, hn⟩ := dd
  refine ⟨⟨xs, o, es, ep, p, ho, hc, hdat, he, hd, hn, hz⟩, ⟨o, ho⟩, fun h1 h2 q st => ?_⟩
  obtain ⟨xs, o, es, ep, p, ho, z⟩ := q
  exact ⟨xs, o, es, ep, p, st _ ho, z⟩
theorem n_get {Q : Value → Shared → Prop} {v : V} {u : Value} {a : α} {b : β} (hu : A.units + 9 < cLine) (I : Inv X pins σ H s) (h : dictAt X.w k r H d kvs) (hk : k.p.rel H v a) (ru : RelV v u) (g : getA kvs a = some b)
    (q : ∀ v' w' s', Inv X pins σ H s' → RelV v' w' → r.rel H v' b → Q w' s') : wpAny (model X.prog X.w) A (getItem (.ref d) u) Q E s := by
  obtain ⟨ks, xs, h1, h2, h3, dd, hs, hl, hz⟩ := n_open I h
  obtain ⟨ad, rfl, rfl, hi⟩ := key_is I hk ru
  obtain ⟨p, v', e1, e2, e3⟩ := (n3_get h2 h3).1 b g
  exact wpAny_getItem_heap (knd := nestedKind X.prog X.w) (show A.units + 1 + 8 < cLine by omega) hi dd e1 (q v' p.2 _ (I.tok _) e2 e3)
theorem n_in {Q : Value → Shared → Prop} {v : V} {u : Value} {a : α} (hu : A.units + 9 < cLine) (I : Inv X pins σ H s) (h : dictAt X.w k r H d kvs) (hk : k.p.rel H v a) (ru : RelV v u)
    (q : ∀ s', Inv X pins σ H s' → Q (.bool (getA kvs a).isSome) s') : wpAny (model X.prog X.w) A (compareOp .In u (.ref d)) Q E s := by
  obtain ⟨ks, xs, h1, h2, h3, dd, hs, hl, hz⟩ := n_open I h
  obtain ⟨ad, rfl, rfl, hi⟩ := key_is I hk ru
  refine wpAny_in_heap (knd := nestedKind X.prog X.w) (show A.units + 1 + 8 < cLine by omega) hi hs dd ?_
  rw [← sameK_find h3, n3_find h2]
  exact q _ (I.tok _)
theorem n_notIn {Q : Value → Shared → Prop} {v : V} {u : Value} {a : α} (hu : A.units + 9 < cLine) (I : Inv X pins σ H s) (h : dictAt X.w k r H d kvs) (hk : k.p.rel H v a) (ru : RelV v u)
    (q : ∀ s', Inv X pins σ H s' → Q (.bool (!(getA kvs a).isSome)) s') : wpAny (model X.prog X.w) A (compareOp .NotIn u (.ref d)) Q E s := by
  obtain ⟨ks, xs, h1, h2, h3, dd, hs, hl, hz⟩ := n_open I h
  obtain ⟨ad, rfl, rfl, hi⟩ := key_is I hk ru
  refine notIn_keyed (knd := nestedKind X.prog X.w) (show A.units + 1 + 8 < cLine by omega) hi hs ⟨xs, dd, rfl⟩ ?_
  rw [valueAt_pairsH, Option.isSome_map, ← sameK_find h3, n3_find h2]
  exact q _ (I.tok _)
theorem n_set {Q : Unit → Shared → Prop} {v y : V} {u u' : Value} {a : α} {b : β} (ir : Imm r) (hu : A.units + 9 < cLine) (I : Inv X pins σ H s) (h : dictAt X.w k r H d kvs) (hk : k.p.rel H v a) (ru : RelV v u) (hb : r.rel H y b) (ry : RelV y u') (hz : kvs.length < sizeLine)
    (q : ∀ H' o s', Inv X pins σ H' s' → H' = upd H d o → Soft o → dictAt X.w k r H' d (putA kvs a b) → Q () s') : wpAny (model X.prog X.w) A (setItem (.ref d) u u') Q E s := by
  obtain ⟨ks, xs, h1, h2, h3, dd, hs, hl, hz'⟩ := n_open I h
  obtain ⟨ad, rfl, rfl, hi⟩ := key_is I hk ru
  refine wpAny_setItem_heap (knd := nestedKind X.prog X.w) (hsz := hz') (show A.units + 1 + 8 < cLine by omega) hi dd fun h' dd' sb => ?_
  have te : TupE H (L2.upd H d (rawD X.w d (putN ks (k.key a) ad y))) := TupE.upd h1 (Soft.dic _ _ _).ntup
  have he : ∃ o, h'.get? d = some o := let ⟨o, _, _, ho, _⟩ := dd'; ⟨o, ho⟩
  have hl2 : (storedH xs (k.key a) ad u').length ≤ sizeLine := by
    unfold storedH
    split
    · rw [List.length_map]
      exact hz'
    · rw [List.length_append]
      show xs.length + 1 ≤ sizeLine
      omega
  exact q _ _ _ (d_write I (by rw [h1]; exact True.intro) sb he (raw_ok (sameK_put ry h3) dd' hs hl2)) rfl (.dic _ _ _) ⟨_, upd_same, n3_put ir te (k.imm te hk) (ir te hb) h2⟩
theorem n_get1 {Q : Value → Shared → Prop} {v : V} {u : Value} {a : α} (hu : A.units + 9 < cLine) (I : Inv X pins σ H s) (h : dictAt X.w k r H d kvs) (hk : k.p.rel H v a) (ru : RelV v u)
    (q : ∀ v' w' s', Inv X pins σ H s' → RelV v' w' → (∀ b, getA kvs a = some b → r.rel H v' b) → (getA kvs a = none → v' = .non) → Q w' s') : wpAny (model X.prog X.w) A (call (.builtin "dict.get") [.ref d, u]) Q E s := by
  obtain ⟨ks, xs, h1, h2, h3, dd, hs, hl, hz⟩ := n_open I h
  obtain ⟨ad, rfl, rfl, hi⟩ := key_is I hk ru
  refine get_keyed (knd := nestedKind X.prog X.w) (show A.units + 1 + 8 < cLine by omega) hi hs ⟨xs, dd, rfl⟩ ?_
  rw [valueAt_pairsH]
  have g := n3_get (a := a) h2 h3
  cases z : getA kvs a with
  | none =>
    rw [g.2 z]
    exact q .non _ _ (I.tok _) rfl (fun b e => by rw [z] at e; cases e) fun _ => rfl
  | some b =>
    obtain ⟨p, v', e1, e2, e3⟩ := g.1 b z
    rw [e1]
    exact q v' p.2 _ (I.tok _) e2 (fun b' e => by rw [z] at e; cases e; exact e3) fun e => by rw [z] at e; cases e
theorem n_get2 {Q : Value → Shared → Prop} {v y : V} {u u' : Value} {a : α} (hu : A.units + 9 < cLine) (I : Inv X pins σ H s) (h : dictAt X.w k r H d kvs) (hk : k.p.rel H v a) (ru : RelV v u) (ry : RelV y u')
    (q : ∀ v' w' s', Inv X pins σ H s' → RelV v' w' → (∀ b, getA kvs a = some b → r.rel H v' b) → (getA kvs a = none → v' = y) → Q w' s') : wpAny (model X.prog X.w) A (call (.builtin "dict.get") [.ref d, u, u']) Q E s := by
  obtain ⟨ks, xs, h1, h2, h3, dd, hs, hl, hz⟩ := n_open I h
  obtain ⟨ad, rfl, rfl, hi⟩ := key_is I hk ru
  refine getOr_keyed (knd := nestedKind X.prog X.w) (show A.units + 1 + 8 < cLine by omega) hi hs ⟨xs, dd, rfl⟩ ?_
  rw [valueAt_pairsH]
  have g := n3_get (a := a) h2 h3
  cases z : getA kvs a with
  | none =>
    rw [g.2 z]
    exact q y _ _ (I.tok _) ry (fun b e => by rw [z] at e; cases e) fun _ => rfl
  | some b =>
    obtain ⟨p, v', e1, e2, e3⟩ := g.1 b z
    rw [e1]
    exact q v' p.2 _ (I.tok _) e2 (fun b' e => by rw [z] at e; cases e; exact e3) fun e => by rw [z] at e; cases e
theorem n_empty {P : Program} {w : World} {H : Hp} (h : Heap) (hb : sysModules < h.objs.size) : ObjOk P w H (h.push { cls := .type "dict", data := .dict #[] }) h.objs.size (rawD w h.objs.size []) :=
  raw_ok .nil (Heap.DictOfH.new h) (beq_eq_false_iff_ne.mpr (Ne.symm (Nat.ne_of_lt hb))) (Nat.zero_le _)
end
end LT
/-! ## LtSort -/
set_option Elab.async false
set_option linter.all false
set_option maxRecDepth 100000
set_option maxHeartbeats 4000000
namespace LT
open PySem PySem.W PySem.Spec PyProof.Rows L2 LamX

/-! ### what may be sorted -/
structure SRp (K : PySem.W.Frag) (α : Type) where
  p : Rp α
  enc : α → PyData
  dp : ∀ {H : Hp} {v : V} {x : α}, p.rel H v x → Dp K H v (enc x)
  al : ∀ x y, alike (enc x) (enc y) = true
  dep : ∀ x, (enc x).depth ≤ 8
section
variable {K : PySem.W.Frag} {H : Hp}
theorem dp_all {α : Type} {r : Rp α} {enc : α → PyData} (h : ∀ (v : V) (x : α), r.rel H v x → Dp K H v (enc x)) : ∀ {vs : List V} {xs : List α}, Paired (r.rel H) vs xs → DpAll K H vs (xs.map enc)
  | _, _, .nil => .nil
  | _, _, .cons a b => .cons (h _ _ a) (dp_all h b)
theorem dp_tup {α : Type} {r : Rp α} {enc : α → PyData} (h : ∀ (v : V) (x : α), r.rel H v x → Dp K H v (enc x)) {v : V} {xs : List α} (e : (pTup r).rel H v xs) : Dp K H v (.tuple (xs.map enc)) := by
  obtain ⟨a, vs, rfl, e1, e2⟩ := e
  exact .tup (sq_t e1) (dp_all h e2)
theorem dp_lst {α : Type} {r : Rp α} {enc : α → PyData} (h : ∀ (v : V) (x : α), r.rel H v x → Dp K H v (enc x)) {v : V} {xs : List α} (e : (pLst r).rel H v xs) : Dp K H v (.list (xs.map enc)) := by
  obtain ⟨a, vs, rfl, e1, e2⟩ := e
  exact .lst (sq_l e1) (dp_all h e2)
theorem dp_pair {α β : Type} {r : Rp α} {s : Rp β} {e1 : α → PyData} {e2 : β → PyData} (h1 : ∀ (v : V) (x : α), r.rel H v x → Dp K H v (e1 x)) (h2 : ∀ (v : V) (x : β), s.rel H v x → Dp K H v (e2 x)) {v : V} {x : α × β} (e : (pPair r s).rel H v x) :
    Dp K H v (.tuple [e1 x.1, e2 x.2]) := by
  obtain ⟨a, u, w, rfl, q1, q2, q3⟩ := e
  exact .tup (sq_t q1) (.cons (h1 _ _ q2) (.cons (h2 _ _ q3) .nil))
theorem dpI {v : V} {x : Int} (e : pI.rel H v x) : Dp K H v (.int x) := by cases e; exact .int _
theorem dpN {v : V} {x : Nat} (e : pN.rel H v x) : Dp K H v (.int (x : Int)) := by cases e; exact .int _
end
def encR (r : Row) : PyData := .tuple (r.map PyData.int)
def encT (t : Tbl) : PyData := .tuple (t.map encR)
theorem dpR {K : PySem.W.Frag} {H : Hp} {v : V} {x : Row} (e : pR.rel H v x) : Dp K H v (encR x) := dp_tup (fun _ _ h => dpI h) e
theorem dpT {K : PySem.W.Frag} {H : Hp} {v : V} {x : Tbl} (e : pT.rel H v x) : Dp K H v (encT x) := dp_tup (fun _ _ h => dpR h) e
theorem alike_R (x y : Row) : alike (encR x) (encR y) = true := by
  unfold encR
  simp only [alike]
  exact alike_ints x y
theorem alike_rows : ∀ xs ys : List Row, alikeAll (xs.map encR) (ys.map encR) = true
  | [], _ => by simp [alikeAll]
  | _ :: _, [] => by simp [alikeAll]
  | x :: xs, y :: ys => by
    rw [List.map_cons, List.map_cons, alikeAll, alike_rows xs ys, alike_R x y]
    rfl
theorem alike_T (x y : Tbl) : alike (encT x) (encT y) = true := by
  unfold encT
  simp only [alike]
  exact alike_rows x y
theorem depth_all {α : Type} (f : α → PyData) (n : Nat) (h : ∀ x, (f x).depth ≤ n) : ∀ xs : List α, PyData.depthAll (xs.map f) ≤ n
  | [] => by simp [PyData.depthAll]
  | x :: xs => by
    rw [List.map_cons, PyData.depthAll]
    exact Nat.max_le.mpr ⟨h x, depth_all f n h xs⟩
theorem depth_R (x : Row) : (encR x).depth ≤ 1 := by
  unfold encR
  rw [PyData.depth]
  exact Nat.succ_le_succ (depth_all PyData.int 0 (fun _ => by simp [PyData.depth]) x)
theorem depth_T (x : Tbl) : (encT x).depth ≤ 2 := by
  unfold encT
  rw [PyData.depth]
  exact Nat.succ_le_succ (depth_all encR 1 depth_R x)
def sI (K : PySem.W.Frag) : SRp K Int := ⟨pI, PyData.int, dpI, fun _ _ => by simp [alike], fun _ => by simp [PyData.depth]⟩
def sR (K : PySem.W.Frag) : SRp K Row := ⟨pR, encR, dpR, alike_R, fun x => Nat.le_trans (depth_R x) (by decide)⟩
def sT (K : PySem.W.Frag) : SRp K Tbl := ⟨pT, encT, dpT, alike_T, fun x => Nat.le_trans (depth_T x) (by decide)⟩

/-! ### sorted of anything that is collected -/
section
variable {prog : Program} {w : World} {A : Around} {E : Value → Shared → Prop} {s : Shared} {v : Value} {vs : List Value} {kw : List (Str × Value)} {Q : Value → Shared → Prop}
def Coll (prog : Program) (w : World) (A : Around) (s : Shared) (v : Value) (ok : List Value → Prop) : Prop := ∀ (E : Value → Shared → Prop) (R : List Value → Shared → Prop),
  (∀ vs h1 tk, ok vs → (∀ b o, s.heap.get? b = some o → h1.get? b = some o) → R vs { s with heap := h1, toks := tk }) → wpAny (model prog w) A (collect v) R E s
theorem sorted_src {ok : List Value → Prop} (hC : Coll prog w A.in1 s v ok) (hL : ∀ vs, ok vs → vs.length ≤ sizeLine) (ha1 : argsOk "sorted" ⟨[v], kw⟩) (ha2 : ∀ x, argsOk "list.sort" ⟨[.ref x], kw⟩)
    (body : ∀ (E' : Value → Shared → Prop) (vs : List Value) (h1 : Heap) (tk : Nat), ok vs → (∀ b o, s.heap.get? b = some o → h1.get? b = some o) →
      wpAny (model prog w) A.in1.in1 (Builtin.«list.sort» ⟨[.ref h1.objs.size], kw⟩) (fun f s' => f = .done (.ret .none) ∧ Q (.ref h1.objs.size) s') E' { s with heap := h1.push (seqObj "list" vs.toArray 0), toks := tk }) :
    wpAny (model prog w) A (call (.builtin "sorted") [v] kw) Q E s := by
  refine call_function_entry_kw kind_sorted plain_sorted entry_sorted ha1 ?_
  unfold Builtin.«sorted»
  refine wpAny_bind (m := checkCount "sorted" 1 1 _) (wpAny_pure (wpAny_bind (hC _ _ fun vs h1 tk hok kp => wpAny_bind (wpAny_newList ?_ (hL vs hok)))))
  have hoL : (h1.push (seqObj "list" vs.toArray 0)).get? h1.objs.size = some (seqObj "list" vs.toArray 0) := Heap.get?_push_size _ rfl
  refine wpAny_bind (wpAny_holding (wpAny_call_entry_kw slot_list_sort ⟨_, hoL, rfl⟩ entry_list_sort (wpAny_mono (body _ vs h1 tk hok kp) (fun f s' hf => ?_) fun _ _ e => e) (ha2 _)))
  obtain ⟨e1, hq⟩ := hf
  subst e1
  exact ⟨_, rfl, wpAny_pure ⟨_, rfl, hq⟩⟩
end

section
variable {α : Type} {X : Cx} {pins : List (Addr × Obj)} {σ : L2.St} {H : Hp} {s : Shared} {r : Rp α}
/-- the values us stand for the items xs -/
def ValsFor (r : Rp α) (H : Hp) (us : List Value) (xs : List α) : Prop := EachIs (fun u x => ∃ v, RelV v u ∧ r.rel H v x) us xs
theorem valsFor_of : ∀ {vs : List V} {us : List Value} {xs : List α}, Vals vs us → Paired (r.rel H) vs xs → ValsFor r H us xs
  | _, _, _, .nil, .nil => .nil
  | _, _, _, .cons a b, .cons c d => .cons ⟨_, a, c⟩ (valsFor_of b d)
theorem valsFor_to : ∀ {us : List Value} {xs : List α}, ValsFor r H us xs → ∃ vs, Vals vs us ∧ Paired (r.rel H) vs xs
  | _, _, .nil => ⟨[], .nil, .nil⟩
  | _, _, .cons ⟨v, a, c⟩ t => by
    obtain ⟨vs, h1, h2⟩ := valsFor_to t
    exact ⟨v :: vs, .cons a h1, .cons c h2⟩
theorem valsFor_len {us : List Value} {xs : List α} (h : ValsFor r H us xs) : us.length = xs.length := EachIs.length h
/-- a source of items: a list, a tuple, the keys of a dict -/
def OkV (r : Rp α) (H : Hp) (xs : List α) (us : List Value) : Prop := ValsFor r H us xs ∧ us.length ≤ sizeLine
def SrcV (P : Program) (w : World) (K : PySem.W.Frag) (H : Hp) (v : V) (r : Rp α) (xs : List α) : Prop := ∀ (X : Cx) (pins : List (Addr × Obj)) (σ : L2.St) (s : Shared) (u : Value) (A : Around), X.prog = P → X.w = w → X.K = K → Inv X pins σ H s → RelV v u → A.handled = none → Coll P w A s u (OkV r H xs)
end
section
variable {α β : Type} {P : Program} {w : World} {K : PySem.W.Frag} {H : Hp} {r : Rp α} {v : V} {xs : List α}
theorem src_lst (h : (pLst r).rel H v xs) : SrcV P w K H v r xs := by
  intro X pins σ s u A eP ew eK I ru hh
  subst eP ew eK
  obtain ⟨a, vs, rfl, h1, h2⟩ := h
  cases ru
  obtain ⟨its, rv, p, hz⟩ := I.list (sq_l h1)
  obtain ⟨o, n, ho, hc, _, hd⟩ := p
  intro E R k
  have hl : its.length ≤ sizeLine := by rw [← rv.length]; exact hz
  refine wpAny_collect_seq (T := "list") (hsz := by rw [List.size_toArray]; exact hl) a (.inl rfl) ho hc hd fun h' kp => ?_
  rw [List.toList_toArray]
  exact k its h' s.toks ⟨valsFor_of rv h2, hl⟩ kp
theorem src_tup (h : (pTup r).rel H v xs) : SrcV P w K H v r xs := by
  intro X pins σ s u A eP ew eK I ru hh
  subst eP ew eK
  obtain ⟨a, vs, rfl, h1, h2⟩ := h
  cases ru
  obtain ⟨its, rv, p, hz⟩ := I.tuple (sq_t h1)
  obtain ⟨o, ho, hc, n, hd⟩ := p
  intro E R k
  have hl : its.length ≤ sizeLine := by rw [← rv.length]; exact hz
  refine wpAny_collect_seq (T := "tuple") (hsz := by rw [List.size_toArray]; exact hl) a (.inr rfl) ho hc hd fun h' kp => ?_
  rw [List.toList_toArray]
  exact k its h' s.toks ⟨valsFor_of rv h2, hl⟩ kp
theorem keys_for [DecidableEq α] {k : KRp α} {r : Rp β} : ∀ {ks : List (NestedKey × Addr × V)} {xs : List (NestedKey × Addr × Value)} {kvs : List (α × β)}, Paired (N3 k r H) ks kvs → Paired SameK ks xs → ValsFor k.p H (xs.map fun x => Value.ref x.2.1) (kvs.map (·.1))
  | _, _, _, .nil, .nil => .nil
  | _, _, _, .cons (a := x) a b, .cons (b := y) c d => .cons ⟨.ref x.2.1, by show Value.ref y.2.1 = Value.ref x.2.1; rw [c.2.1], a.2.1⟩ (keys_for b d)
theorem src_dic [DecidableEq α] {k : KRp α} {r : Rp β} {kvs : List (α × β)} (h : (pD w k r).rel H v kvs) : SrcV P w K H v k.p (kvs.map (·.1)) := by
  intro X pins σ s u A eP ew eK I ru hh
  subst eP ew eK
  obtain ⟨d, rfl, hd⟩ := h
  cases ru
  obtain ⟨ks, xs, h1, h2, h3, dd, hs, hl, hz⟩ := n_open I hd
  obtain ⟨es, ep, hr, hsz, he⟩ := dd.raw
  intro E R q
  refine kdu_collect (KdlSrc.rawDict (es := es) (ep := ep) hs) hh hr (by rw [hsz]; exact hz) fun h' tk acc kp hacc => ?_
  have e : acc.toList = xs.map fun x => Value.ref x.2.1 := by
    refine List.ext_getElem? fun i => ?_
    rw [List.getElem?_map, Array.getElem?_toList]
    by_cases hi : i < es.size
    · obtain ⟨y, hy, e1, _⟩ := he i hi
      have hi' : i < acc.size := by rw [hacc.1]; exact hi
      obtain ⟨hi2, e2⟩ := hacc.2 i acc[i] (Array.getElem?_eq_getElem hi')
      rw [Array.getElem?_eq_getElem hi', e2, e1, hy]
      rfl
    · have hx : xs[i]? = none := List.getElem?_eq_none (by omega)
      rw [hx, Array.getElem?_eq_none (by rw [hacc.1]; omega)]
      rfl
  rw [e]
  exact q _ h' tk ⟨keys_for h2 h3, by rw [List.length_map]; exact hz⟩ kp
end
section
variable {α : Type} {X : Cx} {K : PySem.W.Frag}
/-- sorted(..) without a key -/
def rSortP {α : Type} (P : Program) (w : World) (K : PySem.W.Frag) (sr : SRp K α) : List V → Hp → VK → Prop := fun vs H Q => ∃ v xs, vs = [v] ∧ SrcV P w K H v sr.p xs ∧ Sortable (xs.map sr.enc) ∧
  ∀ p ws, H p = none → Paired (sr.p.rel H) ws (xs.mergeSort (dataLe false sr.enc)) → Q (.ref p) (upd H p (.lst ws))
theorem cr_sortP (sr : SRp X.K α) (hc : X.calm = true) (hu : X.A.units + 10 < cLine) : CallR X (.builtin "sorted") (rSortP X.prog X.w X.K sr) := by
  intro pins s σ H vs us Q I rv h
  obtain ⟨v, xs, rfl, hs, hk, q⟩ := h
  obtain ⟨u, rfl, ru⟩ := vals1 rv
  have hh := I.ok.hd hc
  refine sorted_src (hs X pins σ s u X.A.in1 rfl rfl rfl I ru hh) (fun vs o => o.2) (args_sorted1 _) (fun _ => args_list_sort _) fun E' its h1 tk ok kp => ?_
  have I1 : Inv X pins σ H { s with heap := h1, toks := tk } := I.kept kp
  obtain ⟨e, hl⟩ := ok
  have hL : its.length ≤ sizeLine := hl
  have er : EachIs (fun u x => ∃ as, Reads h1 u (sr.enc x) as) its xs := by
    have e2 : EachIs (fun u x => ∃ v, RelV v u ∧ sr.p.rel H v x) its xs := e
    exact e2.mono fun u x ⟨v, a, b⟩ => Dp.reads I1 _ _ _ (sr.dp b) a
  have hoL : (h1.push (seqObj "list" its.toArray 0)).get? h1.objs.size = some (seqObj "list" its.toArray 0) := Heap.get?_push_size _ rfl
  have er' : EachIs (fun u x => ∃ as, Reads (sortingHeap (h1.push (seqObj "list" its.toArray 0)) h1.objs.size its) u (sr.enc x) as) its xs :=
    er.mono fun u x ⟨as, z⟩ => ⟨as, PyProof.Rows.Reads.keeps (fun b o q => sortingHeap_old (Nat.ne_of_lt (Heap.lt_size q)) (Heap.get?_push_of_some _ q)) z⟩
  have hal : AllAlike (xs.map sr.enc) := AllAlike.of sr.al
  refine list_sort_vals (κ := dataKind (sortingHeap (h1.push (seqObj "list" its.toArray 0)) h1.objs.size its) (xs.map sr.enc)) (s := { s with heap := h1.push (seqObj "list" its.toArray 0), toks := tk }) hoL
    (SortsAt.data (s := { s with heap := sortingHeap (h1.push (seqObj "list" its.toArray 0)) h1.objs.size its, toks := tk }) (each_map (R := fun v d => ∃ as, Reads (sortingHeap (h1.push (seqObj "list" its.toArray 0)) h1.objs.size its) v d as) sr.enc er') hal hk
      (bound_map (A := X.A.in1.in1) fun x _ => by have := sr.dep x; show X.A.units + 1 + 1 + _ < cLine; omega)) hL ⟨rfl, ?_⟩
  have eo := sortVals_data (rev := false) e er' hal
  obtain ⟨ws, w1, w2⟩ := valsFor_to eo
  obtain ⟨ep, he'⟩ := PyProof.Rows.sortedHeap_at (vs := its) (out := (sortVals (dataKind (sortingHeap (h1.push (seqObj "list" its.toArray 0)) h1.objs.size its) (xs.map sr.enc)) false its its).toArray) hoL
  have hws : ws.length ≤ sizeLine := by
    rw [w2.length, List.length_mergeSort, ← valsFor_len e]
    exact hL
  refine ⟨.ref h1.objs.size, upd H h1.objs.size (.lst ws), I1.laid (t' := tk) (fun b o z => ?_) (Nat.le_refl _) ⟨hws, _, ep, w1, he'⟩, rfl, q _ ws (I1.hok.fresh (Nat.le_refl _)) w2⟩
  have hb : b < h1.objs.size := Heap.lt_size z
  rw [PyProof.Rows.sortedHeap_old (Nat.ne_of_lt hb) (by rw [size_push']; exact Nat.lt_succ_of_lt hb)]
  exact Heap.get?_push_of_some _ z
end
end LT
/-! ## LtLam -/
set_option Elab.async false
set_option linter.all false
set_option maxRecDepth 100000
set_option maxHeartbeats 4000000
namespace LT
open PySem PySem.W PySem.Spec PyProof.Rows L2 LamX

section
variable {X : Cx} {pins : List (Addr × Obj)} {σ : L2.St} {H : Hp} {s : Shared} {b : Addr} {o : Obj} {h' : Heap}
theorem pin_of (I : L2.Inv X pins σ H s) (hf : FpOk X pins H b) (ho : s.heap.get? b = some o) (hd : ∀ v, o.data ≠ .cell v) : L2.Inv X (pins ++ [(b, o)]) σ H s :=
  I.pins_of fun p hp => (List.mem_append.mp hp).elim (fun z => I.pin p (List.mem_append_right _ z)) fun z => by
    rw [List.mem_singleton.mp z]
    exact ⟨ho, hf.1, hf.2.1, hf.2.2.1, hd⟩
theorem fp_keep {pins' : List (Addr × Obj)} {H' : Hp} (hf : FpOk X pins H b) (hn : H' b = none) (hp : ∀ p ∈ pins', p ∈ pins ∨ p.1 ≠ b) : FpOk X pins' H' b :=
  ⟨hn, hf.2.1, hf.2.2.1, hf.2.2.2.1, hf.2.2.2.2.1, fun p hm => (List.mem_append.mp hm).elim (fun z => hf.2.2.2.2.2 p (List.mem_append_left _ z)) fun z => (hp p z).elim (fun y => hf.2.2.2.2.2 p (List.mem_append_right _ y)) id⟩
/-- an untracked object of ours is tracked from now on -/
theorem inv_take {u : HO} (I : L2.Inv X pins σ H s) (hf : FpOk X pins H b) (hb : X.s_0.heap.objs.size ≤ b) (new : ObjOk X.prog X.w (upd H b u) s.heap b u) : L2.Inv X pins σ (upd H b u) s := by
  have hn : H b = none := hf.1
  have e0 : ∀ c oc, X.s_0.heap.get? c = some oc → c ≠ b := fun c oc e => Nat.ne_of_lt (Nat.lt_of_lt_of_le (Heap.lt_size e) hb)
  refine ⟨I.ok, I.os, I.bare, ⟨I.base.keep, I.base.slot, fun c oc e n hx => ?_, I.base.there, fun c xs e => ?_, fun c oc w e => ?_, fun c ps e => ?_⟩, I.loc, I.cell, ?_, fun x c e => ?_, fun p hp => ?_, fun c w e => ?_, I.len⟩
  · rw [upd_ne (e0 c oc e)]
    exact I.base.free c oc e n hx
  · have q := I.base.tups c xs e
    rw [upd_ne (ne_of_none q hn)]
    exact q
  · have q := I.base.frzs c oc w e
    rw [upd_ne (ne_of_none q hn)]
    exact q
  · obtain ⟨more, q⟩ := I.base.tbls c ps e
    exact ⟨more, by rw [upd_ne (ne_of_none q hn)]; exact q⟩
  · rw [upd_ne hf.2.1.symm]
    exact I.free
  · rw [upd_ne (hf.2.2.2.2.1 x c e)]
    exact I.freeC x c e
  · obtain ⟨p1, p2, p3⟩ := I.pin p hp
    exact ⟨p1, by rw [upd_ne (hf.2.2.2.2.2 p hp)]; exact p2, p3⟩
  · by_cases hc : c = b
    · rw [hc, upd_same] at e
      cases e
      rw [hc]
      exact new
    · rw [upd_ne hc] at e
      exact (I.hok c w e).stay (fun d v _ q => q) (fun d q => by rw [upd_ne (ne_of_none q hn)]; exact q) fun d xs q => by rw [upd_ne (ne_of_none q hn)]; exact q
end

/-! ### a lambda with parameters, no captured names, runs -/
theorem lam_run {P : Program} {w : World} {K : PySem.W.Frag} {mg : Str → Option Value} {base : Heap} {k : Nat} {f c' : Addr} {q : Str} {params : Arguments} {body : Expr} {scope : Scope} {pm ctv : Value} {N ps : List Str}
    {A : Around} {outer : List Env} {s : Shared} {H : Hp} {us : List Value} {vs : List V} {Q : VK} {E : XK} {te : TE} (S : FnScope N ps scope)
    (ho : s.heap.get? f = some (kla_obj "<lambda>" q params body scope [] pm c' ctv)) (hcd : s.heap.CodeRec (.ref c') q) (hb : bindArgs (kla_fn "<lambda>" q params body scope [] pm (.ref c') ctv) ⟨us, []⟩ = pure (ps.zip us))
    (hr : Room (k + 1) A) (e0 : Env0 P w K mg base A outer s H) (r : Vals vs us) (hl : vs.length = ps.length)
    (hbody : Room k (A.deeper (envOfC q scope s.heap.objs.size f (.ref c'))) → PE (cxOf CX0 P w K mg base N q scope f (.ref c') A outer s H E) body te ∧ te (L2.start N vs) H Q) :
    codeAny (model P w) A (.call (.ref f) ⟨us, []⟩) (CR CX0 outer P w H s Q E) s := by
  have lim : s.heap.NoLimit := e0.mod.nolimit.keeps fun b o e => (e0.bs b o e).1
  refine kla_callFunE hr.depth ho rfl S.co S.gen rfl hcd ?_
  rw [hb]
  refine wpAny_pure (wpAny_newFunctionEnv_cells S.kind (fun ⟨n, v⟩ hy => ?_) fun env he s1 x => ?_)
  · rcases S.par n (List.of_mem_zip hy).1 with z | z
    · exact .inl z
    · exact .inr ⟨z, PySem.W.cellsFrom_some _ _ _ (.inl z)⟩
  · subst he
    refine ⟨lim.keeps x.toInCall.keep, ?_⟩
    obtain ⟨pb, ht⟩ := hbody (hr.deeper _)
    have I : L2.Inv (cxOf CX0 P w K mg base N q scope f (.ref c') A outer s H E) [] (L2.start N vs) H s1 := inv_start S hr.hd e0 hl r x
    refine kla_codeExpr (wpAny_mono (pb.run [] s1 _ H Q I ht) (fun u s' hq => ?_) fun e s' hq => hq)
    obtain ⟨y, H', J, ry, z⟩ := hq
    exact ⟨y, H', J.os, J.bare, J.base, J.hok, ry, z⟩

/-! ### sorted with a key that runs -/
theorem ints_read {h : Heap} : ∀ {vs : List Value} {kz : List Int}, EachIs (fun (v : Value) (k : Int) => ∃ t, v = .int k t) vs kz → EachIs (fun (v : Value) (d : PyData) => ∃ as, Reads h v d as) vs (kz.map PyData.int)
  | _, _, .nil => .nil
  | _, _, .cons ⟨t, e⟩ r => .cons ⟨[], by rw [e]; exact .int _ _⟩ (ints_read r)
section
variable {X : Cx} {pins : List (Addr × Obj)} {σ : L2.St} {H : Hp} {s : Shared} {A : Around} {E : Value → Shared → Prop}
def KeyInv (X : Cx) (pins : List (Addr × Obj)) (σ : L2.St) (G : Hp → Prop) (a kS : Addr) (e1 : Nat) (kz : List Int) (s' : Shared) : Prop :=
  ∃ H' kA e, L2.Inv X ((pins ++ [(a, seqObj "list" #[] e1)]) ++ [(kS, seqObj "list" kA e)]) σ H' s' ∧ G H' ∧ EachIs (fun (v : Value) (k : Int) => ∃ t, v = .int k t) kA.toList kz
theorem keyI_rest {fv : Value} {a kS : Addr} {e1 : Nat} {its : List Value} {kz : List Int} {G : Hp → Prop} {R : PySem.Fin → Shared → Prop} (hAu : A.units + 1 < cLine)
    (I : L2.Inv X ((pins ++ [(a, seqObj "list" #[] e1)]) ++ [(kS, seqObj "list" #[] 0)]) σ H s) (g : G H) (fa : FpOk X pins H a) (fk : FpOk X pins H kS) (hka : kS ≠ a)
    (hlen : kz.length = its.length) (hZ : its.length ≤ sizeLine)
    (turn : ∀ (i : Nat) (u : Value) (k : Int), its[i]? = some u → kz[i]? = some k → ∀ (pl : List (Addr × Obj)) (s' : Shared) (H' : Hp), L2.Inv X (pins ++ pl) σ H' s' → G H' →
      wpAny (model X.prog X.w) A (call fv [u]) (fun r s2 => ∃ t H2, r = .int k t ∧ L2.Inv X (pins ++ pl) σ H2 s2 ∧ G H2) (fun _ _ => False) s')
    (h : ∀ s3 H3 out c, L2.Inv X pins σ H3 s3 → G H3 → FpOk X pins H3 a → s3.heap.get? a = some (seqObj "list" (List.toArray out) c) → KeyedOut false (kz.map PyData.int) its out → R (.done (.ret .none)) s3) :
    wpAny (model X.prog X.w) A (ksk_rest a fv false its.toArray e1 (.ref kS)) R E s := by
  have pinK : ∀ {kA : Array Value} {e : Nat} {H' : Hp} {s' : Shared}, L2.Inv X ((pins ++ [(a, seqObj "list" #[] e1)]) ++ [(kS, seqObj "list" kA e)]) σ H' s' → s'.heap.get? kS = some (seqObj "list" kA e) ∧ H' kS = none := fun I' =>
    let z := I'.pin _ (List.mem_append_right _ (List.mem_append_right _ (.head _))); ⟨z.1, z.2.1⟩
  have pinA : ∀ {kA : Array Value} {e : Nat} {H' : Hp} {s' : Shared}, L2.Inv X ((pins ++ [(a, seqObj "list" #[] e1)]) ++ [(kS, seqObj "list" kA e)]) σ H' s' → s'.heap.get? a = some (seqObj "list" #[] e1) ∧ H' a = none := fun I' =>
    let z := I'.pin _ (List.mem_append_right _ (List.mem_append_left _ (List.mem_append_right _ (.head _)))); ⟨z.1, z.2.1⟩
  unfold ksk_rest
  refine wpAny_bind (wpAny_rule ?_)
  first
    | rw [List.forIn_toArray]
    | (rw [← Array.forIn_toList]; simp only [List.toList_toArray])
  refine wpAny_bind (PyProof.Rows.ksk_fold (fun i s' => KeyInv X pins σ G a kS e1 (kz.take i) s') its 0 s ⟨H, #[], 0, I, g, by rw [List.take_zero]; exact .nil⟩ ?step ?done)
  case step =>
    rintro j x s' hx ⟨H', kA, e, I', g', hkz⟩
    simp only [Nat.zero_add] at hkz ⊢
    have hj : j < its.length := (List.getElem?_eq_some_iff.mp hx).1
    obtain ⟨k, hkj⟩ : ∃ k, kz[j]? = some k := ⟨_, List.getElem?_eq_getElem (by omega)⟩
    have hsz : kA.size ≤ its.length := by
      have h1 := EachIs.length hkz
      rw [Array.length_toList, List.length_take] at h1
      omega
    rw [List.append_assoc] at I'
    refine wpAny_bind (wpAny_attempt (wpAny_mono (turn j x k hx hkj _ s' H' I' g') (fun v s2 he => ?_) fun _ _ hF => hF.elim))
    obtain ⟨t, H2, rfl, I2, g2⟩ := he
    try dsimp only
    rw [← List.append_assoc] at I2
    obtain ⟨pk, pk2⟩ := pinK I2
    obtain ⟨pa, pa2⟩ := pinA I2
    have sb := Heap.SameBut.update s2.heap kS (Obj.mapSeq (·.push (Value.int k t)))
    have hc2 := get?_update_seq pk (·.push (Value.int k t))
    refine wpAny_bind (listUpdate_at pk rfl ?_ (Nat.le_trans hsz hZ) (by rw [Array.size_push]; omega))
    have fk2 : FpOk X (pins ++ [(a, seqObj "list" #[] e1)]) H2 kS := fp_keep fk pk2 fun p hp => (List.mem_append.mp hp).imp id fun z => by rw [List.mem_singleton.mp z]; exact hka.symm
    have I3 : L2.Inv X (pins ++ [(a, seqObj "list" #[] e1)]) σ H2 { s2 with heap := s2.heap.update kS (Obj.mapSeq (·.push (Value.int k t))) } :=
      I2.unpinned.turned (t' := s2.toks) (fun c o hc q => (sb.2 c hc).trans q) fk2.1 fk2.2.1 fk2.2.2.2.1 fk2.2.2.2.2.1 fk2.2.2.2.2.2
    refine wpAny_pure ⟨rfl, H2, _, _, pin_of I3 fk2 hc2 (fun v z => by cases z), g2, ?_⟩
    have ea : (kA.push (Value.int k t)).toList = kA.toList ++ [Value.int k t] := by simp
    have ek : kz.take (j + 1) = kz.take j ++ [k] := by rw [List.take_add_one, hkj]; simp
    rw [ea, ek]
    exact each_snoc ⟨t, rfl⟩ hkz
  case done =>
    rintro s' ⟨H', kA, e, I', g', hkz⟩
    have ek : kz.take (0 + its.length) = kz := List.take_of_length_le (by omega)
    rw [ek] at hkz
    obtain ⟨pk, pk2⟩ := pinK I'
    obtain ⟨pa, pa2⟩ := pinA I'
    have hsz : kA.size = its.length := by
      have h1 := EachIs.length hkz
      rw [Array.length_toList] at h1
      omega
    have hk' := ints_read (h := s'.heap) hkz
    try dsimp only
    refine wpAny_bind (listItems_at pk rfl ?_)
    have hal : AllAlike (kz.map PyData.int) := AllAlike.of fun _ _ => by simp [alike]
    have hso : Sortable (kz.map PyData.int) := Sortable.others fun b => ⟨(by intro z; cases z), fun xs z => by cases z⟩
    refine keyH_end (κ := dataKind s'.heap (kz.map PyData.int)) (h₁ := hideAll s'.heap [kS]) (fun b o hb q => of_hideAll _ q) (hideAll_none _ (.head _)) pk pa hka
      (SortsAt.data hk' hal hso fun d hd => by
        obtain ⟨n, _, rfl⟩ := List.mem_map.mp hd
        have e : (PyData.int n).depth = 0 := by simp [PyData.depth]
        rw [e]
        omega) hsz hZ fun h2 tk c kp hD => ?_
    have fa2 : FpOk X pins H' a := fp_keep fa pa2 fun p hp => .inl hp
    have fk2 : FpOk X pins H' kS := fp_keep fk pk2 fun p hp => .inl hp
    have I4 : L2.Inv X pins σ H' { s' with heap := h2, toks := tk } := I'.unpinned.unpinned.turnedL (t' := tk) (ch := [a, kS]) (fun b o hb q => kp b o (fun z => hb (by rw [z]; exact .head _)) (hideAll_get _ q fun z => hb (.tail _ z)))
      fun b hb => by
        rcases List.mem_cons.mp hb with z | z
        · rw [z]; exact fa2
        · rw [List.mem_singleton.mp z]; exact fk2
    exact h _ H' _ c I4 g' fa2 hD ⟨_, kA.toList, hal, rfl, hk'⟩
theorem keyI_tree {fv : Value} {a : Addr} {its : List Value} {kz : List Int} {G : Hp → Prop} {R : PySem.Fin → Shared → Prop} (hAu : A.units + 1 < cLine)
    (I : L2.Inv X pins σ H s) (g : G H) (fa : FpOk X pins H a) (ho : s.heap.get? a = some (seqObj "list" its.toArray 0))
    (hlen : kz.length = its.length) (hZ : its.length ≤ sizeLine)
    (turn : ∀ (i : Nat) (u : Value) (k : Int), its[i]? = some u → kz[i]? = some k → ∀ (pl : List (Addr × Obj)) (s' : Shared) (H' : Hp), L2.Inv X (pins ++ pl) σ H' s' → G H' →
      wpAny (model X.prog X.w) A (call fv [u]) (fun r s2 => ∃ t H2, r = .int k t ∧ L2.Inv X (pins ++ pl) σ H2 s2 ∧ G H2) (fun _ _ => False) s')
    (h : ∀ s3 H3 out c, L2.Inv X pins σ H3 s3 → G H3 → FpOk X pins H3 a → s3.heap.get? a = some (seqObj "list" (List.toArray out) c) → KeyedOut false (kz.map PyData.int) its out → R (.done (.ret .none)) s3) :
    wpAny (model X.prog X.w) A (ksk_tree a fv false) R E s := by
  have ha : a < s.heap.objs.size := Heap.lt_size ho
  have sb := Heap.SameBut.update s.heap a (Obj.mapSeq fun _ => (#[] : Array Value))
  have ho1 := get?_update_seq ho (fun _ => (#[] : Array Value))
  unfold ksk_tree
  refine wpAny_bind (listItems_at ho rfl (wpAny_bind (listUpdate_at ho rfl (wpAny_bind (seqEpoch_at ho1 rfl (wpAny_bind (wpAny_newTuple (wpAny_bind (wpAny_newList (wpAny_holding ?_) (Nat.zero_le _))) (by show its.length ≤ _; exact hZ))))) (by rw [List.size_toArray]; exact hZ) (Nat.zero_le _))))
  have I1 : L2.Inv X pins σ H { s with heap := s.heap.update a (Obj.mapSeq fun _ => (#[] : Array Value)) } := I.turned (t' := s.toks) (fun c o hc q => (sb.2 c hc).trans q) fa.1 fa.2.1 fa.2.2.2.1 fa.2.2.2.2.1 fa.2.2.2.2.2
  have I2 := pin_of I1 fa ho1 (fun v z => by cases z)
  have I3 := I2.kept (h' := ((s.heap.update a (Obj.mapSeq fun _ => (#[] : Array Value))).push (seqObj "tuple" its.toArray 0)).push (seqObj "list" #[] 0)) (t' := s.toks) fun b o e => Heap.get?_push_of_some _ (Heap.get?_push_of_some _ e)
  generalize hkS : ((s.heap.update a (Obj.mapSeq fun _ => (#[] : Array Value))).push (seqObj "tuple" its.toArray 0)).objs.size = kS at I3 ⊢
  have hk1 : kS = s.heap.objs.size + 1 := by rw [← hkS, size_push', Heap.size_update]
  have hke : kS ≠ a := by rw [hk1]; exact Nat.ne_of_gt (Nat.lt_succ_of_lt ha)
  have hge : s.heap.objs.size ≤ kS := by rw [hk1]; exact Nat.le_succ _
  have fk : FpOk X pins H kS := I.fpOk hge (I.hok.fresh hge)
  have hoK : (((s.heap.update a (Obj.mapSeq fun _ => (#[] : Array Value))).push (seqObj "tuple" its.toArray 0)).push (seqObj "list" #[] 0)).get? kS = some (seqObj "list" #[] 0) := by rw [← hkS]; exact Heap.get?_push_size _ rfl
  exact keyI_rest hAu (pin_of I3 (fp_keep fk fk.1 fun p hp => (List.mem_append.mp hp).imp id fun z => by rw [List.mem_singleton.mp z]; exact hke.symm) hoK (fun v z => by cases z)) g fa fk hke hlen hZ turn h
end

/-- sorted(e, key=lambda x: ..) -/
def tSortLam {α : Type} (P : Program) (w : World) (K : PySem.W.Frag) (T : List (Addr × Str)) (r : Rp α) (key : α → Int) (te : TE) (t : TA) : TE := fun σ H Q => t σ H fun vs H1 => Tabs T H1 ∧ ∃ (v : V) (xs : List α), vs = [v] ∧
  (∀ H2, Ex T H1 H2 → SrcV P w K H2 v r xs) ∧
  (∀ (v : V) (x : α) (H2 : Hp) (Q2 : VK), Ex T H1 H2 → r.rel H2 v x → x ∈ xs → (∀ H3, Ex T H2 H3 → Q2 (.int (key x)) H3) → te [some v] H2 Q2) ∧
  ∀ p ws H3, Ex T H1 H3 → H3 p = none → Paired (r.rel H3) ws (xs.mergeSort fun a b => decide (key a ≤ key b)) → Q (.ref p) (upd H3 p (.lst ws))
theorem zip_at {α β : Type} {R : α → β → Prop} : ∀ {as : List α} {bs : List β} {i : Nat} {a : α}, EachIs R as bs → as[i]? = some a → ∃ b, bs[i]? = some b ∧ R a b
  | _, _, _, _, .nil, h => by simp at h
  | _, _, 0, _, .cons r _, h => by simp at h; subst h; exact ⟨_, rfl, r⟩
  | _, _, i + 1, a, .cons _ t, h => by
    obtain ⟨b, h1, h2⟩ := zip_at (i := i) (a := a) t (by simpa using h)
    exact ⟨b, by simpa using h1, h2⟩
section
variable {α : Type} {X : Cx}
theorem pe_sortLam {T : List (Addr × Str)} {r : Rp α} {key : α → Int} {te : TE} {t : TA} {c P : Addr} {k : Nat} {e body : Expr} {params : Arguments} {scope : Scope} {N : List Str} {x : Str} {p pos lpos kpos : Pos} (im : Imm r) (hc : X.calm = true)
    (hg : Gl X "sorted") (hm : X.mg "sorted" = none) (ha : PA X [e] t) (TB : TabB X.base X.mg c P) (hcode : X.env.code = .ref c) (hmT : (P, X.env.qual ++ "<lambda>") ∈ T) (hu : ∀ p ∈ T, p.1 = P → p.2 = X.env.qual ++ "<lambda>")
    (hr : Room (k + 3) X.A) (S : FnScope N [x] scope) (hdef : defaultsOf params X.env = ([], [])) (hclo : ∀ cells, cloFrom cells scope.names [] = []) (hfree : ∀ y ∈ scope.names, y.2 ≠ .free)
    (hbind : ∀ (q : Str) (pm cv ctv u : Value), bindArgs (kla_fn "<lambda>" q params body scope [] pm cv ctv) ⟨[u], []⟩ = pure [(x, u)])
    (hbody : ∀ (A : Around) (s : Shared) (H : Hp) (f c' : Addr), Room k (A.deeper (envOfC (X.env.qual ++ "<lambda>") scope s.heap.objs.size f (.ref c'))) →
      PE (cxOf CX0 X.prog X.w X.K X.mg X.base N (X.env.qual ++ "<lambda>") scope f (.ref c') A X.stack s H E0) body te)
    (hst : ∀ v : V, L2.start N [v] = [some v])
    (he : backTo pos (starEach [e] X.env) = (false, eval e X.env) :: backTo pos (starEach [] X.env) := by rfl) (hpl : (backTo pos (starEach [e] X.env)).any (·.1) = false := by rfl) :
    PE X (.Call (.Name "sorted" p) [e] [⟨some "key", .Lambda params body scope lpos, kpos⟩] pos) (tSortLam X.prog X.w X.K T r key te t) := by
  refine ⟨fun pins s σ H Q I h => ?_⟩
  refine wpAny_Call_Name_kw (ld_blt (u := .builtin "sorted") I hg hm (by decide +kernel) ?_ (by decide) (by decide))
  refine PyProof.Rows.callWith_kw (thn (ha.run pos pins s σ H _ I h) fun us s1 ⟨vs, H1, I1, r1, hT, v, xs, ev, hs, hk, q⟩ => ?_) he hpl
  subst ev
  obtain ⟨u, rfl, ru⟩ := vals1 r1
  show wpAny _ _ (evalAll ((do let v ← eval (.Lambda params body scope lpos) X.env; standAt pos; pure v) :: [])) _ _ s1
  refine wpAny_evalAll_cons (wpAny_bind (lam_make2 I1 TB hcode hmT hu hT hdef (fun y hy z => absurd z (hfree y hy)) fun f c' pm ctv H2 s2 I2 eN T2 hf hfn hfr hco => wpAny_bind (wpAny_standAt (wpAny_pure (wpAny_evalAll_nil ?_)))))
  rw [hclo] at hf
  have e12 : Ex T H1 H2 := ⟨eN, T2⟩
  have hh := I2.ok.hd hc
  have hfl : f ≠ X.env.locals := fun z => by
    obtain ⟨m, ⟨o, es, ep, ho, hd, _⟩, _⟩ := I2.loc
    rw [← z, hf] at ho
    cases ho
    cases hd
  show wpAny _ _ (call (.builtin "sorted") [u] [(Str.ofString "key", .ref f)]) _ _ s2
  have I2f : L2.Inv X (pins ++ [(f, kla_obj "<lambda>" (X.env.qual ++ "<lambda>") params body scope [] pm c' ctv)]) σ H2 s2 := I2.pins_of fun z hz => (List.mem_append.mp hz).elim (fun y => I2.pin z (List.mem_append_right _ y)) fun y => by
    rw [List.mem_singleton.mp y]
    refine ⟨hf, hfn, hfl, fun w => ?_, fun v w => by cases w⟩
    rcases I2.ok.stk with e | ⟨e, _⟩
    · exact hfr (by rw [e]; exact w)
    · refine hfr ?_
      rw [e]
      unfold frs
      rw [List.filterMap_cons]
      split
      · exact w
      · exact List.mem_cons_of_mem _ w
  refine sorted_src (hs H2 e12 X pins σ s2 u X.A.in1 rfl rfl rfl I2 ru hh) (fun vs o => o.2) (ksk_s1 _ _) (fun _ => ksk_l1 _ _) fun E' its h1 tk ok kp => ?_
  rw [ksk_t1]
  obtain ⟨ef, hl⟩ := ok
  have I3 : L2.Inv X (pins ++ [(f, kla_obj "<lambda>" (X.env.qual ++ "<lambda>") params body scope [] pm c' ctv)]) σ H2 { s2 with heap := h1, toks := tk } := I2f.kept kp
  have I4 : L2.Inv X (pins ++ [(f, kla_obj "<lambda>" (X.env.qual ++ "<lambda>") params body scope [] pm c' ctv)]) σ H2 { s2 with heap := h1.push (seqObj "list" its.toArray 0), toks := tk } := I3.kept (t' := tk) fun b o z => Heap.get?_push_of_some _ z
  have fa : FpOk X (pins ++ [(f, kla_obj "<lambda>" (X.env.qual ++ "<lambda>") params body scope [] pm c' ctv)]) H2 h1.objs.size := I3.fpOk (Nat.le_refl _) (I3.hok.fresh (Nat.le_refl _))
  have ha0 : X.s_0.heap.objs.size ≤ h1.objs.size := I3.sz
  have hlen : its.length = xs.length := valsFor_len ef
  refine keyI_tree (kz := xs.map key) (G := fun H' => Ex T H2 H') (by have := hr.un; show X.A.units + 1 + 1 + 1 < cLine; omega) I4 ⟨ExtN.refl _, T2⟩ fa (Heap.get?_push_size _ rfl) (by rw [List.length_map]; exact hlen.symm) hl ?turn ?fin
  case turn =>
    intro i u' kk hu' hkk pl s3 H3 I5 g
    obtain ⟨xx, hxx, v', rv', rl⟩ := zip_at ef hu'
    have ekk : kk = key xx := by
      rw [List.getElem?_map, hxx] at hkk
      exact (Option.some.inj hkk).symm
    subst ekk
    have rl3 : r.rel H3 v' xx := im g.tup rl
    have pf := I5.pin (f, kla_obj "<lambda>" (X.env.qual ++ "<lambda>") params body scope [] pm c' ctv) (List.mem_append_right _ (List.mem_append_left _ (List.mem_append_right _ (.head _))))
    have hcr : s3.heap.CodeRec (.ref c') (X.env.qual ++ "<lambda>") := by
      obtain ⟨⟨oc, ws, tt, z1, z2, z3⟩, _, _⟩ := I5.hok c' _ (g.1 c' _ hco codeO_ne)
      exact ⟨c', oc, ws, tt, rfl, z1, z2, z3⟩
    have hr2 : Room (k + 1) X.A.in1.in1 := (hr.in1).in1
    refine wpAny_call (codeAny_mono (lam_run (N := N) (ps := [x]) (us := [u']) (vs := [v']) (Q := fun w H' => w = .int (key xx) ∧ Ex T H2 H') (E := E0) (te := te) S pf.1 hcr (hbind _ _ _ _ _) hr2 I5.env0.in1.in1 (.cons rv' .nil) rfl fun hr3 => ⟨hbody _ _ _ _ _ hr3, ?_⟩) fun res s4 hq => ?_)
    · rw [hst]
      exact hk v' xx H3 _ (e12.trans g) rl3 (List.mem_of_getElem? hxx) fun H4 e4 => ⟨rfl, g.trans e4⟩
    · cases res with
      | error er => exact (show False from hq).elim
      | ok fl =>
        cases fl with
        | ret w =>
          obtain ⟨y, H4, I6, ry, ey, eE⟩ := I5.after hq
          rw [ey] at ry
          obtain ⟨t4, rfl⟩ := ry
          exact ⟨t4, H4, rfl, I6, eE⟩
        | next => exact False.elim hq
        | brk => exact False.elim hq
        | cont => exact False.elim hq
  case fin =>
    intro s3 H3 out cc I5 g fa3 ho ko
    refine ⟨rfl, ?_⟩
    have ek : xs.map (fun x => PyData.int (key x)) = (xs.map key).map PyData.int := by rw [List.map_map]; rfl
    have eo : EachIs (fun u x => ∃ v, RelV v u ∧ r.rel H2 v x) out (xs.mergeSort (dataLe false fun x => PyData.int (key x))) := keyedOut_each (fun x => PyData.int (key x)) (by rw [ek]; exact ko) ef
    rw [dataLe_int] at eo
    obtain ⟨ws, w1, w2⟩ := valsFor_to eo
    have hws : ws.length ≤ sizeLine := by
      rw [w2.length, List.length_mergeSort, ← hlen]
      exact hl
    exact ⟨.ref h1.objs.size, _, (inv_take I5 fa3 ha0 (show ObjOk X.prog X.w (upd H3 h1.objs.size (.lst ws)) s3.heap h1.objs.size (.lst ws) from ⟨hws, out, cc, w1, ho⟩)).unpinned, rfl, q _ ws H3 (e12.trans g) fa3.1 (paired_imp (fun _ _ z => im g.tup z) w2)⟩
end
end LT
/-! ## LtIter -/
set_option Elab.async false
set_option linter.all false
set_option maxRecDepth 100000
set_option maxHeartbeats 4000000
namespace LT
open PySem PySem.Spec PyProof.Rows L2 LamX

/-! ### what is walked -/
/-- what must stay while xs is walked: the tuples, the list itself, what the items stand for -/
structure Gd {α : Type} (r : Rp α) (o : Option (Addr × HO)) (xs : List α) (H2 H3 : Hp) : Prop where
  tup : TupE H2 H3
  src : ∀ p, o = some p → H3 p.1 = some p.2
  rel : ∀ v x, x ∈ xs → r.rel H2 v x → r.rel H3 v x
def SrcOk (o : Option (Addr × HO)) (H2 : Hp) : Prop := ∀ p, o = some p → H2 p.1 = some p.2 ∧ Soft p.2
def ItOk {α : Type} (T : List (Addr × Str)) (r : Rp α) (J : It) (o : Option (Addr × HO)) (H2 : Hp) (xs : List α) : Prop := ∀ H3, Gd r o xs H2 H3 → Tabs T H3 → ∀ i,
  (i < xs.length → J.go i H3 ∧ ∀ x H4, J.yld i H3 x H4 → Ex T H3 H4 ∧ ∃ a, xs[i]? = some a ∧ r.rel H4 x a) ∧ (xs.length ≤ i → J.stop i H3)
def Iv {α : Type} (T : List (Addr × Str)) (r : Rp α) (wi : TI) (σ : L2.St) (H : Hp) (P : List α → Prop) (O : Option (Addr × HO) → Prop) : Prop := ∀ H1, Ex T H H1 → ∀ R : It → Hp → Prop,
  (∀ J H2 xs o, P xs → O o → Ex T H1 H2 → SrcOk o H2 → ItOk T r J o H2 xs → R J H2) → wi σ H1 R
/-- walked is no mutable thing; a list (somewhere) -/
abbrev NoO (o : Option (Addr × HO)) : Prop := o = none
abbrev LsO (o : Option (Addr × HO)) : Prop := ∃ a vs, o = some (a, HO.lst vs)
section
variable {α β : Type} {T : List (Addr × Str)} {r : Rp α} {s : Rp β} {K : PySem.W.Frag} {σ : L2.St} {H H2 H3 : Hp} {te : TE} {ta : TA} {P : List α → Prop} {xs : List α} {ys : List β} {o : Option (Addr × HO)}
theorem gd_imm (im : Imm r) (e : TupE H2 H3) (h : ∀ p, o = some p → H3 p.1 = some p.2) : Gd r o xs H2 H3 := ⟨e, h, fun v x _ z => im e z⟩
theorem gd_ext (so : SrcOk o H2) (e : ExtN H2 H3) : Gd r o xs H2 H3 := ⟨tupE_of e, fun p q => e _ _ (so p q).1 (so p q).2.ntbl, fun v x _ z => r.mono e z⟩
theorem iv_lst (h : Ev T (pLst r) te σ H P) : Iv T r (iList K te) σ H P LsO := fun H1 e R k => h H1 e _ fun v xs H2 e2 rl p => by
  obtain ⟨a, vs, rfl, h1, h2⟩ := rl
  refine ⟨a, rfl, ⟨vs, sq_l h1⟩, k _ H2 xs (some (a, .lst vs)) p ⟨a, vs, rfl⟩ e2 (fun q hq => by cases hq; exact ⟨h1, .lst _⟩) fun H3 g t i => ?_⟩
  have h3 : H3 a = some (.lst vs) := g.src _ rfl
  refine ⟨fun hi => ?_, fun hi => ⟨vs, sq_l h3, by rw [h2.length]; exact hi⟩⟩
  obtain ⟨y, hy, ry⟩ := Paired.at1 h2 (List.getElem?_eq_getElem hi)
  refine ⟨⟨vs, y, sq_l h3, hy⟩, fun x H4 ⟨e4, q⟩ => ?_⟩
  subst e4
  have hx := q vs (sq_l h3)
  rw [hy] at hx
  cases hx
  exact ⟨Ex.refl t, xs[i], List.getElem?_eq_getElem hi, g.rel _ _ (List.getElem_mem hi) ry⟩
/-- a list that stands at a -/
theorem iv_lstv {a : Addr} {vs : List V} (hv : ∀ H1, Ex T H H1 → ∀ Q : VK, Q (.ref a) H1 → te σ H1 Q) (h1 : H a = some (.lst vs)) (h2 : Paired (r.rel H) vs xs) : Iv T r (iList K te) σ H (is xs) (· = some (a, HO.lst vs)) := fun H1 e R k => hv H1 e _ (by
  have h1' : H1 a = some (.lst vs) := e.get h1 (.lst vs)
  refine ⟨a, rfl, ⟨vs, sq_l h1'⟩, k _ H1 xs (some (a, .lst vs)) rfl rfl e.here (fun q hq => by cases hq; exact ⟨h1', .lst _⟩) fun H3 g t i => ?_⟩
  have h3 : H3 a = some (.lst vs) := g.src _ rfl
  refine ⟨fun hi => ?_, fun hi => ⟨vs, sq_l h3, by rw [h2.length]; exact hi⟩⟩
  obtain ⟨y, hy, ry⟩ := Paired.at1 h2 (List.getElem?_eq_getElem hi)
  refine ⟨⟨vs, y, sq_l h3, hy⟩, fun x H4 ⟨e4, q⟩ => ?_⟩
  subst e4
  have hx := q vs (sq_l h3)
  rw [hy] at hx
  cases hx
  exact ⟨Ex.refl t, xs[i], List.getElem?_eq_getElem hi, g.rel _ _ (List.getElem_mem hi) (r.mono e.1 ry)⟩)
theorem iv_tup (h : Ev T (pTup r) te σ H P) : Iv T r (iTup K te) σ H P NoO := fun H1 e R k => h H1 e _ fun v xs H2 e2 rl p => by
  obtain ⟨a, vs, rfl, h1, h2⟩ := rl
  refine ⟨a, rfl, ⟨vs, sq_t h1⟩, k _ H2 xs none p rfl e2 (fun q hq => by cases hq) fun H3 g t i => ?_⟩
  have h3 : H3 a = some (.tup vs) := g.tup _ _ h1
  refine ⟨fun hi => ?_, fun hi => ⟨vs, sq_t h3, by rw [h2.length]; exact hi⟩⟩
  obtain ⟨y, hy, ry⟩ := Paired.at1 h2 (List.getElem?_eq_getElem hi)
  refine ⟨⟨vs, y, sq_t h3, hy⟩, fun x H4 ⟨e4, q⟩ => ?_⟩
  subst e4
  have hx := q vs (sq_t h3)
  rw [hy] at hx
  cases hx
  exact ⟨Ex.refl t, xs[i], List.getElem?_eq_getElem hi, g.rel _ _ (List.getElem_mem hi) ry⟩
theorem iv_rng1 {n : Nat} (h : EvA T (a1 pN) ta σ H (is (n, ()))) (hn : n < 2 ^ 62) : Iv T pN (iRng1 ta) σ H (is (List.range n)) NoO := fun H1 e R k => h H1 e _ fun vs x H2 e2 rl p => by
  obtain ⟨v, ws, rfl, q1, q2⟩ := rl
  rw [show x = (n, ()) from p] at q1
  refine ⟨(n : Int), by rw [show ws = [] from q2, show v = _ from q1], by omega, by omega, k _ H2 (List.range n) none rfl rfl e2 (fun q hq => by cases hq) fun H3 g t i => ?_⟩
  rw [List.length_range]
  refine ⟨fun hi => ⟨by show i < ((n : Int)).toNat; omega, fun x H4 ⟨e4, q⟩ => ?_⟩, fun hi => by show ((n : Int)).toNat ≤ i; omega⟩
  subst e4
  refine ⟨Ex.refl t, i, by rw [List.getElem?_range hi], ?_⟩
  show x = V.int (i : Int)
  rw [q]
  congr 1
  omega
theorem iv_rng2 {m n : Nat} (h : EvA T (a2 pN pN) ta σ H (is (m, n, ()))) (hm : m < 2 ^ 62) (hn : n < 2 ^ 62) : Iv T pN (iRng2 ta) σ H (is (List.range' m (n - m))) NoO := fun H1 e R k => h H1 e _ fun vs x H2 e2 rl p => by
  obtain ⟨v, ws, rfl, q1, w, us, rfl, q2, q3⟩ := rl
  rw [show x = (m, n, ()) from p] at q1 q2
  refine ⟨(m : Int), (n : Int), by rw [show us = [] from q3, show v = _ from q1, show w = _ from q2], ⟨by omega, by omega, by omega, by omega⟩, k _ H2 (List.range' m (n - m)) none rfl rfl e2 (fun q hq => by cases hq) fun H3 g t i => ?_⟩
  rw [List.length_range']
  refine ⟨fun hi => ⟨by show i < ((n : Int) - (m : Int)).toNat; omega, fun x H4 ⟨e4, q⟩ => ?_⟩, fun hi => by show ((n : Int) - (m : Int)).toNat ≤ i; omega⟩
  subst e4
  refine ⟨Ex.refl t, m + i, by rw [List.getElem?_range' hi]; simp, ?_⟩
  show x = V.int ((m + i : Nat) : Int)
  rw [q]
  congr 1
  all_goals omega
theorem iv_zip (im : Imm r) (js : Imm s) (h : EvA T (a2 (pTup r) (pTup s)) ta σ H (is (xs, ys, ()))) : Iv T (pPair r s) (RZ.iZipA K ta) σ H (is (xs.zip ys)) NoO := fun H1 e R k => h H1 e _ fun vs x H2 e2 rl p => by
  obtain ⟨v, ws, rfl, q1, w, us, rfl, q2, q3⟩ := rl
  rw [show x = (xs, ys, ()) from p] at q1 q2
  obtain ⟨a, vs, rfl, h1, h2⟩ := q1
  obtain ⟨b, us', rfl, h3, h4⟩ := q2
  refine ⟨a, b, vs, us', by rw [show us = [] from q3], .inr ⟨sq_t h1, sq_t h3, k _ H2 (xs.zip ys) none rfl rfl e2 (fun q hq => by cases hq) fun H3 g t i => ?_⟩⟩
  have g1 : H3 a = some (.tup vs) := g.tup _ _ h1
  have g3 : H3 b = some (.tup us') := g.tup _ _ h3
  have l1 : vs.length = xs.length := h2.length
  have l2 : us'.length = ys.length := h4.length
  rw [List.length_zip]
  refine ⟨fun hi => ?_, fun hi => ⟨vs, us', sq_t g1, sq_t g3, by omega⟩⟩
  have hx : i < xs.length := by omega
  have hy : i < ys.length := by omega
  obtain ⟨y, hy1, ry⟩ := Paired.at1 h2 (List.getElem?_eq_getElem hx)
  obtain ⟨z, hz1, rz⟩ := Paired.at1 h4 (List.getElem?_eq_getElem hy)
  refine ⟨⟨vs, us', y, z, sq_t g1, sq_t g3, hy1, hz1⟩, fun x H4 ⟨A, y', z', ex, hA, e4, f1, f2⟩ => ?_⟩
  subst e4 ex
  have m1 := f1 vs (sq_t g1)
  have m2 := f2 us' (sq_t g3)
  rw [hy1] at m1
  rw [hz1] at m2
  cases m1
  cases m2
  have eN : TupE H2 (upd H3 A (.tup [y, z])) := g.tup.trans (TupE.new hA)
  exact ⟨Ex.new t hA, (xs[i], ys[i]), by rw [List.getElem?_zip_eq_some]; exact ⟨List.getElem?_eq_getElem hx, List.getElem?_eq_getElem hy⟩, A, y, z, rfl, upd_same, im eN ry, js eN rz⟩
end

/-! ### enumerate of a tuple -/
section
def IteT (K : PySem.W.Frag) (a : Addr) : It :=
  ⟨fun i H => ∃ (xs : List V) (x : V), SqT K H a xs ∧ xs[i]? = some x,
    fun i H v H' => ∃ T x, v = .ref T ∧ H T = none ∧ H' = upd H T (.tup [.int (i : Nat), x]) ∧ ∀ xs, SqT K H a xs → xs[i]? = some x,
    fun i H => ∃ xs : List V, SqT K H a xs ∧ xs.length ≤ i⟩
end
end LT
/-! ## LtFlow -/
set_option Elab.async false
set_option linter.all false
set_option maxRecDepth 100000
set_option maxHeartbeats 4000000
namespace LT
open PySem PySem.Spec PyProof.Rows L2 LamX

/-- what a store leaves -/
def Bnd (g : TG) (v : V) (σ : L2.St) (H : Hp) (σ2 : L2.St) : Prop := ∀ Q : L2.St → Hp → Prop, Q σ2 H → g v σ H Q
theorem bnd_name {i : Nat} {v : V} {σ : L2.St} {H : Hp} : Bnd (gName i) v σ H (σ.set i (some v)) := fun Q q => q
theorem bnd_pair {α β : Type} {r : Rp α} {s : Rp β} {K : PySem.W.Frag} {i j : Nat} {v : V} {σ : L2.St} {H : Hp} {x : α × β} (h : (pPair r s).rel H v x) :
    ∃ u w, r.rel H u x.1 ∧ s.rel H w x.2 ∧ Bnd (gTup K 2 (gCons (gName i) (gCons (gName j) gNil))) v σ H ((σ.set i (some u)).set j (some w)) := by
  obtain ⟨a, u, w, rfl, h1, h2, h3⟩ := h
  exact ⟨u, w, h2, h3, fun Q q => ⟨a, [u, w], rfl, sq_t h1, rfl, u, [w], rfl, w, [], rfl, rfl, q⟩⟩

/-- all stays but at M, where things are changed -/
def ExM (M : List Addr) (T : List (Addr × Str)) (H H' : Hp) : Prop := (∀ b o, H b = some o → (∀ ps, o ≠ .tbl ps) → b ∉ M → H' b = some o) ∧ TupE H H' ∧ Tabs T H'
section
variable {M : List Addr} {T : List (Addr × Str)} {H H1 H2 H' : Hp} {p : Addr} {o o' : HO}
theorem Ex.toM (e : Ex T H H') : ExM M T H H' := ⟨fun b o h n _ => e.1 b o h n, e.tup, e.2⟩
theorem ExM.trans (a : ExM M T H H1) (b : ExM M T H1 H2) : ExM M T H H2 := ⟨fun c o h n m => b.1 c o (a.1 c o h n m) n m, a.2.1.trans b.2.1, b.2.2⟩
theorem ExM.tup (a : ExM M T H H1) : TupE H H1 := a.2.1
theorem ExM.tabs (a : ExM M T H H1) : Tabs T H1 := a.2.2
theorem ExM.refl (h : Tabs T H) : ExM M T H H := ⟨fun _ _ h _ _ => h, TupE.refl _, h⟩
theorem ExM.mut (h : H p = some o) (s : Soft o) (m : p ∈ M) (t : Tabs T H) : ExM M T H (upd H p o') := ⟨fun b u e n q => by rw [upd_ne (fun z => q (by rw [z]; exact m))]; exact e, TupE.mut h s, Tabs.mut t h s⟩
theorem ExM.ex (a : ExM M T H H1) (f : ∀ p ∈ M, Fr0 H p) : Ex T H H1 := ⟨fun b o h n => a.1 b o h n fun m => (f b m).ne h n rfl, a.2.2⟩
theorem ExM.sub {M' : List Addr} (a : ExM M T H H1) (h : ∀ p ∈ M, p ∈ M') : ExM M' T H H1 := ⟨fun b o e n m => a.1 b o e n fun q => m (h b q), a.2⟩
theorem ExM.get (e : ExM M T H H1) (h : H p = some o) (s : Soft o) (m : p ∉ M) : H1 p = some o := e.1 p o h s.ntbl m
end

/-! ### comprehensions -/
theorem take_succ_filter {α β : Type} (f : α → β) (t : α → Bool) {xs : List α} {i : Nat} {x : α} (h : xs[i]? = some x) :
    ((xs.take (i + 1)).filter t).map f = ((xs.take i).filter t).map f ++ (if t x = true then [f x] else []) := by
  rw [List.take_add_one, h]
  simp only [Option.toList_some, List.filter_append, List.map_append]
  congr 1
  cases ht : t x <;> simp [List.filter, ht]
section
variable {α β : Type} {T : List (Addr × Str)} {r : Rp α} {s : Rp β} {σ : L2.St} {H : Hp} {wi : TI} {g : TG} {tt : TT} {te : TE} {vs : List Nat} {P : List α → Prop} {O : Option (Addr × HO) → Prop} {f : α → β} {t : α → Bool}
theorem ev_lc (im : Imm s) (hi : Iv T r wi σ H P O) (hz : ∀ xs, P xs → xs.length ≤ sizeLine)
    (hb : ∀ xs x, P xs → x ∈ xs → ∀ H1 v, Ex T H H1 → r.rel H1 v x → ∃ σ2, Bnd g v (wipe σ vs) H1 σ2 ∧ wipe σ2 vs = wipe σ vs ∧ EvT T tt σ2 H1 (t x) ∧ (t x = true → Ev T s te σ2 H1 (is (f x)))) :
    Ev T (pLst s) (tLc wi g tt te vs) σ H (fun ys => ∃ xs, P xs ∧ ys = (xs.filter t).map f) := fun H1 e Q k => hi H1 e _ fun J H2 xs o px _ e2 so it D hD => by
  have t2 : Tabs T H2 := e2.2
  have fr : Fr0 H2 D := Fr0.of_none hD
  refine ⟨fun i m H' => m = xs.length - i ∧ i ≤ xs.length ∧ Ex T H2 H' ∧ ∃ acc, H' D = some (.lst acc) ∧ Paired (s.rel H') acc (((xs.take i).filter t).map f), ⟨_, rfl, Nat.zero_le _, Ex.new t2 hD, [], upd_same, .nil⟩, ?_⟩
  rintro i m H' ⟨rfl, hi', e', acc, hacc, hp⟩
  obtain ⟨g1, g2⟩ := it H' (gd_ext so e'.1) e'.2 i
  by_cases hlt : i < xs.length
  · obtain ⟨go, yl⟩ := g1 hlt
    refine .inr ⟨go, fun H'' => (Ex T H2 H'' ∧ ∃ acc, H'' D = some (.lst acc) ∧ Paired (s.rel H'') acc (((xs.take (i + 1)).filter t).map f)), fun H'' q => ⟨xs.length - (i + 1), by omega, rfl, hlt, q⟩, fun v H4 hy => ?_⟩
    obtain ⟨e4, x, hx, rx⟩ := yl v H4 hy
    have e04 : Ex T H H4 := (e.trans e2).trans (e'.trans e4)
    obtain ⟨σ2, hbn, hw, htt, hte⟩ := hb xs x px (List.mem_of_getElem? hx) H4 v e04 rx
    refine hbn _ ⟨hw, htt H4 e4.here _ fun H5 e5 => ?_⟩
    have hs := take_succ_filter f t hx
    cases ht : t x with
    | false =>
      rw [if_neg Bool.false_ne_true]
      rw [ht, if_neg Bool.false_ne_true, List.append_nil] at hs
      exact ⟨e'.trans (e4.trans e5), acc, (e4.trans e5).get hacc (.lst _), by rw [hs]; exact paired_imp (fun _ _ => s.mono (e4.trans e5).1) hp⟩
    | true =>
      rw [if_pos rfl]
      rw [ht, if_pos rfl] at hs
      refine hte ht H5 e5 _ fun y z H6 e6 ry pz => ?_
      have e36 : Ex T H' H6 := (e4.trans e5).trans e6
      have h6 : H6 D = some (.lst acc) := e36.get hacc (.lst _)
      have hl : acc.length < sizeLine := by
        have h1 := hp.length
        rw [List.length_map] at h1
        have h2 : ((xs.take i).filter t).length ≤ (xs.take i).length := List.length_filter_le _ _
        have h3 : (xs.take i).length ≤ i := List.length_take_le ..
        have := hz xs px
        omega
      refine ⟨acc, h6, hl, (e'.trans e36).mut fr h6 (.lst _), acc ++ [y], upd_same, ?_⟩
      have em : TupE H6 (upd H6 D (.lst (acc ++ [y]))) := TupE.mut h6 (.lst _)
      rw [hs]
      exact Paired.app (paired_imp (fun _ _ z => im em (s.mono e36.1 z)) hp) (.cons (im em (by rw [← show z = f x from pz]; exact ry)) .nil)
  · have ei : i = xs.length := by omega
    subst ei
    refine .inl ⟨g2 (Nat.le_refl _), ?_⟩
    rw [List.take_length] at hp
    exact k _ _ H' (e2.trans e') ⟨D, acc, rfl, hacc, hp⟩ ⟨xs, px, rfl⟩
theorem ev_lc1 {xs : List α} {ys : List β} (im : Imm s) (hi : Iv T r wi σ H (is xs) O) (hz : xs.length ≤ sizeLine)
    (hb : ∀ x, x ∈ xs → ∀ H1 v, Ex T H H1 → r.rel H1 v x → ∃ σ2, Bnd g v (wipe σ vs) H1 σ2 ∧ wipe σ2 vs = wipe σ vs ∧ EvT T tt σ2 H1 (t x) ∧ (t x = true → Ev T s te σ2 H1 (is (f x)))) (hy : (xs.filter t).map f = ys) :
    Ev T (pLst s) (tLc wi g tt te vs) σ H (is ys) :=
  (ev_lc (f := f) (t := t) im hi (fun ys q => by rw [show ys = xs from q]; exact hz) fun ys x q hx => hb x (by rw [← show ys = xs from q]; exact hx)).imp fun zs ⟨ws, q, e⟩ => by
    rw [e, show ws = xs from q]
    exact hy
/-- a new object's value -/
def EvF (T : List (Addr × Str)) (r : Rp β) (te : TE) (σ : L2.St) (H : Hp) (P : β → Prop) : Prop :=
  ∀ H1, Ex T H H1 → ∀ Q : VK, (∀ p x H2, Ex T H1 H2 → Fr0 H1 p → r.rel H2 (.ref p) x → P x → Q (.ref p) H2) → te σ H1 Q
theorem EvF.ev {P : β → Prop} (h : EvF T s te σ H P) : Ev T s te σ H P := fun H1 e Q k => h H1 e Q fun p x H2 e2 _ rl px => k _ x H2 e2 rl px
theorem lst_mut {D a : Addr} {o : HO} {u : HO} {zs : List β} (im : Imm s) (h : H D = some o) (so : Soft o) (na : V.ref a ≠ .ref D) (q : (pLst s).rel H (.ref a) zs) : (pLst s).rel (L2.upd H D u) (.ref a) zs := by
  obtain ⟨b, ws, e, h1, h2⟩ := q
  cases e
  have nb : a ≠ D := fun z => na (by rw [z])
  exact ⟨a, ws, rfl, by rw [upd_ne nb]; exact h1, paired_imp (fun _ _ => im (TupE.mut h so)) h2⟩
/-- a list of new lists -/
theorem ev_lcF {xs : List α} {f : α → List β} (im : Imm s) (hi : Iv T r wi σ H (is xs) O) (hz : xs.length ≤ sizeLine)
    (hb : ∀ x, x ∈ xs → ∀ H1 v, Ex T H H1 → r.rel H1 v x → ∃ σ2, Bnd g v (wipe σ vs) H1 σ2 ∧ wipe σ2 vs = wipe σ vs ∧ EvT T tt σ2 H1 true ∧ EvF T (pLst s) te σ2 H1 (is (f x))) :
    Ev T (pLst (pLst s)) (tLc wi g tt te vs) σ H (is (xs.map f)) := fun H1 e Q k => hi H1 e _ fun J H2 xs' o px _ e2 so it D hD => by
  obtain rfl : xs' = xs := px
  have t2 : Tabs T H2 := e2.2
  have fr : Fr0 H2 D := Fr0.of_none hD
  refine ⟨fun i m H' => m = xs'.length - i ∧ i ≤ xs'.length ∧ Ex T H2 H' ∧ ∃ acc, H' D = some (.lst acc) ∧ Paired (fun v x => v ≠ V.ref D ∧ (pLst s).rel H' v x) acc ((xs'.take i).map f), ⟨_, rfl, Nat.zero_le _, Ex.new t2 hD, [], upd_same, .nil⟩, ?_⟩
  rintro i m H' ⟨rfl, hi', e', acc, hacc, hp⟩
  obtain ⟨g1, g2⟩ := it H' (gd_ext so e'.1) e'.2 i
  by_cases hlt : i < xs'.length
  · obtain ⟨go, yl⟩ := g1 hlt
    refine .inr ⟨go, fun H'' => (Ex T H2 H'' ∧ ∃ acc, H'' D = some (.lst acc) ∧ Paired (fun v x => v ≠ V.ref D ∧ (pLst s).rel H'' v x) acc ((xs'.take (i + 1)).map f)), fun H'' q => ⟨xs'.length - (i + 1), by omega, rfl, hlt, q⟩, fun v H4 hy => ?_⟩
    obtain ⟨e4, x, hx, rx⟩ := yl v H4 hy
    have e04 : Ex T H H4 := (e.trans e2).trans (e'.trans e4)
    obtain ⟨σ2, hbn, hw, htt, hte⟩ := hb x (List.mem_of_getElem? hx) H4 v e04 rx
    refine hbn _ ⟨hw, htt H4 e4.here _ fun H5 e5 => ?_⟩
    rw [if_pos rfl]
    refine hte H5 e5 _ fun y z H6 e6 ny ry pz => ?_
    have e36 : Ex T H' H6 := (e4.trans e5).trans e6
    have h6 : H6 D = some (.lst acc) := e36.get hacc (.lst _)
    have hl : acc.length < sizeLine := by
      have h1 := hp.length
      rw [List.length_map] at h1
      have h3 : (xs'.take i).length ≤ i := List.length_take_le ..
      omega
    have hyD : V.ref y ≠ V.ref D := fun q => by
      cases q
      have h5 : H5 D = some (.lst acc) := (e4.trans e5).get hacc (.lst _)
      exact ny.ne h5 (fun _ z => by cases z) rfl
    refine ⟨acc, h6, hl, (e'.trans e36).mut fr h6 (.lst _), acc ++ [V.ref y], upd_same, ?_⟩
    rw [List.take_add_one, hx, Option.toList_some, List.map_append, List.map_cons, List.map_nil]
    refine Paired.app (paired_imp (fun v x q => ⟨q.1, ?_⟩) hp) (.cons ⟨hyD, lst_mut im h6 (.lst _) hyD (by rw [← show z = f x from pz]; exact ry)⟩ .nil)
    have q2 := (pLst s).mono e36.1 q.2
    obtain ⟨a, ws, ea, _⟩ := id q2
    subst ea
    exact lst_mut im h6 (.lst _) q.1 q2
  · have ei : i = xs'.length := by omega
    subst ei
    refine .inl ⟨g2 (Nat.le_refl _), ?_⟩
    rw [List.take_length] at hp
    exact k _ _ H' (e2.trans e') ⟨D, acc, rfl, hacc, paired_imp (fun _ _ q => q.2) hp⟩ rfl
end

/-! ### loops -/
section
variable {α : Type} {T : List (Addr × Str)} {r : Rp α} {σ : L2.St} {H : Hp} {wi : TI} {g : TG} {tb : TS} {tc : TT} {P : List α → Prop} {O : Option (Addr × HO) → Prop} {D : Ends}
theorem s_for (im : Imm r) (hT : Tabs T H) (hi : Iv T r wi σ H P O) (M : List Addr) (J : List α → Nat → L2.St → Hp → Prop)
    (hM : ∀ H1 p, Ex T H H1 → O (some p) → H1 p.1 = some p.2 → p.1 ∉ M) (h0 : ∀ xs H1, P xs → Ex T H H1 → J xs 0 σ H1)
    (hx : ∀ xs i σ' H' H'', P xs → J xs i σ' H' → Ex T H' H'' → J xs i σ' H'')
    (hs : ∀ xs i x v σ' H', P xs → xs[i]? = some x → ExM M T H H' → J xs i σ' H' → r.rel H' v x → ∃ σ2, Bnd g v σ' H' σ2 ∧
      ∀ N : L2.St → Hp → Prop, (∀ σ'' H'', ExM M T H' H'' → J xs (i + 1) σ'' H'' → N σ'' H'') → tb { D with nx := N, ct := N, bk := D.nx } σ2 H')
    (hd : ∀ xs σ' H', P xs → ExM M T H H' → J xs xs.length σ' H' → D.nx σ' H') : tFor wi g tb D σ H := hi H (Ex.refl hT) _ fun K H2 xs o px po e2 so it => by
  have gd : ∀ H', ExM M T H2 H' → Gd r o xs H2 H' := fun H' e => gd_imm im e.tup fun p hp => by
    subst hp
    exact e.get (so p rfl).1 (so p rfl).2 (hM H2 p e2 po (so p rfl).1)
  refine ⟨fun i m σ' H' => m = xs.length - i ∧ i ≤ xs.length ∧ ExM M T H2 H' ∧ J xs i σ' H', ⟨_, rfl, Nat.zero_le _, ExM.refl e2.2, h0 xs H2 px e2⟩, ?_⟩
  rintro i m σ' H' ⟨rfl, hle, e', j⟩
  obtain ⟨g1, g2⟩ := it H' (gd H' e') e'.tabs i
  by_cases hlt : i < xs.length
  · obtain ⟨go, yl⟩ := g1 hlt
    refine .inr ⟨go, fun σ'' H'' => ExM M T H2 H'' ∧ J xs (i + 1) σ'' H'', fun σ'' H'' q => ⟨xs.length - (i + 1), by omega, rfl, hlt, q⟩, fun v H4 hy => ?_⟩
    obtain ⟨e4, x, hx', rx⟩ := yl v H4 hy
    obtain ⟨σ2, hb, q⟩ := hs xs i x v σ' H4 px hx' ((e2.toM.trans e').trans e4.toM) (hx xs i σ' H' H4 px j e4) rx
    exact hb _ (q _ fun σ'' H'' e5 j5 => ⟨(e'.trans e4.toM).trans e5, j5⟩)
  · have ei : i = xs.length := by omega
    subst ei
    exact .inl ⟨g2 (Nat.le_refl _), hd xs σ' H' px (e2.toM.trans e') j⟩
theorem s_while (J : Nat → L2.St → Hp → Prop) {m0 : Nat} (h0 : J m0 σ H)
    (hs : ∀ m σ' H', J m σ' H' → ∃ b, EvT T tc σ' H' b ∧ Tabs T H' ∧ ∀ H1, Ex T H' H1 →
      if b = true then ∀ N : L2.St → Hp → Prop, (∀ m' σ'' H'', m' < m → J m' σ'' H'' → N σ'' H'') → tb { D with nx := N, ct := N, bk := D.nx } σ' H1 else D.nx σ' H1) : tWhile tc tb D σ H := by
  refine ⟨J, ⟨m0, h0⟩, fun m σ' H' j => ?_⟩
  obtain ⟨b, ht, tt, q⟩ := hs m σ' H' j
  refine ht H' (Ex.refl tt) _ fun H1 e1 => ?_
  have q1 := q H1 e1
  cases b with
  | true =>
    rw [if_pos rfl] at q1 ⊢
    exact ⟨fun σ'' H'' => ∃ m', m' < m ∧ J m' σ'' H'', fun σ'' H'' z => z, q1 _ fun m' σ'' H'' hm hj => ⟨m', hm, hj⟩⟩
  | false =>
    rw [if_neg Bool.false_ne_true] at q1 ⊢
    exact q1
end
end LT
/-! ## LtZip -/
set_option Elab.async false
set_option linter.all false
set_option maxRecDepth 100000
set_option maxHeartbeats 4000000
namespace LT
open PySem PySem.Spec PySem.W PyProof.Rows L2 LamX
open PySem.Sem (wp)

/-! ### enumerate of a tuple -/
section
variable {prog : Program} {w : World} {A : Around} {E : Value → Shared → Prop} {s : Shared}
theorem meets_enumT {v : Value} {o : Obj} {Z : Heap → Prop} (B : Begins v o Z) :
    Meets (Builtin.«enumerate.__new__» ⟨[.type "enumerate", v], []⟩) (fun _ R s => Z s.heap ∧
      R (.ok (.ret (.ref (s.heap.push o).objs.size))) { s with heap := (s.heap.push o).push { cls := .type "enumerate", data := .fields #[.none, .bool false, .ref s.heap.objs.size, rawInt 0, .none, .none] } }) :=
  .of_wp fun prog w A R s h => by
    obtain ⟨hp, g, d, tk, os⟩ := s
    obtain ⟨h1, h⟩ := h
    have hsub := sub_enumerate
    have it : ∀ {A' : Around} {E : Value → Shared → Prop} {Q : Value → Shared → Prop}, Q (.ref hp.objs.size) ⟨hp.push o, g, d, tk, os⟩ → wpAny (model prog w) A' (pyIter v) Q E ⟨hp, g, d, tk, os⟩ :=
      fun q => B.iter prog w _ _ ⟨hp, g, d, tk, os⟩ _ h1 q
    wp_walk using it
    refine wpAny_stack_any fun st => wpAny_pure ?_
    split
    · rename_i c _ _ _ _ _
      cases (c == Value.type "enumerate") <;> (wp_walk using it; exact ⟨_, rfl, h⟩)
    · wp_walk using it
      exact ⟨_, rfl, h⟩
theorem call_enumT {t : Addr} {items : Array Value} {Q : Value → Shared → Prop} (hT : s.heap.IsTuple t items)
    (h : ∀ h', IsEnum h' (s.heap.objs.size + 1) s.heap.objs.size 0 .none → h'.IsTupleIter s.heap.objs.size t 0 → (∀ b o, s.heap.get? b = some o → h'.get? b = some o) → Q (.ref (s.heap.objs.size + 1)) { s with heap := h' }) :
    wpAny (model prog w) A (call (.type "enumerate") [.ref t]) Q E s := by
  refine callType_new F.called_enumerate (by decide) (F.typeCall_enumerate_1 _) (F.newCall_enumerate_1 _) (fun obj => F.args_object_init_2 obj _) F.entry_enumerate_new
    (meets_enumT (begins_tuple t items)) ⟨hT, ?_⟩
  have hz : (s.heap.push { cls := .type "tuple_iterator", data := .fields #[.ref t, .int 0 0] }).objs.size = s.heap.objs.size + 1 := Heap.size_push ..
  show _ ∧ _
  rw [hz]
  have he : IsEnum ((s.heap.push { cls := .type "tuple_iterator", data := .fields #[.ref t, .int 0 0] }).push
      { cls := .type "enumerate", data := .fields #[.none, .bool false, .ref s.heap.objs.size, rawInt 0, .none, .none] }) (s.heap.objs.size + 1) s.heap.objs.size 0 .none := by
    have q := Heap.get?_push_size (s.heap.push { cls := .type "tuple_iterator", data := .fields #[.ref t, .int 0 0] })
      (o := { cls := .type "enumerate", data := .fields #[.none, .bool false, .ref s.heap.objs.size, rawInt 0, .none, .none] }) rfl
    rw [hz] at q
    exact q
  exact ⟨⟨_, he, rfl⟩, h _ he ⟨_, Heap.get?_push_of_some _ (Heap.get?_push_size _ rfl), rfl, rfl⟩ fun b o x => Heap.get?_push_of_some _ (Heap.get?_push_of_some _ x)⟩
end
theorem enumT_turn {P : Program} {w : World} {K : PySem.W.Frag} {elts : List Expr} {kk : Nat} {tpos : Pos} (a e it : Addr) :
    Turn P w K (.Tuple elts kk tpos) (IteT K a) [e, it] e (fun i h => (∃ old, IsEnum h e it ((i : Nat) : Int) old) ∧ h.IsTupleIter it a i ∧ e ≠ it) where
  mem := by simp
  obj := fun i h st b hb => by
    obtain ⟨⟨old, he⟩, ⟨o, ho, hc, hd⟩, _⟩ := st
    rcases (show b = e ∨ b = it by simpa using hb) with z | z
    · rw [z]; exact ⟨_, he, fun v q => nomatch q⟩
    · rw [z]; exact ⟨o, ho, fun v q => by rw [hd] at q; cases q⟩
  keep := fun i h h' st k => let ⟨⟨old, he⟩, hi, hne⟩ := st; ⟨⟨old, k e (by simp) _ he⟩, hi.at fun o q => k it (by simp) o q, hne⟩
  item := by
    intro X hP hw hK hc i pins s σ H E I hf st hg
    subst hP hw hK
    obtain ⟨⟨old, he⟩, hit, hne⟩ := st
    obtain ⟨xs, x, hq, hx⟩ := hg
    obtain ⟨its, rv, p, hz⟩ := I.tuple hq
    obtain ⟨u, hu, ru⟩ := rv.get hx
    have hel : e < s.heap.objs.size := Heap.lt_size he
    have hil : it < s.heap.objs.size := by obtain ⟨_, q, _⟩ := hit; exact Heap.lt_size q
    have hta : a ≠ it := fun z => by
      obtain ⟨o1, ho1, hc1, _⟩ := id p
      obtain ⟨o2, ho2, hc2, _⟩ := id hit
      rw [z, ho2] at ho1
      cases ho1
      rw [hc1] at hc2
      exact absurd hc2 (by simp)
    have hea : a ≠ e := fun z => by
      obtain ⟨o1, ho1, hc1, _⟩ := id p
      rw [z, he] at ho1
      cases ho1
      exact absurd hc1 (by simp)
    have D := Draws.tuple (prog := X.prog) (w := X.w) (A := X.A.in1) (I.ok.hd hc) it a hta its.toArray
    have lt : i < its.toArray.size := by
      have := (List.getElem?_eq_some_iff.mp hu).1
      simpa using this
    refine wpAny_pyNext_enum_itemD D he ⟨hit, p⟩ lt hne (by simp [hne, Ne.symm hea]) fun u' h' tk hP ho hs' hT hsz hk => ?_
    have eu : u' = u := by
      have hP : its.toArray[i]? = some u' := hP
      rw [show its.toArray[i]? = some u by simpa using hu] at hP
      exact (Option.some.inj hP).symm
    subst eu
    refine ⟨_, rfl, wpAny_letOwnedTupleGo_enum (s := { s with heap := h', toks := tk + 1 }) ho fun h'' he' sb => ?_⟩
    have hT2 : h''.get? s.heap.objs.size = some { cls := .type "tuple", data := .seq #[.int i tk, u'] } := (sb.2 _ (Nat.ne_of_gt hel)).trans hT
    have new : ObjOk X.prog X.w (upd H s.heap.objs.size (.tup [.int (i : Nat), x])) h'' s.heap.objs.size (.tup [.int (i : Nat), x]) :=
      ⟨by show 2 ≤ sizeLine; decide, [.int i tk, u'], .cons ⟨_, rfl⟩ (.cons ru .nil), ⟨_, hT2, rfl, _, rfl⟩⟩
    have I1 : Inv X pins σ (upd H s.heap.objs.size (.tup [.int (i : Nat), x])) { s with heap := h'', toks := tk + 1 } :=
      I.turnedNew (ch := [e, it]) (fun b ob hb q => (sb.2 b (fun z => hb (by simp [z]))).trans (hk b ob (fun z => hb (by simp [z])) (fun z => hb (by simp [z])) q)) hf (Nat.le_refl _) new
    refine ⟨.ref s.heap.objs.size, _, I1, rfl, ⟨_, x, rfl, I.hok.fresh (Nat.le_refl _), rfl, fun ys hy => by rw [I.tuple_inj hy hq]; exact hx⟩, ⟨⟨u', ?_⟩, hs'.1.at fun o q => (sb.2 it (Ne.symm hne)).trans q, hne⟩, fun b hb => ?_⟩
    · rw [show ((i + 1 : Nat) : Int) = (i : Int) + 1 by omega]
      exact he'
    · have hb' : b < s.heap.objs.size := by
        rcases (show b = e ∨ b = it by simpa using hb) with z | z
        · rw [z]; exact hel
        · rw [z]; exact hil
      rw [upd_ne (Nat.ne_of_lt hb')]
      exact (hf b hb).1
  done := by
    intro X hP hw hK hc i pins s σ H E I hf st hg
    subst hP hw hK
    obtain ⟨⟨old, he⟩, hit, hne⟩ := st
    obtain ⟨xs, hq, hx⟩ := hg
    obtain ⟨its, rv, p, hz⟩ := I.tuple hq
    obtain ⟨f0, f1, f2, f3, f4, f5⟩ := hf it (by simp)
    have hl := rv.length
    have hT : s.TypeIs (.ref e) "enumerate" := ⟨_, he, rfl⟩
    unfold pyNext
    refine wpAny_bind (wpAny_attempt (wpAny_callSpecial?_slot (name := Str.ofString "__next__") hT F.slot_enumerate_next
      (wpAny_call_entry F.slot_enumerate_next hT F.entry_enumerate_next ?_ (F.args_enumerate_next_1 _))))
    show wpAny _ _ (field (.ref e) 2 >>= _) _ _ _
    refine wpAny_bind (wpAny_field he rfl (x := .ref it) rfl ?_)
    refine wpAny_bind (RZ.nextOf_tuple_end (I.ok.hd hc) hit p (by simp; omega) fun h' x eb hx' => ?_)
    obtain ⟨o, ho, hc'⟩ := hx'
    refine wpAny_bind (wpAny_isInstance (T := "StopIteration") (b := true) ⟨o, ho, hc'⟩ isSubtype_stop ?_)
    exact wpAny_pure ⟨rfl, I.turned (t' := s.toks) (fun b o hb q => eb b o hb q) f0 f1 f3 f4 f5⟩
  self := fun A i s Q E st h => let ⟨⟨_, he⟩, _⟩ := st; wpAny_pyIter_enum he h
def iEnumT (K : PySem.W.Frag) (ta : TA) : TI := fun σ H R => ta σ H fun vs H1 => ∃ a xs, vs = [.ref a] ∧ SqT K H1 a xs ∧ R (IteT K a) H1
theorem pi_enumT {X : Cx} {e : Expr} {ta : TA} {p pos tpos : Pos} {elts : List Expr} {kk : Nat} (hg : Gl X "enumerate") (hm : X.mg "enumerate" = none) (ha : PA X [e] ta) (hs : starEach [e] X.env = [(false, eval e X.env)] := by rfl) :
    PI X (.Tuple elts kk tpos) (.Call (.Name "enumerate" p) [e] [] pos) (iEnumT X.K ta) := by
  refine ⟨fun pins s σ H R I h => ?_⟩
  refine Call_ (ld_blt I hg hm boot_enumerate (PyProof.Rows.callWith_type1 (thn (ha.run pos pins s σ H _ I h) fun us s1 ⟨vs, H1, I1, r1, q1⟩ => ?_) hs rfl))
  obtain ⟨a, xs, ex, hq, q⟩ := q1
  subst ex
  cases r1 with
  | cons r rr =>
    cases rr
    cases r
    obtain ⟨its, rv, p', hz⟩ := I1.tuple hq
    refine call_enumT (show s1.heap.IsTuple a its.toArray from p') fun h' he hit hk => wpAny_pyIter_enum he ?_
    have I2 : Inv X pins σ H1 { s1 with heap := h' } := I1.kept (t' := s1.toks) hk
    refine ⟨s1.heap.objs.size + 1, [s1.heap.objs.size + 1, s1.heap.objs.size], _, _, H1, rfl, I2, enumT_turn a (s1.heap.objs.size + 1) s1.heap.objs.size, ⟨⟨.none, he⟩, hit, Nat.succ_ne_self _⟩, fun b hb => ?_, q⟩
    have hle : s1.heap.objs.size ≤ b := by
      rcases (show b = s1.heap.objs.size + 1 ∨ b = s1.heap.objs.size by simpa using hb) with z | z
      · rw [z]; exact Nat.le_add_right _ _
      · rw [z]; exact Nat.le_refl _
    exact I1.fpOk hle (I1.hok.fresh hle)
section
variable {α : Type} {T : List (Addr × Str)} {r : Rp α} {K : PySem.W.Frag} {σ : L2.St} {H : Hp} {ta : TA} {xs : List α}
theorem iv_enumT (im : Imm r) (h : EvA T (a1 (pTup r)) ta σ H (is (xs, ()))) : Iv T (pPair pN r) (iEnumT K ta) σ H (is ((List.range xs.length).zip xs)) NoO := fun H1 e R k => h H1 e _ fun vs x H2 e2 rl p => by
  obtain ⟨v, ws, rfl, q1, q2⟩ := rl
  rw [show x = (xs, ()) from p] at q1
  obtain ⟨a, vs, rfl, h1, h2⟩ := q1
  refine ⟨a, vs, by rw [show ws = [] from q2], sq_t h1, k _ H2 _ none rfl rfl e2 (fun q hq => by cases hq) fun H3 g t i => ?_⟩
  have g1 : H3 a = some (.tup vs) := g.tup _ _ h1
  have l1 : vs.length = xs.length := h2.length
  have lz : ((List.range xs.length).zip xs).length = xs.length := by simp
  rw [lz]
  refine ⟨fun hi => ?_, fun hi => ⟨vs, sq_t g1, by omega⟩⟩
  obtain ⟨y, hy1, ry⟩ := Paired.at1 h2 (List.getElem?_eq_getElem hi)
  refine ⟨⟨vs, y, sq_t g1, hy1⟩, fun x H4 ⟨A, y', ex, hA, e4, f1⟩ => ?_⟩
  subst e4 ex
  have m1 := f1 vs (sq_t g1)
  rw [hy1] at m1
  cases m1
  have eN : TupE H2 (upd H3 A (.tup [.int (i : Nat), y])) := g.tup.trans (TupE.new hA)
  exact ⟨Ex.new t hA, (i, xs[i]), by rw [List.getElem?_zip_eq_some]; exact ⟨by rw [List.getElem?_range hi], List.getElem?_eq_getElem hi⟩, A, _, y, rfl, upd_same, rfl, im eN ry⟩
end
end LT
/-! ## LtZipN -/
set_option Elab.async false
set_option linter.all false
set_option maxRecDepth 100000
set_option maxHeartbeats 4000000
namespace LT
open PySem PySem.Spec PySem.W PyProof.Rows L2 LamX
open PySem.Sem (wp)

/-! ### zip of two tuples, drawn by one name: the pair given out may be alive at the next draw -/
abbrev IsZ (h : Heap) (z TI TO : Addr) (u : Value) (f : Bool) : Prop :=
  h.get? z = some { cls := .type "zip", dict := none, data := .fields #[u, .bool f, .bool false, .ref TI, .ref TO], slots := #[] }
def OutV (u : Value) : Prop := u = .none ∨ ∃ T : Addr, u = rawInt ((show Nat from T : Nat) : Int)
section
variable {prog : Program} {w : World} {A : Around} {E : Value → Shared → Prop} {s : Shared}
theorem ask_alive {a : Addr} {Q : Option Obj → Shared → Prop} (h : Q (s.heap.get? a) s) : wpAny (model prog w) A (loadIfAlive a) Q E s := fun _ _ _ => h
theorem own_free {z TI TO : Addr} {u : Value} {f : Bool} {Q : Bool → Shared → Prop} (ou : OutV u) (hz : IsZ s.heap z TI TO u f) (h1 : Q true s)
    (h2 : ∀ h', IsZ h' z TI TO u true → Heap.SameBut z s.heap h' → Q false { s with heap := h' }) : wpAny (model prog w) A (Builtin.SmallTypes.ownedTupleIsFree (.ref z)) Q E s := by
  unfold Builtin.SmallTypes.ownedTupleIsFree
  rcases ou with rfl | ⟨T, rfl⟩
  · exact wpAny_bind (wpAny_field hz rfl (x := .none) rfl (wpAny_pure h1))
  · refine wpAny_bind (wpAny_field hz rfl (x := rawInt _) rfl ?_)
    show wpAny _ _ (loadIfAlive (((show Nat from T : Nat) : Int).toNat) >>= _) _ _ _
    rw [Int.toNat_natCast]
    refine wpAny_bind (ask_alive ?_)
    cases hT : s.heap.get? T with
    | none => exact wpAny_pure h1
    | some o =>
      simp only [Option.isNone_some, Bool.false_eq_true, if_false]
      refine wpAny_bind (wpAny_field hz rfl (x := .bool f) rfl ?_)
      cases f with
      | true =>
        rw [if_neg (show ¬ ((Value.bool true != Value.bool true) = true) from Bool.false_ne_true)]
        exact wpAny_pure (h2 s.heap hz (Heap.SameBut.refl _ _))
      | false =>
        rw [if_pos (show (Value.bool false != Value.bool true) = true from rfl)]
        exact wpAny_bind (wpAny_setField_rec hz (by simp) fun h₁ hz₁ hs₁ => wpAny_pure (h2 h₁ hz₁ hs₁))
theorem zipN_item {z TI TO i1 i2 l1 l2 : Addr} {k1 k2 : Nat} {xs ys : Array Value} {x y a b u : Value} {f : Bool} {Q : Value → Shared → Prop} (D : ZipApart z TI TO i1 i2 l1 l2) (ou : OutV u)
    (hz : IsZ s.heap z TI TO u f) (hTI : IsPair s.heap TI (.ref i1) (.ref i2)) (hTO : IsPair s.heap TO a b)
    (h1 : s.heap.IsTupleIter i1 l1 k1) (h2 : s.heap.IsTupleIter i2 l2 k2) (hl1 : s.heap.IsTuple l1 xs) (hl2 : s.heap.IsTuple l2 ys) (hx : xs[k1]? = some x) (hy : ys[k2]? = some y)
    (hQ : ∀ h', (∃ u f, OutV u ∧ IsZ h' z TI TO u f) → (∃ a b, IsPair h' TO a b) → h'.IsTupleIter i1 l1 (k1 + 1) → h'.IsTupleIter i2 l2 (k2 + 1) → IsPair h' s.heap.objs.size x y →
      (∀ c o, c ≠ z → c ≠ TO → c ≠ i1 → c ≠ i2 → s.heap.get? c = some o → h'.get? c = some o) → Q (.ref s.heap.objs.size) { s with heap := h' }) :
    wpAny (model prog w) A (Builtin.«zip.__next__» ⟨[.ref z], []⟩) (fun fin s' => ∃ v, fin = .done (.ret v) ∧ Q v s') E s := by
  show wpAny _ _ (field (.ref z) 2 >>= _) _ _ _
  refine wpAny_bind (wpAny_field hz rfl (x := .bool false) rfl ?_)
  show wpAny _ _ (field (.ref z) 3 >>= _) _ _ _
  refine wpAny_bind (wpAny_field hz rfl (x := .ref TI) rfl ?_)
  refine wpAny_bind (wpAny_seqItems hTI rfl ?_)
  show wpAny _ _ (Builtin.SmallTypes.ownedTupleIsFree (.ref z) >>= _) _ _ _
  refine wpAny_bind (own_free ou hz ?free fun ha hza hsa => ?held)
  case free =>
    simp only [if_true]
    refine wpAny_bind (wpAny_rule ?_)
    refine wpAny_bind (wpAny_field hz rfl (x := .ref TO) rfl ?_)
    refine wpAny_bind (wpAny_setField_rec hz (by simp) fun ha hza hsa => ?_)
    replace hza : IsZ ha z TI TO .ellipsis f := hza
    refine wpAny_bind ?_
    simp only [List.zipIdx_cons, List.zipIdx_nil, List.forIn_cons, List.forIn_nil]
    refine wpAny_bind (wpAny_bind (wpAny_onRaise ?_))
    show wpAny _ _ (Builtin.SmallTypes.nextOf (.ref i1) >>= _) _ _ _
    refine wpAny_bind (RZ.nextOf_tuple_item (h1.extBut hsa.extBut D.i1z) (hl1.extBut hsa.extBut D.l1z) hx fun hb h1b hsb => wpAny_pure ?_)
    have tb : IsPair hb TO a b := hsb.extBut _ _ D.TOi1 (hsa.extBut _ _ D.TOz hTO)
    refine wpAny_bind (wpAny_seqItems tb rfl ?_)
    refine wpAny_bind (wpAny_updateSeq_pair tb fun hc tc hsc => ?_)
    replace tc : IsPair hc TO x b := tc
    refine wpAny_bind (wpAny_letGo (wpAny_pure ?_))
    refine wpAny_bind (wpAny_bind (wpAny_onRaise ?_))
    show wpAny _ _ (Builtin.SmallTypes.nextOf (.ref i2) >>= _) _ _ _
    refine wpAny_bind (RZ.nextOf_tuple_item (((h2.extBut hsa.extBut D.i2z).extBut hsb.extBut D.i12.symm).extBut hsc.extBut D.TOi2.symm)
      (((hl2.extBut hsa.extBut D.l2z).extBut hsb.extBut D.l2i1).extBut hsc.extBut D.l2TO) hy fun hd h2d hsd => wpAny_pure ?_)
    have td : IsPair hd TO x b := hsd.extBut _ _ D.TOi2 tc
    refine wpAny_bind (wpAny_seqItems td rfl ?_)
    refine wpAny_bind (wpAny_updateSeq_pair td fun he te hse => ?_)
    replace te : IsPair he TO x y := te
    refine wpAny_bind (wpAny_letGo (wpAny_pure (wpAny_pure ?_)))
    refine wpAny_bind (wpAny_seqItems te rfl ?_)
    refine wpAny_bind (wpAny_newTuple ?_)
    have hsz : he.objs.size = s.heap.objs.size := by rw [hse.1, hsd.1, hsc.1, hsb.1, hsa.1]
    have ze : IsZ he z TI TO .ellipsis f := hse.extBut _ _ D.TOz.symm (hsd.extBut _ _ D.i2z.symm (hsc.extBut _ _ D.TOz.symm (hsb.extBut _ _ D.i1z.symm hza)))
    have hk : ∀ c o, c ≠ z → c ≠ TO → c ≠ i1 → c ≠ i2 → s.heap.get? c = some o → he.get? c = some o := fun c o c1 c2 c3 c4 e =>
      hse.extBut _ _ c2 (hsd.extBut _ _ c4 (hsc.extBut _ _ c2 (hsb.extBut _ _ c3 (hsa.extBut _ _ c1 e))))
    have h1e : he.IsTupleIter i1 l1 (k1 + 1) := ((h1b.extBut hsc.extBut D.TOi1.symm).extBut hsd.extBut D.i12).extBut hse.extBut D.TOi1.symm
    have h2e : he.IsTupleIter i2 l2 (k2 + 1) := h2d.extBut hse.extBut D.TOi2.symm
    have zlt : z < he.objs.size := Heap.lt_size ze
    show wpAny _ _ (Builtin.SmallTypes.ownedTupleHandOut (.ref z) (.ref he.objs.size) >>= _) _ _ _
    refine wpAny_bind ?_
    unfold Builtin.SmallTypes.ownedTupleHandOut
    have zf : IsZ (he.push { cls := .type "tuple", data := .seq #[x, y] }) z TI TO .ellipsis f := Heap.get?_push_of_some _ ze
    refine wpAny_bind (wpAny_setField_rec zf (by simp) fun hg zg hsg => ?_)
    replace zg : IsZ hg z TI TO (rawInt ((show Nat from he.objs.size : Nat) : Int)) f := zg
    refine wpAny_setField_rec zg (by simp) fun hi zi hsi => ?_
    replace zi : IsZ hi z TI TO (rawInt ((show Nat from he.objs.size : Nat) : Int)) false := zi
    have up : ∀ c o, c ≠ z → he.get? c = some o → hi.get? c = some o := fun c o c1 e => hsi.extBut _ _ c1 (hsg.extBut _ _ c1 (Heap.get?_push_of_some _ e))
    have ti : IsPair hi he.objs.size x y := hsi.extBut _ _ (Nat.ne_of_gt zlt) (hsg.extBut _ _ (Nat.ne_of_gt zlt) (Heap.get?_push_size _ rfl))
    refine wpAny_pure ⟨_, rfl, ?_⟩
    show Q (.ref he.objs.size) _
    have zo : ∃ u f, OutV u ∧ IsZ hi z TI TO u f := ⟨_, _, .inr ⟨he.objs.size, rfl⟩, zi⟩
    rw [hsz] at ti ⊢
    exact hQ hi zo ⟨x, y, up _ _ D.TOz te⟩ (h1e.at fun o e => up _ o D.i1z e) (h2e.at fun o e => up _ o D.i2z e) ti fun c o c1 c2 c3 c4 e => up c o c1 (hk c o c1 c2 c3 c4 e)
  case held =>
    simp only [Bool.false_eq_true, if_false]
    refine wpAny_bind ?_
    rw [← Array.forIn_toList]
    simp only [List.forIn_cons, List.forIn_nil]
    refine wpAny_bind (wpAny_bind (wpAny_holding ?_))
    show wpAny _ _ (Builtin.SmallTypes.nextOf (.ref i1) >>= _) _ _ _
    refine wpAny_bind (RZ.nextOf_tuple_item (s := { s with heap := ha }) (h1.extBut hsa.extBut D.i1z) (hl1.extBut hsa.extBut D.l1z) hx fun hb h1b hsb => wpAny_pure ?_)
    refine wpAny_pure ?_
    refine wpAny_bind (wpAny_bind (wpAny_holding ?_))
    show wpAny _ _ (Builtin.SmallTypes.nextOf (.ref i2) >>= _) _ _ _
    refine wpAny_bind (RZ.nextOf_tuple_item (s := { s with heap := hb }) ((h2.extBut hsa.extBut D.i2z).extBut hsb.extBut D.i12.symm) ((hl2.extBut hsa.extBut D.l2z).extBut hsb.extBut D.l2i1) hy fun hc h2c hsc => wpAny_pure ?_)
    refine wpAny_pure (wpAny_pure ?_)
    show wpAny _ _ (newTuple [x, y] >>= _) _ _ _
    refine wpAny_bind (wpAny_newTuple ?_)
    have hsz : hc.objs.size = s.heap.objs.size := by rw [hsc.1, hsb.1, hsa.1]
    have zc : IsZ hc z TI TO u true := hsc.extBut _ _ D.i2z.symm (hsb.extBut _ _ D.i1z.symm hza)
    have hk : ∀ c o, c ≠ z → c ≠ i1 → c ≠ i2 → s.heap.get? c = some o → hc.get? c = some o := fun c o c1 c2 c3 e => hsc.extBut _ _ c3 (hsb.extBut _ _ c2 (hsa.extBut _ _ c1 e))
    have h1c : hc.IsTupleIter i1 l1 (k1 + 1) := h1b.extBut hsc.extBut D.i12
    refine wpAny_pure ⟨_, rfl, ?_⟩
    show Q (.ref hc.objs.size) _
    have hp : IsPair (hc.push { cls := .type "tuple", data := .seq #[x, y] }) hc.objs.size x y := Heap.get?_push_size _ rfl
    rw [hsz] at hp ⊢
    exact hQ _ ⟨u, true, ou, Heap.get?_push_of_some _ zc⟩ ⟨a, b, Heap.get?_push_of_some _ (hk _ _ D.TOz D.TOi1 D.TOi2 hTO)⟩ (h1c.at fun o e => Heap.get?_push_of_some _ e) (h2c.at fun o e => Heap.get?_push_of_some _ e) hp
      fun c o c1 _ c2 c3 e => Heap.get?_push_of_some _ (hk c o c1 c2 c3 e)
theorem zipN_end {z TI TO i1 i2 l1 l2 : Addr} {k1 k2 : Nat} {xs ys : Array Value} {a b u : Value} {f : Bool} {Q : Fin → Shared → Prop} (hh : A.handled = none) (D : ZipApart z TI TO i1 i2 l1 l2) (ou : OutV u)
    (hz : IsZ s.heap z TI TO u f) (hTI : IsPair s.heap TI (.ref i1) (.ref i2)) (hTO : IsPair s.heap TO a b)
    (h1 : s.heap.IsTupleIter i1 l1 k1) (h2 : s.heap.IsTupleIter i2 l2 k2) (hl1 : s.heap.IsTuple l1 xs) (hl2 : s.heap.IsTuple l2 ys) (hend : xs[k1]? = none ∨ ys[k2]? = none)
    (hE : ∀ h' e, (∀ c o, c ≠ z → c ≠ TO → c ≠ i1 → c ≠ i2 → s.heap.get? c = some o → h'.get? c = some o) → (∃ o, h'.get? e = some o ∧ o.cls = .type "StopIteration") → E (.ref e) { s with heap := h' }) :
    wpAny (model prog w) A (Builtin.«zip.__next__» ⟨[.ref z], []⟩) Q E s := by
  show wpAny _ _ (field (.ref z) 2 >>= _) _ _ _
  refine wpAny_bind (wpAny_field hz rfl (x := .bool false) rfl ?_)
  show wpAny _ _ (field (.ref z) 3 >>= _) _ _ _
  refine wpAny_bind (wpAny_field hz rfl (x := .ref TI) rfl ?_)
  refine wpAny_bind (wpAny_seqItems hTI rfl ?_)
  show wpAny _ _ (Builtin.SmallTypes.ownedTupleIsFree (.ref z) >>= _) _ _ _
  refine wpAny_bind (own_free ou hz ?free fun ha hza hsa => ?held)
  case free =>
    simp only [if_true]
    refine wpAny_bind (wpAny_rule ?_)
    refine wpAny_bind (wpAny_field hz rfl (x := .ref TO) rfl ?_)
    refine wpAny_bind (wpAny_setField_rec hz (by simp) fun ha hza hsa => ?_)
    replace hza : IsZ ha z TI TO .ellipsis f := hza
    refine wpAny_bind ?_
    simp only [List.zipIdx_cons, List.zipIdx_nil, List.forIn_cons, List.forIn_nil]
    refine wpAny_bind (wpAny_bind (wpAny_onRaise ?_))
    show wpAny _ _ (Builtin.SmallTypes.nextOf (.ref i1) >>= _) _ _ _
    cases hx : xs[k1]? with
    | none =>
      refine wpAny_bind (RZ.nextOf_tuple_end hh (h1.extBut hsa.extBut D.i1z) (hl1.extBut hsa.extBut D.l1z) hx fun hb e hsb ⟨oe, hoe, hce⟩ => ?_)
      have zb : IsZ hb z TI TO .ellipsis f := hsb _ _ D.i1z.symm hza
      have hez : e ≠ z := fun q => by subst q; rw [zb] at hoe; cases hoe; simp at hce
      refine wpAny_setField_rec zb (by simp) fun hc _ hsc => hE hc e (fun c o c1 _ c3 _ q => hsc.extBut _ _ c1 (hsb _ _ c3 (hsa.extBut _ _ c1 q))) ⟨oe, hsc.extBut _ _ hez hoe, hce⟩
    | some x =>
      have hy : ys[k2]? = none := hend.elim (fun q => by rw [hx] at q; cases q) id
      refine wpAny_bind (RZ.nextOf_tuple_item (h1.extBut hsa.extBut D.i1z) (hl1.extBut hsa.extBut D.l1z) hx fun hb h1b hsb => wpAny_pure ?_)
      have tb : IsPair hb TO a b := hsb.extBut _ _ D.TOi1 (hsa.extBut _ _ D.TOz hTO)
      refine wpAny_bind (wpAny_seqItems tb rfl ?_)
      refine wpAny_bind (wpAny_updateSeq_pair tb fun hc tc hsc => ?_)
      refine wpAny_bind (wpAny_letGo (wpAny_pure ?_))
      refine wpAny_bind (wpAny_bind (wpAny_onRaise ?_))
      show wpAny _ _ (Builtin.SmallTypes.nextOf (.ref i2) >>= _) _ _ _
      refine wpAny_bind (RZ.nextOf_tuple_end hh (((h2.extBut hsa.extBut D.i2z).extBut hsb.extBut D.i12.symm).extBut hsc.extBut D.TOi2.symm)
        (((hl2.extBut hsa.extBut D.l2z).extBut hsb.extBut D.l2i1).extBut hsc.extBut D.l2TO) hy fun hd e hsd ⟨oe, hoe, hce⟩ => ?_)
      have zd : IsZ hd z TI TO .ellipsis f := hsd _ _ D.i2z.symm (hsc.extBut _ _ D.TOz.symm (hsb.extBut _ _ D.i1z.symm hza))
      have hez : e ≠ z := fun q => by subst q; rw [zd] at hoe; cases hoe; simp at hce
      refine wpAny_setField_rec zd (by simp) fun he _ hse => hE he e (fun c o c1 c2 c3 c4 q => hse.extBut _ _ c1 (hsd _ _ c4 (hsc.extBut _ _ c2 (hsb.extBut _ _ c3 (hsa.extBut _ _ c1 q))))) ⟨oe, hse.extBut _ _ hez hoe, hce⟩
  case held =>
    simp only [Bool.false_eq_true, if_false]
    refine wpAny_bind ?_
    rw [← Array.forIn_toList]
    simp only [List.forIn_cons, List.forIn_nil]
    refine wpAny_bind (wpAny_bind (wpAny_holding ?_))
    show wpAny _ _ (Builtin.SmallTypes.nextOf (.ref i1) >>= _) _ _ _
    cases hx : xs[k1]? with
    | none =>
      refine wpAny_bind (RZ.nextOf_tuple_end (s := { s with heap := ha }) hh (h1.extBut hsa.extBut D.i1z) (hl1.extBut hsa.extBut D.l1z) hx fun hb e hsb he => ?_)
      exact hE hb e (fun c o c1 _ c3 _ q => hsb _ _ c3 (hsa.extBut _ _ c1 q)) he
    | some x =>
      have hy : ys[k2]? = none := hend.elim (fun q => by rw [hx] at q; cases q) id
      refine wpAny_bind (RZ.nextOf_tuple_item (s := { s with heap := ha }) (h1.extBut hsa.extBut D.i1z) (hl1.extBut hsa.extBut D.l1z) hx fun hb h1b hsb => wpAny_pure ?_)
      refine wpAny_pure ?_
      refine wpAny_bind (wpAny_bind (wpAny_holding ?_))
      show wpAny _ _ (Builtin.SmallTypes.nextOf (.ref i2) >>= _) _ _ _
      refine wpAny_bind (RZ.nextOf_tuple_end (s := { s with heap := hb }) hh ((h2.extBut hsa.extBut D.i2z).extBut hsb.extBut D.i12.symm) ((hl2.extBut hsa.extBut D.l2z).extBut hsb.extBut D.l2i1) hy fun hc e hsc he => ?_)
      exact hE hc e (fun c o c1 _ c3 c4 q => hsc _ _ c4 (hsb.extBut _ _ c3 (hsa.extBut _ _ c1 q))) he
end
/-- the turns; any target that no tuple goes to -/
theorem zipN_turn {P : Program} {w : World} {K : PySem.W.Frag} {y : Str} {tpos : Pos} {a b z TI TO i1 i2 : Addr} (D : ZipApart z TI TO i1 i2 a b) :
    Turn P w K (.Name y tpos) (RZ.ItzT K a b) [z, TI, TO, i1, i2] z (fun i h => (∃ u f, OutV u ∧ IsZ h z TI TO u f) ∧ IsPair h TI (.ref i1) (.ref i2) ∧ (∃ x y, IsPair h TO x y) ∧ h.IsTupleIter i1 a i ∧ h.IsTupleIter i2 b i) where
  mem := by simp
  obj := fun i h st c hc => by
    obtain ⟨⟨u, f, _, hz⟩, hTI, ⟨x, y, hTO⟩, ⟨o1, e1, _, d1⟩, ⟨o2, e2, _, d2⟩⟩ := st
    rcases (show c = z ∨ c = TI ∨ c = TO ∨ c = i1 ∨ c = i2 by simpa using hc) with q | q | q | q | q
    · rw [q]; exact ⟨_, hz, fun v q => nomatch q⟩
    · rw [q]; exact ⟨_, hTI, fun v q => nomatch q⟩
    · rw [q]; exact ⟨_, hTO, fun v q => nomatch q⟩
    · rw [q]; exact ⟨o1, e1, fun v q => by rw [d1] at q; cases q⟩
    · rw [q]; exact ⟨o2, e2, fun v q => by rw [d2] at q; cases q⟩
  keep := fun i h h' st k => by
    obtain ⟨⟨u, f, ou, hz⟩, hTI, ⟨x, y, hTO⟩, h1, h2⟩ := st
    exact ⟨⟨u, f, ou, k z (by simp) _ hz⟩, k TI (by simp) _ hTI, ⟨x, y, k TO (by simp) _ hTO⟩, h1.at fun o q => k i1 (by simp) o q, h2.at fun o q => k i2 (by simp) o q⟩
  item := by
    intro X hP hw hK hc i pins s σ H E I hf st hg
    subst hP hw hK
    obtain ⟨⟨u0, f0, ou, hz⟩, hTI, ⟨x0, y0, hTO⟩, h1, h2⟩ := st
    obtain ⟨xs, ys, x, y, hqx, hqy, hx, hy⟩ := hg
    obtain ⟨its, rv, p, _⟩ := I.tuple hqx
    obtain ⟨its2, rv2, p2, _⟩ := I.tuple hqy
    obtain ⟨u, hu, ru⟩ := rv.get hx
    obtain ⟨u2, hu2, ru2⟩ := rv2.get hy
    have hT : s.TypeIs (.ref z) "zip" := ⟨_, hz, rfl⟩
    unfold pyNext
    refine wpAny_bind (wpAny_attempt (wpAny_callSpecial?_slot (name := Str.ofString "__next__") hT F.slot_zip_next
      (wpAny_call_entry F.slot_zip_next hT F.entry_zip_next
        (zipN_item D ou hz hTI hTO h1 h2 p p2 (x := u) (y := u2) (by simpa using hu) (by simpa using hu2) fun h' zo' TO' h1' h2' hT' hk => wpAny_pure ?_) (F.args_zip_next_1 _))))
    have new : ObjOk X.prog X.w (upd H s.heap.objs.size (.tup [x, y])) h' s.heap.objs.size (.tup [x, y]) :=
      ⟨by show 2 ≤ sizeLine; decide, [u, u2], .cons ru (.cons ru2 .nil), ⟨_, hT', rfl, _, rfl⟩⟩
    have I1 : Inv X pins σ (upd H s.heap.objs.size (.tup [x, y])) { s with heap := h' } :=
      I.turnedNew (t' := s.toks) (ch := [z, TI, TO, i1, i2]) (fun c o hb q => hk c o (fun q' => hb (by simp [q'])) (fun q' => hb (by simp [q'])) (fun q' => hb (by simp [q'])) (fun q' => hb (by simp [q'])) q) hf (Nat.le_refl _) new
    refine ⟨_, rfl, wpAny_pure ⟨.ref s.heap.objs.size, _, I1, rfl, ⟨_, x, y, rfl, I.hok.fresh (Nat.le_refl _), rfl, fun l hl => by rw [I.tuple_inj hl hqx]; exact hx, fun l hl => by rw [I.tuple_inj hl hqy]; exact hy⟩, ⟨zo', ?_, TO', h1', h2'⟩, fun c hcm => ?_⟩⟩
    · exact hk _ _ D.TIz D.TITO D.TIi1 D.TIi2 hTI
    · have hlt : c < s.heap.objs.size := by
        rcases (show c = z ∨ c = TI ∨ c = TO ∨ c = i1 ∨ c = i2 by simpa using hcm) with q | q | q | q | q
        · rw [q]; exact Heap.lt_size hz
        · rw [q]; exact Heap.lt_size hTI
        · rw [q]; exact Heap.lt_size hTO
        · rw [q]; obtain ⟨_, e1, _⟩ := h1; exact Heap.lt_size e1
        · rw [q]; obtain ⟨_, e2, _⟩ := h2; exact Heap.lt_size e2
      rw [upd_ne (Nat.ne_of_lt hlt)]
      exact (hf c hcm).1
  done := by
    intro X hP hw hK hc i pins s σ H E I hf st hg
    subst hP hw hK
    obtain ⟨⟨u0, f0, ou, hz⟩, hTI, ⟨x0, y0, hTO⟩, h1, h2⟩ := st
    obtain ⟨xs, ys, hqx, hqy, hend⟩ := hg
    obtain ⟨its, rv, p, _⟩ := I.tuple hqx
    obtain ⟨its2, rv2, p2, _⟩ := I.tuple hqy
    have l1 := rv.length
    have l2 := rv2.length
    have he : its.toArray[i]? = none ∨ its2.toArray[i]? = none := by
      rcases hend with q | q
      · exact .inl (by simp; omega)
      · exact .inr (by simp; omega)
    have hT : s.TypeIs (.ref z) "zip" := ⟨_, hz, rfl⟩
    unfold pyNext
    refine wpAny_bind (wpAny_attempt (wpAny_callSpecial?_slot (name := Str.ofString "__next__") hT F.slot_zip_next
      (wpAny_call_entry F.slot_zip_next hT F.entry_zip_next (zipN_end (I.ok.hd hc) D ou hz hTI hTO h1 h2 p p2 he fun h' e hk ⟨o, ho, hc'⟩ => ?_) (F.args_zip_next_1 _))))
    refine wpAny_bind (wpAny_isInstance (T := "StopIteration") (b := true) ⟨o, ho, hc'⟩ isSubtype_stop ?_)
    exact wpAny_pure ⟨rfl, I.turnedL (t' := s.toks) (ch := [z, TI, TO, i1, i2]) (fun c o hb q =>
      hk c o (fun q' => hb (by simp [q'])) (fun q' => hb (by simp [q'])) (fun q' => hb (by simp [q'])) (fun q' => hb (by simp [q'])) q) hf⟩
  self := fun A i s Q E st h => by
    obtain ⟨⟨u, f, _, hz⟩, _⟩ := st
    have hT : s.TypeIs (.ref z) "zip" := ⟨_, hz, rfl⟩
    refine wpAny_pyIter_slot hT F.slot_zip_iter (wpAny_call_entry F.slot_zip_iter hT F.entry_zip_iter ?_ (F.args_zip_iter_1 _))
    show wpAny _ _ (ret (.ref z)) _ _ s
    exact wpAny_pure ⟨_, rfl, "zip", _, hT, F.slot_zip_next.lookup, h⟩
def iZipN (K : PySem.W.Frag) (ta : TA) : TI := fun σ H R => ta σ H fun vs H1 => ∃ a b xs ys, vs = [.ref a, .ref b] ∧ SqT K H1 a xs ∧ SqT K H1 b ys ∧ R (RZ.ItzT K a b) H1
theorem pi_zipN {X : Cx} {e e2 : Expr} {ta : TA} {p pos tpos : Pos} {y : Str} (hg : Gl X "zip") (hm : X.mg "zip" = none) (ha : PA X [e, e2] ta)
    (hs : starEach [e, e2] X.env = (false, eval e X.env) :: starEach [e2] X.env := by rfl) (hpl : (backTo pos (starEach [e2] X.env)).any (·.1) = false := by rfl) :
    PI X (.Name y tpos) (.Call (.Name "zip" p) [e, e2] [] pos) (iZipN X.K ta) := by
  refine ⟨fun pins s σ H R I h => ?_⟩
  refine Call_ (ld_blt I hg hm PyProof.Rows.boot_zip (PyProof.Rows.callWith_type1 (thn (ha.run pos pins s σ H _ I h) fun us s1 ⟨vs, H1, I1, r1, q1⟩ => ?_) hs hpl))
  obtain ⟨a, b, xs, ys, ex, hqx, hqy, q⟩ := q1
  subst ex
  cases r1 with
  | cons r rr =>
    cases rr with
    | cons r' rr =>
      cases rr
      cases r
      cases r'
      have fresh5 : ∀ c, c ∈ [s1.heap.objs.size + 4, s1.heap.objs.size + 2, s1.heap.objs.size + 3, s1.heap.objs.size, s1.heap.objs.size + 1] → FpOk X pins H1 c := fun c hcm => by
        have hle : s1.heap.objs.size ≤ c := by
          rcases (show c = s1.heap.objs.size + 4 ∨ c = s1.heap.objs.size + 2 ∨ c = s1.heap.objs.size + 3 ∨ c = s1.heap.objs.size ∨ c = s1.heap.objs.size + 1 by simpa using hcm) with z | z | z | z | z
          · rw [z]; exact Nat.le_add_right _ _
          · rw [z]; exact Nat.le_add_right _ _
          · rw [z]; exact Nat.le_add_right _ _
          · rw [z]; exact Nat.le_refl _
          · rw [z]; exact Nat.le_add_right _ _
        exact I1.fpOk hle (I1.hok.fresh hle)
      obtain ⟨its, rv, p1, _⟩ := I1.tuple hqx
      obtain ⟨its2, rv2, p2, _⟩ := I1.tuple hqy
      obtain ⟨o1, ho1, _⟩ := id p1
      obtain ⟨o2, ho2, _⟩ := id p2
      refine RZ.call_zipT (show s1.heap.IsTuple a its.toArray from p1) (show s1.heap.IsTuple b its2.toArray from p2) fun h' hz hTI hTO h1 h2 hsz hk => wpAny_pyIter_zip hz ?_
      have I2 : Inv X pins σ H1 { s1 with heap := h' } := I1.kept (t' := s1.toks) hk
      exact ⟨s1.heap.objs.size + 4, [s1.heap.objs.size + 4, s1.heap.objs.size + 2, s1.heap.objs.size + 3, s1.heap.objs.size, s1.heap.objs.size + 1], _, _, H1, rfl, I2, zipN_turn (PySem.W.ktu_apart s1.heap.objs.size a b (Heap.lt_size ho1) (Heap.lt_size ho2)), ⟨⟨.none, false, .inl rfl, hz⟩, hTI, ⟨_, _, hTO⟩, h1, h2⟩, fresh5, q⟩
section
variable {α β : Type} {T : List (Addr × Str)} {r : Rp α} {s : Rp β} {K : PySem.W.Frag} {σ : L2.St} {H : Hp} {ta : TA} {xs : List α} {ys : List β}
theorem iv_zipN (im : Imm r) (js : Imm s) (h : EvA T (a2 (pTup r) (pTup s)) ta σ H (is (xs, ys, ()))) : Iv T (pPair r s) (iZipN K ta) σ H (is (xs.zip ys)) NoO := fun H1 e R k => h H1 e _ fun vs x H2 e2 rl p => by
  obtain ⟨v, ws, rfl, q1, w, us, rfl, q2, q3⟩ := rl
  rw [show x = (xs, ys, ()) from p] at q1 q2
  obtain ⟨a, vs, rfl, h1, h2⟩ := q1
  obtain ⟨b, us', rfl, h3, h4⟩ := q2
  refine ⟨a, b, vs, us', by rw [show us = [] from q3], sq_t h1, sq_t h3, k _ H2 (xs.zip ys) none rfl rfl e2 (fun q hq => by cases hq) fun H3 g t i => ?_⟩
  have g1 : H3 a = some (.tup vs) := g.tup _ _ h1
  have g3 : H3 b = some (.tup us') := g.tup _ _ h3
  have l1 : vs.length = xs.length := h2.length
  have l2 : us'.length = ys.length := h4.length
  rw [List.length_zip]
  refine ⟨fun hi => ?_, fun hi => ⟨vs, us', sq_t g1, sq_t g3, by omega⟩⟩
  have hx : i < xs.length := by omega
  have hy : i < ys.length := by omega
  obtain ⟨y, hy1, ry⟩ := Paired.at1 h2 (List.getElem?_eq_getElem hx)
  obtain ⟨z, hz1, rz⟩ := Paired.at1 h4 (List.getElem?_eq_getElem hy)
  refine ⟨⟨vs, us', y, z, sq_t g1, sq_t g3, hy1, hz1⟩, fun x H4 ⟨A, y', z', ex, hA, e4, f1, f2⟩ => ?_⟩
  subst e4 ex
  have m1 := f1 vs (sq_t g1)
  have m2 := f2 us' (sq_t g3)
  rw [hy1] at m1
  rw [hz1] at m2
  cases m1
  cases m2
  have eN : TupE H2 (upd H3 A (.tup [y, z])) := g.tup.trans (TupE.new hA)
  exact ⟨Ex.new t hA, (xs[i], ys[i]), by rw [List.getElem?_zip_eq_some]; exact ⟨List.getElem?_eq_getElem hx, List.getElem?_eq_getElem hy⟩, A, y, z, rfl, upd_same, im eN ry, js eN rz⟩
end
end LT
/-! ## LtRule -/
set_option Elab.async false
set_option linter.all false
set_option maxRecDepth 100000
set_option maxHeartbeats 4000000
namespace LT
open PySem PySem.Spec PyProof.Rows L2 LamX

/-! ### the widest readings -/
def oE (X : Cx) (e : Expr) : TE := fun σ H Q => ∀ (pins : List (Addr × Obj)) (s : Shared), Inv X pins σ H s → wpAny (model X.prog X.w) X.A (eval e X.env) (EP X pins σ Q) X.xe s
def oT (X : Cx) (e : Expr) : TT := fun σ H Q => ∀ (pins : List (Addr × Obj)) (s : Shared), Inv X pins σ H s → wpAny (model X.prog X.w) X.A (isTrue e X.env (eval e X.env)) (TP X pins σ Q) X.xe s
def oA (X : Cx) (es : List Expr) : TA := fun σ H Q => ∀ (pos : Pos) (pins : List (Addr × Obj)) (s : Shared), Inv X pins σ H s → wpAny (model X.prog X.w) X.A (spliced (backTo pos (starEach es X.env))) (AP X pins σ Q) X.xe s
def oI (X : Cx) (tg iter : Expr) : TI := fun σ H R => ∀ (pins : List (Addr × Obj)) (s : Shared), Inv X pins σ H s → wpAny (model X.prog X.w) X.A (eval iter X.env) (fun v s1 => wpAny (model X.prog X.w) X.A (pyIter v) (PIE X pins σ tg R) X.xe s1) X.xe s
def oS (X : Cx) (st : Stmt) : TS := fun D σ H => ∀ (pins : List (Addr × Obj)) (s : Shared), Inv X pins σ H s → wpAny (model X.prog X.w) X.A (exec st X.env) (SP X pins D) X.xe s
def oSs (X : Cx) (st : List Stmt) : TS := fun D σ H => ∀ (pins : List (Addr × Obj)) (s : Shared), Inv X pins σ H s → wpAny (model X.prog X.w) X.A (execs st X.env) (SP X pins D) X.xe s
section
variable {X : Cx} {e : Expr} {es : List Expr} {te : TE} {tt : TT} {ta : TA} {tg iter : Expr} {ti : TI} {st : Stmt} {sts : List Stmt} {ts : TS} {D : Ends} {σ : L2.St} {H : Hp}
theorem pe_o : PE X e (oE X e) := ⟨fun pins s σ H Q I h => h pins s I⟩
theorem pt_o : PT X e (oT X e) := ⟨fun pins s σ H Q I h => h pins s I⟩
theorem pa_o : PA X es (oA X es) := ⟨fun pos pins s σ H Q I h => h pos pins s I⟩
theorem pi_o : PI X tg iter (oI X tg iter) := ⟨fun pins s σ H Q I h => h pins s I⟩
theorem ps_o : PS X st (oS X st) := ⟨fun pins s σ H D I h => h pins s I⟩
theorem pss_o : PSs X sts (oSs X sts) := ⟨fun pins s σ H D I h => h pins s I⟩
theorem oS_of (h : PS X st ts) (q : ts D σ H) : oS X st D σ H := fun pins s I => h.run pins s σ H D I q
theorem oSs_of (h : PSs X sts ts) (q : ts D σ H) : oSs X sts D σ H := fun pins s I => h.run pins s σ H D I q
end
section
variable {α β γ : Type} {X : Cx} {T : List (Addr × Str)} {e : Expr} {es : List Expr} {te : TE} {tt : TT} {ta : TA} {tg iter : Expr} {ti : TI} {r : Rp α} {ra : RpA α} {σ : L2.St} {H : Hp} {P : α → Prop} {Pl : List α → Prop} {O : Option (Addr × HO) → Prop} {b : Bool}
abbrev VE (X : Cx) (T : List (Addr × Str)) (e : Expr) (r : Rp α) (σ : L2.St) (H : Hp) (P : α → Prop) : Prop := Ev T r (oE X e) σ H P
abbrev VF (X : Cx) (T : List (Addr × Str)) (e : Expr) (r : Rp α) (σ : L2.St) (H : Hp) (P : α → Prop) : Prop := EvF T r (oE X e) σ H P
abbrev VT (X : Cx) (T : List (Addr × Str)) (e : Expr) (σ : L2.St) (H : Hp) (b : Bool) : Prop := EvT T (oT X e) σ H b
abbrev VA (X : Cx) (T : List (Addr × Str)) (es : List Expr) (ra : RpA α) (σ : L2.St) (H : Hp) (P : α → Prop) : Prop := EvA T ra (oA X es) σ H P
abbrev VI (X : Cx) (T : List (Addr × Str)) (tg iter : Expr) (r : Rp α) (σ : L2.St) (H : Hp) (P : List α → Prop) (O : Option (Addr × HO) → Prop) : Prop := Iv T r (oI X tg iter) σ H P O
theorem ve_of (h : PE X e te) (q : Ev T r te σ H P) : VE X T e r σ H P := fun H1 e1 Q k pins s I => h.run pins s σ H1 Q I (q H1 e1 Q k)
theorem vf_of (h : PE X e te) (q : EvF T r te σ H P) : VF X T e r σ H P := fun H1 e1 Q k pins s I => h.run pins s σ H1 Q I (q H1 e1 Q k)
theorem vt_of (h : PT X e tt) (q : EvT T tt σ H b) : VT X T e σ H b := fun H1 e1 Q k pins s I => h.run pins s σ H1 Q I (q H1 e1 Q k)
theorem va_of (h : PA X es ta) (q : EvA T ra ta σ H P) : VA X T es ra σ H P := fun H1 e1 Q k pos pins s I => h.run pos pins s σ H1 Q I (q H1 e1 Q k)
theorem vi_of (h : PI X tg iter ti) (q : Iv T r ti σ H Pl O) : VI X T tg iter r σ H Pl O := fun H1 e1 Q k pins s I => h.run pins s σ H1 Q I (q H1 e1 Q k)
end

/-! ### expressions -/
section
variable {α β γ : Type} {X : Cx} {T : List (Addr × Str)} {a b c e : Expr} {es : List Expr} {r : Rp α} {s : Rp β} {ra : RpA β} {σ : L2.St} {H : Hp} {P : α → Prop} {Pb : β → Prop} {v : V} {x : α} {y : β} {pos p pos' : Pos} {i j k : Int} {m n : Nat} {bx bz : Bool}
theorem v_v (ix : Nat) {z : Str} (rl : r.rel H v x) (hσ : σ[ix]? = some (some v) := by rfl) (hN : X.N[ix]? = some z := by rfl) (hv : Vis X.env.scope z := by first | exact Or.inl rfl | exact Or.inr (Or.inl rfl) | exact Or.inr (Or.inr rfl))
    (hd : (z == ("__debug__" : Str)) = false := by decide) (hcd : (z == ("__classdict__" : Str)) = false := by decide) : VE X T (.Name z pos) r σ H (is x) := ve_of (pe_var hN hv hd hcd) (ev_var rl hσ)
theorem v_int {jj} : VE X T (.Constant (.int i) jj pos) pI σ H (is i) := ve_of pe_int ev_int
theorem v_nat {jj} : VE X T (.Constant (.int (n : Int)) jj pos) pN σ H (is n) := ve_of pe_int ev_nat
theorem v_bl {jj} : VE X T (.Constant (.bool bx) jj pos) pB σ H (is bx) := ve_of pe_bl ev_bl
theorem v_non {jj} : VE X T (.Constant .none jj pos) pU σ H (is ()) := ve_of pe_non ev_non
theorem v_glob {z : Str} {u : Value} (hm : X.mg z = some u) (hr : RelV (.int i) u) (hg : Gl X z := by rfl) (hd : (z == ("__debug__" : Str)) = false := by decide) : VE X T (.Name z pos) pI σ H (is i) := ve_of (pe_glob hg hm hr hd) ev_int
/-! arithmetic -/
theorem v_add (ha : VE X T a pI σ H (is i)) (hb : VE X T b pI σ H (is j)) : VE X T (.BinOp a .Add b pos) pI σ H (is (i + j)) := ve_of (pe_op op_add pe_o pe_o) (ev_I0 (fun _ => rfl) ha hb)
theorem v_sub (ha : VE X T a pI σ H (is i)) (hb : VE X T b pI σ H (is j)) : VE X T (.BinOp a .Sub b pos) pI σ H (is (i - j)) := ve_of (pe_op op_sub pe_o pe_o) (ev_I0 (fun _ => rfl) ha hb)
theorem v_addN (ha : VE X T a pN σ H (is m)) (hb : VE X T b pN σ H (is n)) : VE X T (.BinOp a .Add b pos) pN σ H (is (m + n)) := ev_n (by rw [Int.natCast_add]; exact v_add (ev_i ha) (ev_i hb))
theorem v_subN (ha : VE X T a pN σ H (is m)) (hb : VE X T b pN σ H (is n)) (h : n ≤ m) : VE X T (.BinOp a .Sub b pos) pN σ H (is (m - n)) := ev_n (by rw [Int.ofNat_sub h]; exact v_sub (ev_i ha) (ev_i hb))
/-! comparisons: VC, told once, is a value (v_c) and a test (t_c) -/
def VC (X : Cx) (T : List (Addr × Str)) (op : CmpOp) (a b : Expr) (σ : L2.St) (H : Hp) (bx : Bool) : Prop := ∃ q : R2, OpR X (compareOp op) q ∧ Ev T pB (tOp q (oE X a) (oE X b)) σ H (is bx)
theorem v_c {op : CmpOp} (h : VC X T op a b σ H bx) (hm : behindInMarks op b = false := by first | exact nobehind _ (by decide) (by decide) | rfl | with_unfolding_all rfl) : VE X T (.Compare a [op] [b] pos) pB σ H (is bx) := by
  obtain ⟨q, h1, h2⟩ := h
  exact ve_of (pe_cmpR h1 pe_o pe_o hm) h2
theorem t_c {op : CmpOp} (h : VC X T op a b σ H bx) (hm : behindInMarks op b = false := by first | exact nobehind _ (by decide) (by decide) | rfl | with_unfolding_all rfl) : VT X T (.Compare a [op] [b] pos) σ H bx := by
  obtain ⟨q, h1, h2⟩ := h
  exact vt_of (pt_cmpR h1 pe_o pe_o hm) (et_test h2)
theorem c_is {op : CmpOp} (h : VC X T op a b σ H bx) (e : bx = bz) : VC X T op a b σ H bz := e ▸ h
theorem c_lt (ha : VE X T a pI σ H (is i)) (hb : VE X T b pI σ H (is j)) : VC X T .Lt a b σ H (decide (i < j)) := ⟨_, op_lt, ev_I0 (fun _ => rfl) ha hb⟩
theorem c_le (ha : VE X T a pI σ H (is i)) (hb : VE X T b pI σ H (is j)) : VC X T .LtE a b σ H (decide (i ≤ j)) := ⟨_, op_le, ev_I0 (fun _ => rfl) ha hb⟩
theorem c_gt (ha : VE X T a pI σ H (is i)) (hb : VE X T b pI σ H (is j)) : VC X T .Gt a b σ H (decide (j < i)) := ⟨_, op_gt, ev_I0 (fun _ => rfl) ha hb⟩
theorem c_ge (ha : VE X T a pI σ H (is i)) (hb : VE X T b pI σ H (is j)) : VC X T .GtE a b σ H (decide (j ≤ i)) := ⟨_, op_ge, ev_I0 (fun _ => rfl) ha hb⟩
theorem c_eqI (ha : VE X T a pI σ H (is i)) (hb : VE X T b pI σ H (is j)) : VC X T .Eq a b σ H (decide (i = j)) := ⟨_, op_eq, ev_eqI ha hb⟩
theorem c_neI (ha : VE X T a pI σ H (is i)) (hb : VE X T b pI σ H (is j)) : VC X T .NotEq a b σ H (!decide (i = j)) := ⟨_, op_ne, ev_neI ha hb⟩
theorem c_eqB (ha : VE X T a pB σ H (is bx)) (hb : VE X T b pB σ H (is bz)) : VC X T .Eq a b σ H (bx == bz) := ⟨_, op_eq, ev_eqB ha hb⟩
theorem c_neB (ha : VE X T a pB σ H (is bx)) (hb : VE X T b pB σ H (is bz)) : VC X T .NotEq a b σ H (bx != bz) := ⟨_, op_ne, ev_neB ha hb⟩
theorem c_eqN (ha : VE X T a pN σ H (is m)) (hb : VE X T b pN σ H (is n)) : VC X T .Eq a b σ H (decide (m = n)) := c_is (c_eqI (ev_i ha) (ev_i hb)) (decide_eq_decide.mpr Int.natCast_inj)
theorem c_neN (ha : VE X T a pN σ H (is m)) (hb : VE X T b pN σ H (is n)) : VC X T .NotEq a b σ H (!decide (m = n)) := c_is (c_neI (ev_i ha) (ev_i hb)) (congrArg not (decide_eq_decide.mpr Int.natCast_inj))
theorem c_ltN (ha : VE X T a pN σ H (is m)) (hb : VE X T b pN σ H (is n)) : VC X T .Lt a b σ H (decide (m < n)) := c_is (c_lt (ev_i ha) (ev_i hb)) (decide_eq_decide.mpr Int.ofNat_lt)
theorem c_gtN (ha : VE X T a pN σ H (is m)) (hb : VE X T b pN σ H (is n)) : VC X T .Gt a b σ H (decide (n < m)) := c_is (c_gt (ev_i ha) (ev_i hb)) (decide_eq_decide.mpr Int.ofNat_lt)
theorem c_leN (ha : VE X T a pN σ H (is m)) (hb : VE X T b pN σ H (is n)) : VC X T .LtE a b σ H (decide (m ≤ n)) := c_is (c_le (ev_i ha) (ev_i hb)) (decide_eq_decide.mpr Int.ofNat_le)
theorem c_isN {jj} (ha : VE X T a r σ H P) (hn : ∀ H v x, r.rel H v x → P x → decide (v = .non) = bx) : VC X T .Is a (.Constant .none jj p) σ H bx := ⟨_, op_isN, ev_isN hn ha v_non⟩
theorem c_notN {jj} (ha : VE X T a r σ H P) (hn : ∀ H v x, r.rel H v x → P x → decide (v = .non) = bx) : VC X T .IsNot a (.Constant .none jj p) σ H (!bx) :=
  ⟨_, op_notN, ev_op (q := pB) ha (v_non (X := X) (T := T)) fun v w x y H1 e rx ry px py Q k => ⟨ry, k _ (!bx) H1 e.here (by rw [hn H1 v x rx px]; rfl) rfl⟩⟩
theorem v_leleI (ha : VE X T a pI σ H (is i)) (hb : VE X T b pI σ H (is j)) (hc : VE X T c pI σ H (is k)) (hm : lastMarks [.LtE, .LtE] [b, c] = false := by with_unfolding_all rfl) : VE X T (.Compare a [.LtE, .LtE] [b, c] pos) pB σ H (is (decide (i ≤ j) && decide (j ≤ k))) :=
  ve_of (pe_chain op_le op_le pe_o pe_o pe_o hm) (ev_chain (g := fun i j => decide (i ≤ j)) (g' := fun i j => decide (i ≤ j)) ha hb hc)
/-! and, or, not -/
theorem v_one {op} (ha : VE X T a r σ H P) : VE X T (.BoolOp op [a] pos) r σ H P := ve_of (pe_one pe_o) ha
theorem v_and {d : Expr} {rest : List Expr} (ha : VE X T a pB σ H (is bx)) (hb : bx = true → VE X T (.BoolOp .And (d :: rest) pos) pB σ H (is bz)) : VE X T (.BoolOp .And (a :: d :: rest) pos) pB σ H (is (bx && bz)) := ve_of (pe_and pe_o pe_o) (ev_andV ha hb)
theorem v_or {d : Expr} {rest : List Expr} (ha : VE X T a pB σ H (is bx)) (hb : bx = false → VE X T (.BoolOp .Or (d :: rest) pos) pB σ H (is bz)) : VE X T (.BoolOp .Or (a :: d :: rest) pos) pB σ H (is (bx || bz)) := ve_of (pe_or pe_o pe_o) (ev_orV ha hb)
theorem v_not (ha : VE X T a pB σ H (is bx)) : VE X T (.UnaryOp .Not a pos) pB σ H (is (!bx)) := ve_of (pe_not pe_o) (ev_notV ha)
theorem v_if (hc : VT X T c σ H bx) (h1 : bx = true → VE X T a r σ H P) (h2 : bx = false → VE X T b r σ H P) : VE X T (.IfExp c a b pos) r σ H P := ve_of (pe_ifExp pt_o pe_o pe_o) (ev_if hc h1 h2)
/-! tests -/
theorem t_v (h : VE X T e pB σ H (is bx)) (he : ∀ whole, isTrue e X.env whole = (do let v ← whole; standAt e.pos; holding [v] (truthy v)) := by intro _; rfl) : VT X T e σ H bx := vt_of (pt_val pe_o he) (et_B h)
def oW (X : Cx) (e : Expr) : TT := fun σ H Q => ∀ (wh : Sem Value) (pins : List (Addr × Obj)) (s : Shared), Inv X pins σ H s → wpAny (model X.prog X.w) X.A (isTrue e X.env wh) (TP X pins σ Q) X.xe s
theorem pw_o : PW X e (oW X e) := ⟨fun wh pins s σ H Q I h => h wh pins s I⟩
abbrev VW (X : Cx) (T : List (Addr × Str)) (e : Expr) (σ : L2.St) (H : Hp) (b : Bool) : Prop := EvT T (oW X e) σ H b
theorem vw_of {tt : TT} (h : PW X e tt) (q : EvT T tt σ H bx) : VW X T e σ H bx := fun H1 e1 Q k wh pins s I => h.run wh pins s σ H1 Q I (q H1 e1 Q k)
theorem t_w (h : VW X T e σ H bx) : VT X T e σ H bx := vt_of pw_o.pt h
theorem w_and1 (h : VT X T a σ H bx) : VW X T (.BoolOp .And [a] pos) σ H bx := vw_of (pw_and1 pt_o) h
theorem w_or1 (h : VT X T a σ H bx) : VW X T (.BoolOp .Or [a] pos) σ H bx := vw_of (pw_or1 pt_o) h
theorem w_and {d : Expr} {rest : List Expr} (ha : VT X T a σ H bx) (hb : bx = true → VW X T (.BoolOp .And (d :: rest) pos) σ H bz) : VW X T (.BoolOp .And (a :: d :: rest) pos) σ H (bx && bz) := vw_of (pw_and pt_o pw_o) (et_and ha hb)
theorem w_or {d : Expr} {rest : List Expr} (ha : VT X T a σ H bx) (hb : bx = false → VW X T (.BoolOp .Or (d :: rest) pos) σ H bz) : VW X T (.BoolOp .Or (a :: d :: rest) pos) σ H (bx || bz) := vw_of (pw_or pt_o pw_o) (et_or ha hb)
theorem t_not (h : VT X T a σ H bx) : VT X T (.UnaryOp .Not a pos) σ H (!bx) := vt_of (pt_not pt_o) (et_not h)
/-! arguments; displays -/
theorem a_0 : VA X T [] a0 σ H (is ()) := va_of pa_nil fun H1 e Q k => k [] () H1 e.here rfl rfl
theorem a_c {ra : RpA β} {y : β} (ha : VE X T e r σ H (is x)) (hb : VA X T es ra σ H (is y)) (hs : starEach (e :: es) X.env = (false, eval e X.env) :: starEach es X.env := by rfl) : VA X T (e :: es) (aC r ra) σ H (is (x, y)) :=
  va_of (pa_cons pe_o pa_o hs) fun H1 e1 Q k => ea_c ha hb H1 e1 Q fun vs z H2 e2 rl ⟨p1, p2⟩ => k vs _ H2 e2 (by obtain ⟨z1, z2⟩ := z; rw [← show z1 = x from p1, ← show z2 = y from p2]; exact rl) rfl
theorem a_1 (ha : VE X T e r σ H (is x)) (hs : starEach [e] X.env = (false, eval e X.env) :: starEach [] X.env := by rfl) : VA X T [e] (a1 r) σ H (is (x, ())) := a_c ha a_0 hs
theorem a_2 (ha : VE X T a r σ H (is x)) (hb : VE X T b s σ H (is y)) (hs : starEach [a, b] X.env = (false, eval a X.env) :: starEach [b] X.env := by rfl) (hs' : starEach [b] X.env = (false, eval b X.env) :: starEach [] X.env := by rfl) : VA X T [a, b] (a2 r s) σ H (is (x, y, ())) := a_c ha (a_1 hb hs') hs
/-- (a, b) -/
theorem v_pair {k : Nat} (ha : VE X T a r σ H (is x)) (hb : VE X T b s σ H (is y)) (hs : starEach [a, b] X.env = (false, eval a X.env) :: starEach [b] X.env := by rfl) (hs' : starEach [b] X.env = (false, eval b X.env) :: starEach [] X.env := by rfl) : VE X T (.Tuple [a, b] k pos) (pPair r s) σ H (is (x, y)) :=
  ve_of (pe_tup pa_o) fun H1 e1 Q q => a_2 ha hb hs hs' H1 e1 _ fun vs z H2 e2 rl pz => by
    obtain ⟨v, ws, rfl, h1, w, us, rfl, h2, h3⟩ := rl
    rw [show z = _ from pz] at h1 h2
    obtain rfl : us = [] := h3
    exact ⟨by show 2 ≤ sizeLine; decide, fun p hp => q _ _ _ (e2.trans (Ex.new e2.2 hp)) ⟨p, v, w, rfl, upd_same, r.mono (extn_new hp) h1, s.mono (extn_new hp) h2⟩ rfl⟩
theorem v_nil {r : Rp α} : VE X T (.List [] pos) (pLst r) σ H (is ([] : List α)) := ve_of (pe_lst pa_nil) fun H1 e1 Q q => ⟨Nat.zero_le _, fun p hp => q _ _ _ (Ex.new e1.2 hp) ⟨p, [], rfl, upd_same, .nil⟩ rfl⟩
theorem f_nil {r : Rp α} : VF X T (.List [] pos) (pLst r) σ H (is ([] : List α)) := vf_of (pe_lst pa_nil) fun H1 e1 Q q => ⟨Nat.zero_le _, fun p hp => q _ _ _ (Ex.new e1.2 hp) (Fr0.of_none hp) ⟨p, [], rfl, upd_same, .nil⟩ rfl⟩
theorem v_lst1 (ha : VE X T a r σ H (is x)) (hs : starEach [a] X.env = (false, eval a X.env) :: starEach [] X.env := by rfl) : VE X T (.List [a] pos) (pLst r) σ H (is [x]) :=
  ve_of (pe_lst pa_o) fun H1 e1 Q q => a_1 ha hs H1 e1 _ fun vs z H2 e2 rl pz => by
    obtain ⟨v, ws, rfl, h1, h3⟩ := rl
    rw [show z = _ from pz] at h1
    obtain rfl : ws = [] := h3
    exact ⟨by show 1 ≤ sizeLine; decide, fun p hp => q _ _ _ (e2.trans (Ex.new e2.2 hp)) ⟨p, [v], rfl, upd_same, .cons (r.mono (extn_new hp) h1) .nil⟩ rfl⟩
theorem v_lst2 (ha : VE X T a r σ H (is x)) {y : α} (hb : VE X T b r σ H (is y)) (hs : starEach [a, b] X.env = (false, eval a X.env) :: starEach [b] X.env := by rfl) (hs' : starEach [b] X.env = (false, eval b X.env) :: starEach [] X.env := by rfl) : VE X T (.List [a, b] pos) (pLst r) σ H (is [x, y]) :=
  ve_of (pe_lst pa_o) fun H1 e1 Q q => a_2 ha hb hs hs' H1 e1 _ fun vs z H2 e2 rl pz => by
    obtain ⟨v, ws, rfl, h1, w, us, rfl, h2, h3⟩ := rl
    rw [show z = _ from pz] at h1 h2
    obtain rfl : us = [] := h3
    exact ⟨by show 2 ≤ sizeLine; decide, fun p hp => q _ _ _ (e2.trans (Ex.new e2.2 hp)) ⟨p, [v, w], rfl, upd_same, .cons (r.mono (extn_new hp) h1) (.cons (r.mono (extn_new hp) h2) .nil)⟩ rfl⟩
/-! indices -/
theorem atI_nat {xs : List V} {n : Nat} {v : V} (h : xs[n]? = some v) : atI xs (n : Int) = some v := by
  have hl : n < xs.length := (List.getElem?_eq_some_iff.mp h).1
  unfold atI ixN
  rw [if_pos (Int.natCast_nonneg n), if_pos (by omega)]
  simpa using h
theorem v_ixT {xs : List α} (ha : VE X T a (pTup r) σ H (is xs)) (hb : VE X T b pN σ H (is n)) (hx : xs[n]? = some x) (hs : PlainIx b := by intro _ _; rfl) : VE X T (.Subscript a b pos) r σ H (is x) :=
  ve_of (pe_ix ix_tup pe_o pe_o hs) (ev_op ha hb fun v w ys m H1 e rx ry px py Q k => by
    obtain ⟨p, vs, rfl, h1, h2⟩ := rx
    rw [show ys = xs from px] at h2
    obtain ⟨u, hu, ru⟩ := Paired.at1 h2 hx
    exact ⟨p, vs, (n : Int), u, rfl, by rw [show w = _ from ry, show m = n from py], sq_t h1, atI_nat hu, k _ _ H1 e.here ru rfl⟩)
theorem v_ixL {xs : List α} (ha : VE X T a (pLst r) σ H (is xs)) (hb : VE X T b pN σ H (is n)) (hx : xs[n]? = some x) (hs : PlainIx b := by intro _ _; rfl) : VE X T (.Subscript a b pos) r σ H (is x) :=
  ve_of (pe_ix ix_list pe_o pe_o hs) (ev_op ha hb fun v w ys m H1 e rx ry px py Q k => by
    obtain ⟨p, vs, rfl, h1, h2⟩ := rx
    rw [show ys = xs from px] at h2
    obtain ⟨u, hu, ru⟩ := Paired.at1 h2 hx
    exact ⟨p, vs, (n : Int), u, rfl, by rw [show w = _ from ry, show m = n from py], sq_l h1, atI_nat hu, k _ _ H1 e.here ru rfl⟩)
end
end LT
/-! ## LtRule2 -/
set_option Elab.async false
set_option linter.all false
set_option maxRecDepth 100000
set_option maxHeartbeats 4000000
namespace LT
open PySem PySem.Spec PyProof.Rows L2 LamX

/-- the built-in names that the text uses are not hidden -/
def Blt (mg : Str → Option Value) : Prop := ∀ z ∈ (["isinstance", "int", "bool", "tuple", "all", "any", "len", "enumerate", "zip", "sorted", "list", "range", "max", "min", "sum"] : List Str), mg z = none
/-- a def of the text that keeps its promise -/
def Cal (P : Program) (w : World) (K : PySem.W.Frag) (mg : Str → Option Value) (base : Heap) (z : Str) (ps : List Str) (k : Nat) (sp : Sp) : Prop :=
  ∃ f fd, FnOk P w K mg base CX0 k f fd ps sp ∧ mg z = some (.ref f) ∧ PySem.W.keepIn K (.ref f) = true ∧ Binds K fd ps []
theorem passE0 {X : Cx} : Passes CX0 X L2.E0 := fun _ _ _ _ _ _ _ h => h.elim
section
variable {α β γ δ : Type} {X : Cx} {T : List (Addr × Str)} {a b c e : Expr} {es : List Expr} {r : Rp α} {s : Rp β} {ra : RpA β} {σ : L2.St} {H : Hp} {P : α → Prop} {Pb : β → Prop} {v : V} {x : α} {y : β} {pos p pos' : Pos} {i j k : Int} {m n : Nat} {bx bz : Bool}
theorem v_call {z : Str} {ps : List Str} {kk : Nat} {pre : β → Prop} {Pc : β → α → Prop} (C : Cal X.prog X.w X.K X.mg X.base z ps kk (SpG T ra pre r Pc)) (hr : Room kk X.A) (ha : VA X T (e :: es) ra σ H (is y)) (hp : pre y) (hg : Gl X z := by rfl)
    (hdb : (z == ("__debug__" : Str)) = false := by decide) (he : starEach (e :: es) X.env = (false, eval e X.env) :: starEach es X.env := by rfl) (hpl : (backTo pos (starEach es X.env)).any (·.1) = false := by rfl) :
    VE X T (.Call (.Name z p) (e :: es) [] pos) r σ H (Pc y) := by
  obtain ⟨f, fd, F, hm, hk, hb⟩ := C
  exact ve_of (pe_call (ds := []) (dvs := []) F hr hg hm hk hb .nil passE0 pa_o hdb he hpl) (ev_call ha hp)
/-- a built-in function, by its values -/
theorem v_cB {z : Str} {id : String} {rr : List V → Hp → VK → Prop} {Q' : α → Prop} (hc : CallR X (.builtin id) rr) (hm : X.mg z = none) (hv : bootBuiltins z = some (.builtin id)) (ha : VA X T (e :: es) ra σ H Pb)
    (hr : ∀ vs x H1, Ex T H H1 → ra.rel H1 vs x → Pb x → ∀ Q : VK, (∀ u z H2, Ex T H1 H2 → r.rel H2 u z → Q' z → Q u H2) → rr vs H1 Q) (hg : Gl X z := by rfl) (hn : z ≠ "__name__" := by decide)
    (hdb : (z == ("__debug__" : Str)) = false := by decide) (he : starEach (e :: es) X.env = (false, eval e X.env) :: starEach es X.env := by rfl) (hpl : (backTo pos (starEach es X.env)).any (·.1) = false := by rfl) :
    VE X T (.Call (.Name z p) (e :: es) [] pos) r σ H Q' := ve_of (pe_callB hc hg hm hv pa_o hn hdb he hpl) (ev_cb ha hr)
theorem v_cT {z : Str} {id : String} {rr : List V → Hp → VK → Prop} {Q' : α → Prop} (hc : CallR X (.type id) rr) (hm : X.mg z = none) (hv : bootBuiltins z = some (.type id)) (ha : VA X T (e :: es) ra σ H Pb)
    (hr : ∀ vs x H1, Ex T H H1 → ra.rel H1 vs x → Pb x → ∀ Q : VK, (∀ u z H2, Ex T H1 H2 → r.rel H2 u z → Q' z → Q u H2) → rr vs H1 Q) (hg : Gl X z := by rfl) (hn : z ≠ "__name__" := by decide)
    (hdb : (z == ("__debug__" : Str)) = false := by decide) (he : starEach (e :: es) X.env = (false, eval e X.env) :: starEach es X.env := by rfl) (hpl : (backTo pos (starEach es X.env)).any (·.1) = false := by rfl) :
    VE X T (.Call (.Name z p) (e :: es) [] pos) r σ H Q' := ve_of (pe_callTy hc hg hm hv pa_o hn hdb he hpl) (ev_cb ha hr)
/-! len -/
theorem v_lenT {xs : List α} (B : Blt X.mg) (ha : VE X T e (pTup r) σ H (is xs)) (hg : Gl X "len" := by rfl) (he : starEach [e] X.env = (false, eval e X.env) :: starEach [] X.env := by rfl) : VE X T (.Call (.Name "len" p) [e] [] pos) pN σ H (is xs.length) :=
  v_cB call_len (B _ (by decide)) boot_len (a_1 ha he) (fun vs x H1 e1 rl px Q k => by
    obtain ⟨v, ws, rfl, ⟨q, us, rfl, h1, h2⟩, h3⟩ := rl
    rw [show x = _ from px] at h2
    exact ⟨.ref q, us.length, by rw [show ws = [] from h3], .inr ⟨us, sq_t h1, rfl⟩, k _ xs.length H1 e1.here (by rw [h2.length]; rfl) rfl⟩) hg (by decide) (by decide) he rfl
theorem v_lenL {xs : List α} (B : Blt X.mg) (ha : VE X T e (pLst r) σ H (is xs)) (hg : Gl X "len" := by rfl) (he : starEach [e] X.env = (false, eval e X.env) :: starEach [] X.env := by rfl) : VE X T (.Call (.Name "len" p) [e] [] pos) pN σ H (is xs.length) :=
  v_cB call_len (B _ (by decide)) boot_len (a_1 ha he) (fun vs x H1 e1 rl px Q k => by
    obtain ⟨v, ws, rfl, ⟨q, us, rfl, h1, h2⟩, h3⟩ := rl
    rw [show x = _ from px] at h2
    exact ⟨.ref q, us.length, by rw [show ws = [] from h3], .inl ⟨us, sq_l h1, rfl⟩, k _ xs.length H1 e1.here (by rw [h2.length]; rfl) rfl⟩) hg (by decide) (by decide) he rfl
/-! isinstance -/
theorem v_isi {z : Str} {ty nm : String} {bv : Bool} (B : Blt X.mg) (hz : z ∈ (["isinstance", "int", "bool", "tuple", "all", "any", "len", "enumerate", "zip", "sorted", "list", "range", "max", "min", "sum"] : List Str)) (ht : bootBuiltins z = some (.type nm)) (ha : VE X T a r σ H P)
    (hk : ∀ H v x, r.rel H v x → P x → TyX X.K H v (.type ty)) (hb : kitB ty nm = some bv) (hg : Gl X "isinstance" := by rfl) (hg' : Gl X z := by rfl) (hn : z ≠ "__name__" := by decide) (hd : (z == ("__debug__" : Str)) = false := by decide)
    (he : starEach [a, .Name z p] X.env = (false, eval a X.env) :: starEach [.Name z p] X.env := by rfl) (he' : starEach [.Name z p] X.env = (false, eval (.Name z p) X.env) :: starEach [] X.env := by rfl) (hpl : (backTo pos (starEach [.Name z p] X.env)).any (·.1) = false := by rfl) :
    VE X T (.Call (.Name "isinstance" pos') [a, .Name z p] [] pos) pB σ H (is bv) :=
  ve_of (pe_callB call_isi hg (B _ (by decide)) PyProof.Rows.boot_isinstance (pa_cons pe_o (pa_cons (pe_bltn (v := .ty nm) hg' (B _ hz) ht rfl hn hd) pa_nil he') he) (by decide) (by decide) he hpl) fun H1 e1 Q k =>
    ha H1 e1 _ fun v x H2 e2 rx px => ⟨v, .ty nm, .type ty, .type nm, bv, rfl, .ty nm, hk H2 v x rx px, kit_ty hb, k _ bv H2 e2 rfl rfl⟩
theorem tyI {K : PySem.W.Frag} {H : Hp} {v : V} {x : Int} (h : pI.rel H v x) : TyX K H v (.type "int") := by
  cases h
  exact .base (.int _)
theorem tyT {K : PySem.W.Frag} {H : Hp} {v : V} {xs : List α} (h : (pTup r).rel H v xs) : TyX K H v (.type "tuple") := by
  obtain ⟨a, vs, rfl, h1, _⟩ := h
  exact .base (.tup h1)
/-! all, any -/
theorem v_all {bs : List Bool} (hc : X.calm = true) (B : Blt X.mg) (ha : VE X T e (pLst pB) σ H (is bs)) (hg : Gl X "all" := by rfl) (he : starEach [e] X.env = (false, eval e X.env) :: starEach [] X.env := by rfl) : VE X T (.Call (.Name "all" p) [e] [] pos) pB σ H (is (bs.all id)) :=
  v_cB (cr_all hc) (B _ (by decide)) PyProof.Rows.boot_all (a_1 ha he) (fun vs x H1 e1 rl px Q k => by
    obtain ⟨v, ws, rfl, ⟨q, us, rfl, h1, h2⟩, h3⟩ := rl
    rw [show x = _ from px] at h2
    exact ⟨q, bs, by rw [show ws = [] from h3], by rw [← bls_of h2]; exact sq_l h1, k _ _ H1 e1.here rfl rfl⟩) hg (by decide) (by decide) he rfl
theorem v_any {bs : List Bool} (hc : X.calm = true) (B : Blt X.mg) (ha : VE X T e (pLst pB) σ H (is bs)) (hg : Gl X "any" := by rfl) (he : starEach [e] X.env = (false, eval e X.env) :: starEach [] X.env := by rfl) : VE X T (.Call (.Name "any" p) [e] [] pos) pB σ H (is (bs.any id)) :=
  v_cB (cr_any hc) (B _ (by decide)) PyProof.Rows.boot_any (a_1 ha he) (fun vs x H1 e1 rl px Q k => by
    obtain ⟨v, ws, rfl, ⟨q, us, rfl, h1, h2⟩, h3⟩ := rl
    rw [show x = _ from px] at h2
    exact ⟨q, bs, by rw [show ws = [] from h3], by rw [← bls_of h2]; exact sq_l h1, k _ _ H1 e1.here rfl rfl⟩) hg (by decide) (by decide) he rfl
/-! tuple(list) -/
theorem v_tup {Pl : List α → Prop} (B : Blt X.mg) (ha : VE X T e (pLst r) σ H Pl) (hg : Gl X "tuple" := by rfl) (he : starEach [e] X.env = (false, eval e X.env) :: starEach [] X.env := by rfl) : VE X T (.Call (.Name "tuple" p) [e] [] pos) (pTup r) σ H Pl :=
  ve_of (pe_callTy call_tuple_of hg (B _ (by decide)) PyProof.Rows.boot_tuple (pa_cons pe_o pa_nil he) (by decide) (by decide) he rfl) fun H1 e1 Q k =>
    ha H1 e1 _ fun v xs H2 e2 ⟨q, us, ev, h1, h2⟩ px => by
      subst ev
      exact ⟨q, us, rfl, .inl ⟨sq_l h1, fun l hl => k _ xs _ (e2.trans (Ex.new e2.2 hl)) ⟨l, us, rfl, upd_same, paired_imp (fun _ _ => r.mono (extn_new hl)) h2⟩ px⟩⟩
/-! max, min -/
theorem v_max2 (hc : X.calm = true) (B : Blt X.mg) (ha : VE X T a pI σ H (is i)) (hb : VE X T b pI σ H (is j)) (hg : Gl X "max" := by rfl) (hs : starEach [a, b] X.env = (false, eval a X.env) :: starEach [b] X.env := by rfl) (hs' : starEach [b] X.env = (false, eval b X.env) :: starEach [] X.env := by rfl)
    (hpl : (backTo pos (starEach [b] X.env)).any (·.1) = false := by rfl) : VE X T (.Call (.Name "max" p) [a, b] [] pos) pI σ H (is (if j > i then j else i)) :=
  v_cB (call_max2 hc) (B _ (by decide)) PyProof.Rows.boot_max (a_2 ha hb hs hs') (fun vs x H1 e1 rl px Q k => by
    obtain ⟨v, ws, rfl, h1, w, us, rfl, h2, h3⟩ := rl
    rw [show x = _ from px] at h1 h2
    exact ⟨i, j, by rw [show us = [] from h3, show v = _ from h1, show w = _ from h2], k _ _ H1 e1.here rfl rfl⟩) hg (by decide) (by decide) hs hpl
theorem v_maxL {xs : List Int} (hc : X.calm = true) (B : Blt X.mg) (ha : VE X T e (pLst pI) σ H (is xs)) (h0 : 0 < xs.length) (hg : Gl X "max" := by rfl) (he : starEach [e] X.env = (false, eval e X.env) :: starEach [] X.env := by rfl) :
    VE X T (.Call (.Name "max" p) [e] [] pos) pI σ H (fun m => m ∈ xs ∧ ∀ y, y ∈ xs → y ≤ m) :=
  v_cB (cr_max hc) (B _ (by decide)) PyProof.Rows.boot_max (a_1 ha he) (fun vs x H1 e1 rl px Q k => by
    obtain ⟨v, ws, rfl, ⟨q, us, rfl, h1, h2⟩, h3⟩ := rl
    rw [show x = _ from px] at h2
    exact ⟨q, xs, by rw [show ws = [] from h3], by rw [← ints_of h2]; exact sq_l h1, h0, fun m m1 m2 => k _ m H1 e1.here rfl ⟨m1, m2⟩⟩) hg (by decide) (by decide) he rfl
theorem v_minL {xs : List Int} (hc : X.calm = true) (B : Blt X.mg) (ha : VE X T e (pLst pI) σ H (is xs)) (h0 : 0 < xs.length) (hg : Gl X "min" := by rfl) (he : starEach [e] X.env = (false, eval e X.env) :: starEach [] X.env := by rfl) :
    VE X T (.Call (.Name "min" p) [e] [] pos) pI σ H (fun m => m ∈ xs ∧ ∀ y, y ∈ xs → m ≤ y) :=
  v_cB (cr_min hc) (B _ (by decide)) PyProof.Rows.boot_min (a_1 ha he) (fun vs x H1 e1 rl px Q k => by
    obtain ⟨v, ws, rfl, ⟨q, us, rfl, h1, h2⟩, h3⟩ := rl
    rw [show x = _ from px] at h2
    exact ⟨q, xs, by rw [show ws = [] from h3], by rw [← ints_of h2]; exact sq_l h1, h0, fun m m1 m2 => k _ m H1 e1.here rfl ⟨m1, m2⟩⟩) hg (by decide) (by decide) he rfl
/-! list + list; list[::-1] -/
theorem v_cat {xs ys : List α} (ha : VE X T a (pLst r) σ H (is xs)) (hb : VE X T b (pLst r) σ H (is ys)) (hz : xs.length + ys.length ≤ sizeLine) : VE X T (.BinOp a .Add b pos) (pLst r) σ H (is (xs ++ ys)) :=
  ve_of (pe_op op_cat pe_o pe_o) (ev_op ha hb fun v w x1 y1 H1 e1 rx ry px py Q k => by
    obtain ⟨p1, us, rfl, h1, h2⟩ := rx
    obtain ⟨p2, ws, rfl, h3, h4⟩ := ry
    rw [show x1 = _ from px] at h2
    rw [show y1 = _ from py] at h4
    exact ⟨p1, p2, us, ws, rfl, rfl, h1, h3, by rw [h2.length, h4.length]; exact hz, fun p hp => k _ _ _ (Ex.new e1.2 hp) ⟨p, _, rfl, upd_same, Paired.app (paired_imp (fun _ _ => r.mono (extn_new hp)) h2) (paired_imp (fun _ _ => r.mono (extn_new hp)) h4)⟩ rfl⟩)
theorem f_rev {jj : Nat} {p1 p2 p3 : Pos} {Pl : List α → Prop} (ha : VE X T a (pLst r) σ H Pl) : VF X T (.Subscript a (.Slice none none (some (.UnaryOp .USub (.Constant (.int 1) jj p1) p2)) p3) pos) (pLst r) σ H (fun ys => ∃ xs, Pl xs ∧ ys = xs.reverse) :=
  vf_of (pe_revL pe_o) fun H1 e1 Q k => ha H1 e1 _ fun v xs H2 e2 ⟨q, us, ev, h1, h2⟩ px => by
    subst ev
    exact ⟨q, us, rfl, sq_l h1, fun p hp => k p xs.reverse _ (e2.trans (Ex.new e2.2 hp)) (e2.fr0 hp) ⟨p, _, rfl, upd_same, Paired.rev (paired_imp (fun _ _ => r.mono (extn_new hp)) h2)⟩ ⟨xs, px, rfl⟩⟩
end
end LT
/-! ## LtRule3 -/
set_option Elab.async false
set_option linter.all false
set_option maxRecDepth 100000
set_option maxHeartbeats 4000000
namespace LT
open PySem PySem.Spec PyProof.Rows L2 LamX

/-! ### comprehensions -/
/-- the contexts of a block -/
def IsBlk (X : Cx) (scope : Scope) (Y : Cx) : Prop := ∃ (s : Shared) (H : Hp) (C : Addr) (cl : List (Str × Addr)) (fp : List Addr), Y = X.blk s H scope (compEnvC scope cl C X.env) fp
def oEB (X : Cx) (scope : Scope) (e : Expr) : TE := fun σ H Q => ∀ Y, IsBlk X scope Y → oE Y e σ H Q
def oTB (X : Cx) (scope : Scope) (e : Expr) : TT := fun σ H Q => ∀ Y, IsBlk X scope Y → oT Y e σ H Q
/-- a name that the block stores -/
def TgOk (X : Cx) (scope : Scope) (y : Str) : Prop := (relabel scope X.env).names.lookup y = some .local ∨ ((scope.names.lookup y == some .cell) = true ∧ (relabel scope X.env).names.lookup y = some .cell)
/-- a store of the items -/
def TgS (X : Cx) (scope : Scope) (tg : Expr) (g : TG) : Prop := ∀ (s : Shared) (H : Hp) (C : Addr) (cl : List (Str × Addr)) (fp : List Addr), PG (X.blk s H scope (compEnvC scope cl C X.env) fp) tg g
section
variable {α β γ : Type} {X : Cx} {T : List (Addr × Str)} {a b c e elt tg iter : Expr} {es ifs : List Expr} {r : Rp α} {s : Rp β} {q : Rp γ} {σ : L2.St} {H : Hp} {P : α → Prop} {v : V} {x : α} {pos p pos' : Pos} {scope : Scope} {own : List (Str × Nat)} {g : TG} {O : Option (Addr × HO) → Prop}
theorem tg_name {j : Nat} {y : Str} (hN : X.N.Nodup) (hj : X.N[j]? = some y := by rfl) (h : TgOk X scope y := by first | exact Or.inl rfl | exact Or.inr ⟨rfl, rfl⟩) : TgS X scope (.Name y p) (gName j) := fun s H C cl fp => by
  rcases h with h | ⟨h1, h2⟩
  · exact pg_name (X := X.blk s H scope (compEnvC scope cl C X.env) fp) hN hj (.inl h) (.inr h)
  · exact pg_name (X := X.blk s H scope (compEnvC scope cl C X.env) fp) hN hj (.inr h2) (.inl h1)
theorem tg_pair {i j : Nat} {y z : Str} {k : Nat} {p1 p2 : Pos} (hc : X.calm = true) (hN : X.N.Nodup) (hi : X.N[i]? = some y := by rfl) (hj : X.N[j]? = some z := by rfl) (h : TgOk X scope y := by first | exact Or.inl rfl | exact Or.inr ⟨rfl, rfl⟩) (h' : TgOk X scope z := by first | exact Or.inl rfl | exact Or.inr ⟨rfl, rfl⟩) :
    TgS X scope (.Tuple [.Name y p1, .Name z p2] k p) (gTup X.K 2 (gCons (gName i) (gCons (gName j) gNil))) := fun s H C cl fp =>
  pg_tup (X := X.blk s H scope (compEnvC scope cl C X.env) fp) hc (pgs_cons (tg_name hN hi h s H C cl fp) (pgs_cons (tg_name hN hj h' s H C cl fp) pgs_nil))
/-- what a comprehension makes, told once for its uses -/
def LC (X : Cx) (T : List (Addr × Str)) (elt tg iter : Expr) (ifs : List Expr) (scope : Scope) (r : Rp α) (σ : L2.St) (H : Hp) (P : α → Prop) : Prop :=
  ∃ (own : List (Str × Nat)) (g : TG) (tt : TT), BlkOk X.N X.env.scope scope own ∧ TgS X scope tg g ∧ (∀ (s : Shared) (H : Hp) (C : Addr) (cl : List (Str × Addr)) (fp : List Addr), PTs (X.blk s H scope (compEnvC scope cl C X.env) fp) ifs tt) ∧ Ev T r (tLc (oI X tg iter) g tt (oEB X scope elt) (own.map (·.2))) σ H P
theorem v_lc (h : LC X T elt tg iter ifs scope r σ H P) (hc : X.calm = true) (hN : X.N.Nodup) (hs : ∀ x, foldedSetIterable iter X.env x = pure x := by intro _; rfl) : VE X T (.ListComp elt [⟨tg, iter, ifs, 0⟩] scope pos) r σ H P := by
  obtain ⟨own, g, tt, ok, hg, ht, h⟩ := h
  exact ve_of (pe_lc hc hN pi_o ok hg ht (fun s H C cl fp => ⟨fun pins s1 σ H Q I z => z _ ⟨s, _, C, cl, fp, rfl⟩ pins s1 I⟩) hs) h
theorem et_yes : EvT T tYes σ H true := fun H1 e1 Q k => k H1 e1.here
theorem ev_blk {Pb : β → Prop} (h : ∀ Y, IsBlk X scope Y → VE Y T e s σ H Pb) : Ev T s (oEB X scope e) σ H Pb := fun H1 e1 Q k Y hY => h Y hY H1 e1 Q k
theorem et_blk {bx : Bool} (h : ∀ Y, IsBlk X scope Y → VT Y T e σ H bx) : EvT T (oTB X scope e) σ H bx := fun H1 e1 Q k Y hY => h Y hY H1 e1 Q k
/-- [elt for y in iter] -/
theorem lc_n {xs : List α} {f : α → β} {y : Str} (own : List (Str × Nat)) (j : Nat) (im : Imm s) (hN : X.N.Nodup) (ok : BlkOk X.N X.env.scope scope own) (hg : TgS X scope (.Name y p) (gName j)) (hi : VI X T (.Name y p) iter r σ H (is xs) O) (hz : xs.length ≤ sizeLine)
    (hw : ∀ v, wipe ((wipe σ (own.map (·.2))).set j (some v)) (own.map (·.2)) = wipe σ (own.map (·.2)))
    (hb : ∀ x, x ∈ xs → ∀ H1 v, Ex T H H1 → r.rel H1 v x → ∀ Y, IsBlk X scope Y → VE Y T elt s ((wipe σ (own.map (·.2))).set j (some v)) H1 (is (f x))) : LC X T elt (.Name y p) iter [] scope (pLst s) σ H (is (xs.map f)) :=
  ⟨own, gName j, tYes, ok, hg, fun _ _ _ _ _ => pts_nil, ev_lc1 (t := fun _ => true) (f := f) im hi hz (fun x hx H1 v e1 rl => ⟨_, bnd_name, hw v, et_yes, fun _ => ev_blk (hb x hx H1 v e1 rl)⟩) (by rw [List.filter_eq_self.mpr fun _ _ => rfl])⟩
/-- [elt for y in iter if c] -/
theorem lc_nif {xs : List α} {f : α → β} {t : α → Bool} {y : Str} (own : List (Str × Nat)) (j : Nat) (im : Imm s) (hN : X.N.Nodup) (ok : BlkOk X.N X.env.scope scope own) (hg : TgS X scope (.Name y p) (gName j)) (hi : VI X T (.Name y p) iter r σ H (is xs) O) (hz : xs.length ≤ sizeLine)
    (hw : ∀ v, wipe ((wipe σ (own.map (·.2))).set j (some v)) (own.map (·.2)) = wipe σ (own.map (·.2)))
    (hb : ∀ x, x ∈ xs → ∀ H1 v, Ex T H H1 → r.rel H1 v x → ∀ Y, IsBlk X scope Y → VT Y T c ((wipe σ (own.map (·.2))).set j (some v)) H1 (t x) ∧ (t x = true → VE Y T elt s ((wipe σ (own.map (·.2))).set j (some v)) H1 (is (f x)))) : LC X T elt (.Name y p) iter [c] scope (pLst s) σ H (is ((xs.filter t).map f)) :=
  ⟨own, gName j, oTB X scope c, ok, hg, fun s H C cl fp => pts_one ⟨fun pins s1 σ H Q I z => z _ ⟨s, _, C, cl, fp, rfl⟩ pins s1 I⟩,
    ev_lc1 (t := t) (f := f) im hi hz (fun x hx H1 v e1 rl => ⟨_, bnd_name, hw v, et_blk fun Y hY => (hb x hx H1 v e1 rl Y hY).1, fun ht => ev_blk fun Y hY => (hb x hx H1 v e1 rl Y hY).2 ht⟩) rfl⟩
/-- [elt for y, z in iter] -/
theorem lc_p {xs : List (α × γ)} {f : α × γ → β} {y z : Str} {k : Nat} {p1 p2 : Pos} (own : List (Str × Nat)) (i j : Nat) (im : Imm s) (hN : X.N.Nodup) (ok : BlkOk X.N X.env.scope scope own) (hg : TgS X scope (.Tuple [.Name y p1, .Name z p2] k p) (gTup X.K 2 (gCons (gName i) (gCons (gName j) gNil))))
    (hi : VI X T (.Tuple [.Name y p1, .Name z p2] k p) iter (pPair r q) σ H (is xs) O) (hz : xs.length ≤ sizeLine)
    (hw : ∀ v w, wipe (((wipe σ (own.map (·.2))).set i (some v)).set j (some w)) (own.map (·.2)) = wipe σ (own.map (·.2)))
    (hb : ∀ x, x ∈ xs → ∀ H1 v w, Ex T H H1 → r.rel H1 v x.1 → q.rel H1 w x.2 → ∀ Y, IsBlk X scope Y → VE Y T elt s (((wipe σ (own.map (·.2))).set i (some v)).set j (some w)) H1 (is (f x))) :
    LC X T elt (.Tuple [.Name y p1, .Name z p2] k p) iter [] scope (pLst s) σ H (is (xs.map f)) :=
  ⟨own, _, tYes, ok, hg, fun _ _ _ _ _ => pts_nil, ev_lc1 (t := fun _ => true) (f := f) im hi hz (fun x hx H1 v e1 rl => by
    obtain ⟨u, w, ru, rw', hbn⟩ := bnd_pair (K := X.K) (i := i) (j := j) (σ := wipe σ (own.map (·.2))) rl
    exact ⟨_, hbn, hw u w, et_yes, fun _ => ev_blk (hb x hx H1 u w e1 ru rw')⟩) (by rw [List.filter_eq_self.mpr fun _ _ => rfl])⟩
end

/-! ### sources -/
section
variable {α β γ : Type} {X : Cx} {T : List (Addr × Str)} {a b e tg iter : Expr} {r : Rp α} {s : Rp β} {σ : L2.St} {H : Hp} {Pl : List α → Prop} {pos p p1 p2 p3 : Pos} {n m k : Nat} {y z : Str}
theorem i_tup (h : VE X T e (pTup r) σ H Pl) : VI X T tg e r σ H Pl NoO := vi_of (pi_tup pe_o) (iv_tup h)
theorem i_lst (h : VE X T e (pLst r) σ H Pl) : VI X T tg e r σ H Pl LsO := vi_of (pi_list pe_o) (iv_lst h)
theorem i_rng1 (B : Blt X.mg) (h : VE X T a pN σ H (is n)) (hn : n < 2 ^ 62) (hg : Gl X "range" := by rfl) (hs : starEach [a] X.env = (false, eval a X.env) :: starEach [] X.env := by rfl) : VI X T tg (.Call (.Name "range" p) [a] [] pos) pN σ H (is (List.range n)) NoO :=
  vi_of (pi_range1 hg (B _ (by decide)) (pa_cons pe_o pa_nil hs) hs) (iv_rng1 (ea_1 h) hn)
theorem i_rng2 (B : Blt X.mg) (h : VE X T a pN σ H (is m)) (h' : VE X T b pN σ H (is n)) (hm : m < 2 ^ 62) (hn : n < 2 ^ 62) (hg : Gl X "range" := by rfl) (hs : starEach [a, b] X.env = (false, eval a X.env) :: starEach [b] X.env := by rfl) (hs' : starEach [b] X.env = (false, eval b X.env) :: starEach [] X.env := by rfl)
    (hpl : (backTo pos (starEach [b] X.env)).any (·.1) = false := by rfl) : VI X T tg (.Call (.Name "range" p) [a, b] [] pos) pN σ H (is (List.range' m (n - m))) NoO :=
  vi_of (pi_range2 hg (B _ (by decide)) (pa_cons pe_o (pa_cons pe_o pa_nil hs') hs) (by rw [hs, hs']; rfl) hs') (iv_rng2 (ea_2 h h') hm hn)
theorem i_zip {xs : List α} {ys : List β} (B : Blt X.mg) (im : Imm r) (js : Imm s) (h : VE X T a (pTup r) σ H (is xs)) (h' : VE X T b (pTup s) σ H (is ys)) (hg : Gl X "zip" := by rfl) (hs : starEach [a, b] X.env = (false, eval a X.env) :: starEach [b] X.env := by rfl) (hs' : starEach [b] X.env = (false, eval b X.env) :: starEach [] X.env := by rfl)
    (hpl : (backTo pos (starEach [b] X.env)).any (·.1) = false := by rfl) : VI X T (.Tuple [.Name y p1, .Name z p2] k p3) (.Call (.Name "zip" p) [a, b] [] pos) (pPair r s) σ H (is (xs.zip ys)) NoO :=
  vi_of (RZ.pi_zipA hg (B _ (by decide)) (pa_cons pe_o (pa_cons pe_o pa_nil hs') hs) hs hpl) (iv_zip im js (ea_2 h h'))
theorem i_zipN {xs : List α} {ys : List β} (B : Blt X.mg) (im : Imm r) (js : Imm s) (h : VE X T a (pTup r) σ H (is xs)) (h' : VE X T b (pTup s) σ H (is ys)) (hg : Gl X "zip" := by rfl) (hs : starEach [a, b] X.env = (false, eval a X.env) :: starEach [b] X.env := by rfl) (hs' : starEach [b] X.env = (false, eval b X.env) :: starEach [] X.env := by rfl)
    (hpl : (backTo pos (starEach [b] X.env)).any (·.1) = false := by rfl) : VI X T (.Name y p1) (.Call (.Name "zip" p) [a, b] [] pos) (pPair r s) σ H (is (xs.zip ys)) NoO :=
  vi_of (pi_zipN hg (B _ (by decide)) (pa_cons pe_o (pa_cons pe_o pa_nil hs') hs) hs hpl) (iv_zipN im js (ea_2 h h'))
theorem i_enum {xs : List α} (B : Blt X.mg) (im : Imm r) (h : VE X T a (pTup r) σ H (is xs)) (hg : Gl X "enumerate" := by rfl) (hs : starEach [a] X.env = [(false, eval a X.env)] := by rfl) : VI X T (.Tuple [.Name y p1, .Name z p2] k p3) (.Call (.Name "enumerate" p) [a] [] pos) (pPair pN r) σ H (is ((List.range xs.length).zip xs)) NoO :=
  vi_of (pi_enumT hg (B _ (by decide)) (pa_cons pe_o pa_nil hs) hs) (iv_enumT im (ea_1 h))
end

/-! ### statements -/
section
variable {α β γ : Type} {X : Cx} {T : List (Addr × Str)} {a b c e elt tg iter : Expr} {es ifs : List Expr} {r : Rp α} {s : Rp β} {σ : L2.St} {H : Hp} {P : α → Prop} {v : V} {x : α} {pos p pos' : Pos} {scope : Scope} {g : TG} {O : Option (Addr × HO) → Prop} {D : Ends} {st : Stmt} {rest body : List Stmt}
theorem s_nil (h : D.nx σ H) : oSs X [] D σ H := oSs_of pss_nil h
theorem s_cons (h : oS X st { D with nx := oSs X rest D } σ H) : oSs X (st :: rest) D σ H := oSs_of (pss_cons ps_o pss_o) h
theorem s_ret (hT : Tabs T H) (h : VE X T e r σ H P) (k : ∀ v x H1, Ex T H H1 → r.rel H1 v x → P x → D.rt v H1) : oS X (.Return (some e) pos) D σ H := oS_of (ps_ret pe_o) (h H (Ex.refl hT) _ k)
theorem s_set {z : Str} (i : Nat) (hT : Tabs T H) (h : VE X T e r σ H P) (hN : X.N.Nodup) (k : ∀ v x H1, Ex T H H1 → r.rel H1 v x → P x → D.nx (σ.set i (some v)) H1) (hi : X.N[i]? = some z := by rfl) (hx : Loc X.env.scope z := by first | exact Or.inl rfl | exact Or.inr rfl)
    (hs : swapsWith e (some (.Name z p)) pos.line X.env = pure false := by rfl) (hf : X.fn z = true ∨ X.env.scope.names.lookup z = some .local := by first | exact .inl rfl | exact .inr rfl) : oS X (.Assign [.Name z p] e pos) D σ H :=
  oS_of (ps_set hN hi hx pe_o hs hf) (h H (Ex.refl hT) _ k)
/-- name = [..], the name a local -/
theorem s_setLc {z : Str} (i : Nat) (hT : Tabs T H) (h : LC X T elt tg iter ifs scope r σ H P) (hc : X.calm = true) (hN : X.N.Nodup) (k : ∀ v x H1, Ex T H H1 → r.rel H1 v x → P x → D.nx (σ.set i (some v)) H1)
    (hsw : swapsWith (.ListComp elt [⟨tg, iter, ifs, 0⟩] scope pos') (some (.Name z p)) pos.line X.env = pure true) (hi : X.N[i]? = some z := by rfl) (hx : X.env.scope.names.lookup z = some .local := by rfl)
    (hs : ∀ x, foldedSetIterable iter X.env x = pure x := by intro _; rfl) : oS X (.Assign [.Name z p] (.ListComp elt [⟨tg, iter, ifs, 0⟩] scope pos') pos) D σ H := by
  obtain ⟨own, g, tt, ok, hg, ht, h⟩ := h
  exact oS_of (ps_setLc hc hN hi hx hsw pi_o ok hg ht (fun s H C cl fp => ⟨fun pins s1 σ H Q I z => z _ ⟨s, _, C, cl, fp, rfl⟩ pins s1 I⟩) hs) (h H (Ex.refl hT) _ k)
theorem s_if {b1 b2 : List Stmt} {bx : Bool} (hT : Tabs T H) (h : VT X T c σ H bx) (h1 : bx = true → ∀ H1, Ex T H H1 → oSs X b1 D σ H1) (h2 : bx = false → ∀ H1, Ex T H H1 → oSs X b2 D σ H1) : oS X (.If c b1 b2 pos) D σ H :=
  oS_of (ps_if pt_o pss_o pss_o) (h H (Ex.refl hT) _ fun H1 e1 => by
    cases bx with
    | true => exact h1 rfl H1 e1
    | false => exact h2 rfl H1 e1)
theorem s_drop (hT : Tabs T H) (h : VE X T e r σ H P) (k : ∀ v x H1, Ex T H H1 → r.rel H1 v x → P x → D.nx σ H1) (hs : swapsWith e none pos.line X.env = pure false := by rfl) : oS X (.Expr e pos) D σ H := oS_of (ps_expr pe_o hs) (h H (Ex.refl hT) _ k)
/-- a, b = e, e' : both plain locals -/
theorem s_par {z w : Str} {px py pt pt2 : Pos} {kt k2 : Nat} {y : β} (i j : Nat) (hT : Tabs T H) (hc : X.calm = true) (hN : X.N.Nodup) (ha : VE X T a r σ H (is x)) (hb : VE X T b s σ H (is y)) (k : ∀ v u H1, Ex T H H1 → r.rel H1 v x → s.rel H1 u y → D.nx ((σ.set i (some v)).set j (some u)) H1)
    (hi : X.N[i]? = some z := by rfl) (hj : X.N[j]? = some w := by rfl) (hij : i ≠ j := by decide) (hx : X.env.scope.names.lookup z = some .local := by rfl) (hy : X.env.scope.names.lookup w = some .local := by rfl)
    (hw : swappedStores [.Tuple [.Name z px, .Name w py] kt pt] (.Tuple [a, b] k2 pt2) X.env = pure (some [z, w]) := by rfl) (hs : swapsWithSole [.Tuple [.Name z px, .Name w py] kt pt] (.Tuple [a, b] k2 pt2) pos.line X.env = pure false := by rfl)
    (s1 : starEach [a, b] X.env = (false, eval a X.env) :: starEach [b] X.env := by rfl) (s2 : starEach [b] X.env = (false, eval b X.env) :: starEach [] X.env := by rfl) :
    oS X (.Assign [.Tuple [.Name z px, .Name w py] kt pt] (.Tuple [a, b] k2 pt2) pos) D σ H :=
  oS_of (ps_par hc hN hi hj hij hx hy pa_o hw hs) (a_2 ha hb s1 s2 H (Ex.refl hT) _ fun vs q H1 e1 rl pq => by
    obtain ⟨v, ws, rfl, h1, u, us, rfl, h2, h3⟩ := rl
    rw [show q = _ from pq] at h1 h2
    exact ⟨v, u, by rw [show us = [] from h3], k v u H1 e1 h1 h2⟩)
/-- target = e -/
theorem s_asg {tg : Expr} {g : TG} (hT : Tabs T H) (h : VE X T e r σ H P) (hg : PG X tg g) (k : ∀ v x H1, Ex T H H1 → r.rel H1 v x → P x → g v σ H1 D.nx) (hs : swapsWithSole [tg] e pos.line X.env = pure false := by rfl) (hw : swappedStores [tg] e X.env = pure none := by rfl)
    (h1 : (assignEach [tg] X.env).map (·.2) = [assign tg X.env] := by rfl) : oS X (.Assign [tg] e pos) D σ H := oS_of (ps_asg pe_o hg hs hw h1) (h H (Ex.refl hT) _ k)
theorem s_for' {g : TG} (hx : X.xe = fun _ _ => False) (hc : X.calm = true) (hg : PG X tg g) (h : tFor (oI X tg iter) g (oSs X body) D σ H) (hs : ∀ x, foldedSetIterable iter X.env x = pure x := by intro _; rfl) : oS X (.For tg iter body [] pos) D σ H :=
  oS_of (ps_for (by rw [hx]; exact PassesOwn.never) hc pi_o hg pss_o hs) h
theorem s_forX {Pl : List α → Prop} {g : TG} (im : Imm r) (hT : Tabs T H) (M : List Addr) (J : List α → Nat → L2.St → Hp → Prop) (hxe : X.xe = fun _ _ => False) (hc : X.calm = true) (hg : PG X tg g) (hi : VI X T tg iter r σ H Pl O)
    (hM : ∀ H1 p, Ex T H H1 → O (some p) → H1 p.1 = some p.2 → p.1 ∉ M) (h0 : ∀ xs H1, Pl xs → Ex T H H1 → J xs 0 σ H1)
    (hx : ∀ xs i σ' H' H'', Pl xs → J xs i σ' H' → Ex T H' H'' → J xs i σ' H'')
    (hs : ∀ xs i x v σ' H', Pl xs → xs[i]? = some x → ExM M T H H' → J xs i σ' H' → r.rel H' v x → ∃ σ2, Bnd g v σ' H' σ2 ∧
      ∀ N : L2.St → Hp → Prop, (∀ σ'' H'', ExM M T H' H'' → J xs (i + 1) σ'' H'' → N σ'' H'') → oSs X body { D with nx := N, ct := N, bk := D.nx } σ2 H')
    (hd : ∀ xs σ' H', Pl xs → ExM M T H H' → J xs xs.length σ' H' → D.nx σ' H') (hf : ∀ x, foldedSetIterable iter X.env x = pure x := by intro _; rfl) : oS X (.For tg iter body [] pos) D σ H :=
  s_for' hxe hc hg (s_for im hT hi M J hM h0 hx hs hd) hf
theorem s_while' (hx : X.xe = fun _ _ => False) (h : tWhile (oT X c) (oSs X body) D σ H) : oS X (.While c body [] pos) D σ H := oS_of (ps_while (by rw [hx]; exact PassesOwn.never) pt_o pss_o) h
theorem s_aug {z : Str} {i : Nat} {n m : Nat} (hT : Tabs T H) (hσ : σ[i]? = some (some (.int (n : Int)))) (h : VE X T e pN σ H (is m)) (hN : X.N.Nodup) (k : ∀ H1, Ex T H H1 → D.nx (σ.set i (some (.int ((n + m : Nat) : Int)))) H1) (hi : X.N[i]? = some z := by rfl) (hx : Loc X.env.scope z := by first | exact Or.inl rfl | exact Or.inr rfl)
    (hf : X.fn z = true ∨ X.env.scope.names.lookup z = some .local := by first | exact .inl rfl | exact .inr rfl) : oS X (.AugAssign (.Name z p) .Add e pos) D σ H :=
  oS_of (ps_aug hN hi hx pe_o ip_add hf) ⟨_, hσ, h H (Ex.refl hT) _ fun v q H1 e1 rl pq => ⟨n, m, rfl, by rw [show v = _ from rl, show q = _ from pq], by have := k H1 e1; rwa [Int.natCast_add] at this⟩⟩
end
end LT
/-! ## LtRule4 -/
set_option Elab.async false
set_option linter.all false
set_option maxRecDepth 100000
set_option maxHeartbeats 4000000
namespace LT
open PySem PySem.W PySem.Spec PyProof.Rows L2 LamX

/-! ### data compared -/
theorem eqv_map {α : Type} [DecidableEq α] {f : α → PyData} (h : ∀ x y, PyData.eqv (f x) (f y) = decide (x = y)) : ∀ xs ys : List α, PyData.eqvAll (xs.map f) (ys.map f) = decide (xs = ys)
  | [], [] => by simp [PyData.eqvAll]
  | [], _ :: _ => by simp [PyData.eqvAll]
  | _ :: _, [] => by simp [PyData.eqvAll]
  | x :: xs, y :: ys => by
    rw [List.map_cons, List.map_cons, PyData.eqvAll, h, eqv_map h xs ys]
    by_cases q : x = y <;> by_cases q' : xs = ys <;> simp [q, q']
theorem eqv_I (x y : Int) : PyData.eqv (.int x) (.int y) = decide (x = y) := by simp [PyData.eqv, BEq.beq]
theorem eqv_R (x y : Row) : PyData.eqv (encR x) (encR y) = decide (x = y) := by
  unfold encR
  simp only [PyData.eqv]
  exact eqv_map eqv_I x y
theorem eqv_T (x y : Tbl) : PyData.eqv (encT x) (encT y) = decide (x = y) := by
  unfold encT
  simp only [PyData.eqv]
  exact eqv_map eqv_R x y
theorem lay_map {α : Type} {f : α → PyData} (h : ∀ x, (f x).canLay0 = true) : ∀ xs : List α, PyData.canLayAll0 (xs.map f) = true
  | [] => by simp [PyData.canLayAll0]
  | x :: xs => by
    rw [List.map_cons, PyData.canLayAll0, h, lay_map h xs]
    rfl
theorem shp_I (x : Int) : SeqAt.shaped (.int x) = true := by simp [SeqAt.shaped, PyData.canLay0, PyData.depth]
theorem lay_R (x : Row) : (encR x).canLay0 = true := by
  unfold encR
  simp only [PyData.canLay0]
  exact lay_map (fun _ => by simp [PyData.canLay0]) x
theorem lay_T (x : Tbl) : (encT x).canLay0 = true := by
  unfold encT
  simp only [PyData.canLay0]
  exact lay_map lay_R x
theorem shp_R (x : Row) : SeqAt.shaped (encR x) = true := by
  unfold SeqAt.shaped
  rw [lay_R, Bool.true_and]
  exact decide_eq_true (Nat.le_trans (depth_R x) (by decide))
theorem shp_T (x : Tbl) : SeqAt.shaped (encT x) = true := by
  unfold SeqAt.shaped
  rw [lay_T, Bool.true_and]
  exact decide_eq_true (Nat.le_trans (depth_T x) (by decide))
/-- a list, a tuple of data of depth at most n -/
theorem shp_l {α : Type} {f : α → PyData} (n : Nat) (hn : n < 64) (h : ∀ x, (f x).canLay0 = true) (hd : ∀ x, (f x).depth ≤ n) (xs : List α) : SeqAt.shaped (.list (xs.map f)) = true := by
  unfold SeqAt.shaped
  simp only [PyData.canLay0, PyData.depth]
  rw [lay_map h, Bool.true_and]
  have := depth_all f n hd xs
  exact decide_eq_true (by omega)
theorem shp_t {α : Type} {f : α → PyData} (n : Nat) (hn : n < 64) (h : ∀ x, (f x).canLay0 = true) (hd : ∀ x, (f x).depth ≤ n) (xs : List α) : SeqAt.shaped (.tuple (xs.map f)) = true := by
  unfold SeqAt.shaped
  simp only [PyData.canLay0, PyData.depth]
  rw [lay_map h, Bool.true_and]
  have := depth_all f n hd xs
  exact decide_eq_true (by omega)
section
variable {α β γ : Type} {X : Cx} {T : List (Addr × Str)} {a b c e elt tg iter : Expr} {es ifs : List Expr} {r : Rp α} {s : Rp β} {q : Rp γ} {σ : L2.St} {H : Hp} {P : α → Prop} {v : V} {x : α} {y : β} {pos p pos' : Pos} {bx : Bool} {ea : α → PyData} {eb : β → PyData}
theorem c_eqD (ea : α → PyData) (eb : β → PyData) (hu : X.A.units + 64 < cLine) (ha : VE X T a r σ H (is x)) (hb : VE X T b s σ H (is y)) (da : ∀ H v x, r.rel H v x → Dp X.K H v (ea x)) (db : ∀ H v y, s.rel H v y → Dp X.K H v (eb y)) (sa : SeqAt.shaped (ea x) = true) (sb : SeqAt.shaped (eb y) = true) (he : PyData.eqv (ea x) (eb y) = bx) :
    VC X T .Eq a b σ H bx := ⟨_, op_eqD hu, ev_op (q := pB) ha hb fun v w x1 y1 H1 e rx ry px py Q k => ⟨ea x, eb y, by rw [← show x1 = x from px]; exact da _ _ _ rx, by rw [← show y1 = y from py]; exact db _ _ _ ry, sa, sb, k _ _ H1 e.here rfl he⟩⟩
theorem c_neD (ea : α → PyData) (eb : β → PyData) (hu : X.A.units + 64 < cLine) (ha : VE X T a r σ H (is x)) (hb : VE X T b s σ H (is y)) (da : ∀ H v x, r.rel H v x → Dp X.K H v (ea x)) (db : ∀ H v y, s.rel H v y → Dp X.K H v (eb y)) (sa : SeqAt.shaped (ea x) = true) (sb : SeqAt.shaped (eb y) = true) (he : PyData.eqv (ea x) (eb y) = bx) :
    VC X T .NotEq a b σ H (!bx) := ⟨_, op_neD hu, ev_op (q := pB) ha hb fun v w x1 y1 H1 e rx ry px py Q k => ⟨ea x, eb y, by rw [← show x1 = x from px]; exact da _ _ _ rx, by rw [← show y1 = y from py]; exact db _ _ _ ry, sa, sb, k _ _ H1 e.here rfl (congrArg not he)⟩⟩
theorem c_eqT {t u : Tbl} (hu : X.A.units + 64 < cLine) (ha : VE X T a pT σ H (is t)) (hb : VE X T b pT σ H (is u)) : VC X T .Eq a b σ H (decide (t = u)) := c_eqD encT encT hu ha hb (fun _ _ _ => dpT) (fun _ _ _ => dpT) (shp_T _) (shp_T _) (eqv_T _ _)
theorem c_neT {t u : Tbl} (hu : X.A.units + 64 < cLine) (ha : VE X T a pT σ H (is t)) (hb : VE X T b pT σ H (is u)) : VC X T .NotEq a b σ H (!decide (t = u)) := c_neD encT encT hu ha hb (fun _ _ _ => dpT) (fun _ _ _ => dpT) (shp_T _) (shp_T _) (eqv_T _ _)
theorem eqv_nil (ds : List PyData) : PyData.eqv (.list ds) (.list []) = ds.isEmpty := by
  cases ds <;> simp [PyData.eqv, PyData.eqvAll]
/-- xs == [] -/
theorem c_eqNil {xs : List α} {n : Nat} (f : α → PyData) (n : Nat) (hn : n < 64) (hu : X.A.units + 64 < cLine) (ha : VE X T a (pLst r) σ H (is xs)) (da : ∀ H v x, r.rel H v x → Dp X.K H v (f x)) (h : ∀ x, (f x).canLay0 = true) (hd : ∀ x, (f x).depth ≤ n) : VC X T .Eq a (.List [] p) σ H xs.isEmpty :=
  c_eqD (fun xs => .list (xs.map f)) (fun xs : List α => .list (xs.map f)) hu ha (v_nil (r := r)) (fun _ _ _ h => dp_lst (da _) h) (fun _ _ _ h => dp_lst (da _) h) (shp_l n hn h hd _) (shp_l n hn h hd _) (by rw [List.map_nil, eqv_nil, List.isEmpty_map])
theorem c_neNil {xs : List α} {n : Nat} (f : α → PyData) (n : Nat) (hn : n < 64) (hu : X.A.units + 64 < cLine) (ha : VE X T a (pLst r) σ H (is xs)) (da : ∀ H v x, r.rel H v x → Dp X.K H v (f x)) (h : ∀ x, (f x).canLay0 = true) (hd : ∀ x, (f x).depth ≤ n) : VC X T .NotEq a (.List [] p) σ H (!xs.isEmpty) :=
  c_neD (fun xs => .list (xs.map f)) (fun xs : List α => .list (xs.map f)) hu ha (v_nil (r := r)) (fun _ _ _ h => dp_lst (da _) h) (fun _ _ _ h => dp_lst (da _) h) (shp_l n hn h hd _) (shp_l n hn h hd _) (by rw [List.map_nil, eqv_nil, List.isEmpty_map])
theorem any_eqv {α : Type} [DecidableEq α] {f : α → PyData} (h : ∀ x y, PyData.eqv (f x) (f y) = decide (x = y)) (xs : List α) (x : α) : ((xs.map f).any fun z => PyData.eqv z (f x)) = decide (x ∈ xs) := by
  induction xs with
  | nil => simp
  | cons y ys ih =>
    rw [List.map_cons, List.any_cons, ih, h]
    by_cases q : y = x
    · simp [q]
    · have q' : ¬ x = y := fun z => q z.symm
      simp [q, q']
/-- x in xs -/
theorem c_inL [DecidableEq α] {xs : List α} {n : Nat} (f : α → PyData) (n : Nat) (hn : n < 64) (hf : ∀ x y, PyData.eqv (f x) (f y) = decide (x = y)) (hu : X.A.units + 65 < cLine) (ha : VE X T a r σ H (is x)) (hb : VE X T b (pLst r) σ H (is xs)) (da : ∀ H v x, r.rel H v x → Dp X.K H v (f x)) (h : ∀ x, (f x).canLay0 = true) (hd : ∀ x, (f x).depth ≤ n) : VC X T .In a b σ H (decide (x ∈ xs)) :=
  ⟨_, op_inD hu, ev_op (q := pB) ha hb fun v w x1 y1 H1 e rx ry px py Q k => ⟨f x, xs.map f, by rw [← show x1 = x from px]; exact da _ _ _ rx, by rw [← show y1 = xs from py]; exact dp_lst (da _) ry, by
    unfold SeqAt.shaped
    rw [h, Bool.true_and]
    exact decide_eq_true (by have := hd x; omega), shp_l n hn h hd _, k _ _ H1 e.here rfl (any_eqv hf xs x)⟩⟩
theorem c_notInL [DecidableEq α] {xs : List α} {n : Nat} (f : α → PyData) (n : Nat) (hn : n < 64) (hf : ∀ x y, PyData.eqv (f x) (f y) = decide (x = y)) (hu : X.A.units + 65 < cLine) (ha : VE X T a r σ H (is x)) (hb : VE X T b (pLst r) σ H (is xs)) (da : ∀ H v x, r.rel H v x → Dp X.K H v (f x)) (h : ∀ x, (f x).canLay0 = true) (hd : ∀ x, (f x).depth ≤ n) : VC X T .NotIn a b σ H (!decide (x ∈ xs)) :=
  ⟨_, op_notInD hu, ev_op (q := pB) ha hb fun v w x1 y1 H1 e rx ry px py Q k => ⟨f x, xs.map f, by rw [← show x1 = x from px]; exact da _ _ _ rx, by rw [← show y1 = xs from py]; exact dp_lst (da _) ry, by
    unfold SeqAt.shaped
    rw [h, Bool.true_and]
    exact decide_eq_true (by have := hd x; omega), shp_l n hn h hd _, k _ _ H1 e.here rfl (congrArg not (any_eqv hf xs x))⟩⟩
/-! sorted -/
theorem v_sort (sr : SRp X.K α) {Pa : γ → Prop} {xs : γ → List α} (hc : X.calm = true) (hu : X.A.units + 10 < cLine) (B : Blt X.mg) (ha : VE X T e q σ H Pa) (hs : ∀ H v z, q.rel H v z → Pa z → SrcV X.prog X.w X.K H v sr.p (xs z)) (hk : ∀ z, Pa z → Sortable ((xs z).map sr.enc)) (hg : Gl X "sorted" := by rfl)
    (he : starEach [e] X.env = (false, eval e X.env) :: starEach [] X.env := by rfl) : VF X T (.Call (.Name "sorted" p) [e] [] pos) (pLst sr.p) σ H (fun ys => ∃ z, Pa z ∧ ys = (xs z).mergeSort (dataLe false sr.enc)) :=
  vf_of (pe_callB (cr_sortP sr hc hu) hg (B _ (by decide)) PyProof.Rows.boot_sorted (pa_cons pe_o pa_nil he) (by decide) (by decide) he rfl) fun H1 e1 Q k =>
    ha H1 e1 _ fun v z H2 e2 rz pz => ⟨v, xs z, rfl, hs _ _ _ rz pz, hk z pz, fun p ws hp hw => k p _ _ (e2.trans (Ex.new e2.2 hp)) (e2.fr0 hp) ⟨p, ws, rfl, upd_same, paired_imp (fun _ _ => sr.p.mono (extn_new hp)) hw⟩ ⟨z, pz, rfl⟩⟩
theorem v_sortT (sr : SRp X.K α) {xs : List α} (hc : X.calm = true) (hu : X.A.units + 10 < cLine) (B : Blt X.mg) (ha : VE X T e (pTup sr.p) σ H (is xs)) (hk : Sortable (xs.map sr.enc)) (hg : Gl X "sorted" := by rfl) (he : starEach [e] X.env = (false, eval e X.env) :: starEach [] X.env := by rfl) :
    VE X T (.Call (.Name "sorted" p) [e] [] pos) (pLst sr.p) σ H (is (xs.mergeSort (dataLe false sr.enc))) :=
  (v_sort sr (xs := id) hc hu B ha (fun _ _ _ rz _ => src_tup rz) (fun z pz => by rw [show z = xs from pz]; exact hk) hg he).ev.imp fun ys ⟨z, pz, e⟩ => by rw [e, show z = xs from pz]; rfl
theorem v_sortL (sr : SRp X.K α) {xs : List α} (hc : X.calm = true) (hu : X.A.units + 10 < cLine) (B : Blt X.mg) (ha : VE X T e (pLst sr.p) σ H (is xs)) (hk : Sortable (xs.map sr.enc)) (hg : Gl X "sorted" := by rfl) (he : starEach [e] X.env = (false, eval e X.env) :: starEach [] X.env := by rfl) :
    VE X T (.Call (.Name "sorted" p) [e] [] pos) (pLst sr.p) σ H (is (xs.mergeSort (dataLe false sr.enc))) :=
  (v_sort sr (xs := id) hc hu B ha (fun _ _ _ rz _ => src_lst rz) (fun z pz => by rw [show z = xs from pz]; exact hk) hg he).ev.imp fun ys ⟨z, pz, e⟩ => by rw [e, show z = xs from pz]; rfl
/-! max, min of a pair -/
end
end LT
/-! ## LtMax -/
set_option Elab.async false
set_option linter.all false
set_option maxRecDepth 100000
set_option maxHeartbeats 4000000
namespace LT
open PySem PySem.W PySem.Spec PyProof.Rows L2 LamX

section
variable {prog : Program} {w : World} {A : Around} {E : Value → Shared → Prop} {s : Shared}
theorem pair_start {l : Addr} {a b : Int} {t u : Tok} {Q : Value → Shared → Prop} (hl : s.heap.IsTuple l (intItems #[(a, t), (b, u)]))
    (h : ∀ s₂ : Shared, s₂ = { s with heap := s.heap.push { cls := .type "tuple_iterator", data := .fields #[.ref l, .int 0 0] } } →
      (s₂.heap.IsTupleIter s.heap.objs.size l 0 ∧ s₂.heap.IsTuple l (intItems #[(a, t), (b, u)])) → (∀ c ∈ [s.heap.objs.size, l], c < s₂.heap.objs.size) → l ≠ s.heap.objs.size → Q (.ref s.heap.objs.size) s₂) :
    wpAny (model prog w) A (pyIter (.ref l)) Q E s := by
  have hlt : l < s.heap.objs.size := by obtain ⟨_, e, _⟩ := hl; exact Heap.lt_size e
  refine wpAny_pyIter_tuple hl (h _ rfl ⟨⟨_, Heap.get?_push_size _ rfl, rfl, rfl⟩, hl.push _⟩ (fun c hc => ?_) (Nat.ne_of_lt hlt))
  show c < (s.heap.push _).objs.size
  rw [Heap.size_push]
  rcases (show c = s.heap.objs.size ∨ c = l by simpa using hc) with rfl | rfl
  · exact Nat.lt_succ_self _
  · exact Nat.lt_succ_of_lt hlt
theorem pair_old {l : Addr} {h' : Heap} (hk : ∀ b o, b ∉ [s.heap.objs.size] → (s.heap.push { cls := .type "tuple_iterator", data := .fields #[.ref l, .int 0 0] }).get? b = some o → h'.get? b = some o) :
    ∀ b o, s.heap.get? b = some o → h'.get? b = some o := fun b o e => by
  refine hk b o (fun hm => ?_) (Heap.get?_push_of_some _ e)
  rw [List.mem_singleton.mp hm] at e
  exact absurd (Heap.lt_size e) (Nat.lt_irrefl _)
theorem max_pair {l : Addr} {a b : Int} {t u : Tok} {Q : Value → Shared → Prop} (hh : A.handled = none) (hl : s.heap.IsTuple l (intItems #[(a, t), (b, u)]))
    (h : ∀ h' tk k, (∀ c o, s.heap.get? c = some o → h'.get? c = some o) → Q (.int (max a b) k) { s with heap := h', toks := tk }) : wpAny (model prog w) A (call (.builtin "max") [.ref l]) Q E s := by
  refine call_max_walk (pair_start hl fun s₂ e st hfp hlI => ?_)
  subst e
  refine ⟨_, _, _, _, _, _, _, rfl, Walks.tuple (A := A.in1) hh _ l hlI (intItems #[(a, t), (b, u)]), st, hfp, by simp [intItems], CmpOf.ints_gt (numAt #[(a, t), (b, u)]) (fun _ _ => intItems_at), fun v h' tk hP hk => ?_⟩
  have hv : ∃ k, v = .int (max a b) k := by
    have hP' : (intItems #[(a, t), (b, u)])[argBest (fun i j => decide (numAt #[(a, t), (b, u)] i > numAt #[(a, t), (b, u)] j)) 1]? = some v := by simpa [intItems] using hP
    by_cases hba : b > a
    · have e : argBest (fun i j => decide (numAt #[(a, t), (b, u)] i > numAt #[(a, t), (b, u)] j)) 1 = 1 := by simp [argBest, numAt, hba]
      rw [e] at hP'
      exact ⟨u, by rw [Int.max_eq_right (by omega)]; simpa [intItems] using hP'.symm⟩
    · have e : argBest (fun i j => decide (numAt #[(a, t), (b, u)] i > numAt #[(a, t), (b, u)] j)) 1 = 0 := by simp [argBest, numAt, hba]
      rw [e] at hP'
      exact ⟨t, by rw [Int.max_eq_left (by omega)]; simpa [intItems] using hP'.symm⟩
  obtain ⟨k, rfl⟩ := hv
  exact h h' tk k (pair_old hk)
theorem min_pair {l : Addr} {a b : Int} {t u : Tok} {Q : Value → Shared → Prop} (hh : A.handled = none) (hl : s.heap.IsTuple l (intItems #[(a, t), (b, u)]))
    (h : ∀ h' tk k, (∀ c o, s.heap.get? c = some o → h'.get? c = some o) → Q (.int (min a b) k) { s with heap := h', toks := tk }) : wpAny (model prog w) A (call (.builtin "min") [.ref l]) Q E s := by
  refine call_min_walk (pair_start hl fun s₂ e st hfp hlI => ?_)
  subst e
  refine ⟨_, _, _, _, _, _, _, rfl, Walks.tuple (A := A.in1) hh _ l hlI (intItems #[(a, t), (b, u)]), st, hfp, by simp [intItems], CmpOf.ints_lt (numAt #[(a, t), (b, u)]) (fun _ _ => intItems_at), fun v h' tk hP hk => ?_⟩
  have hv : ∃ k, v = .int (min a b) k := by
    have hP' : (intItems #[(a, t), (b, u)])[argBest (fun i j => decide (numAt #[(a, t), (b, u)] i < numAt #[(a, t), (b, u)] j)) 1]? = some v := by simpa [intItems] using hP
    by_cases hba : b < a
    · have e : argBest (fun i j => decide (numAt #[(a, t), (b, u)] i < numAt #[(a, t), (b, u)] j)) 1 = 1 := by simp [argBest, numAt, hba]
      rw [e] at hP'
      exact ⟨u, by rw [Int.min_eq_right (by omega)]; simpa [intItems] using hP'.symm⟩
    · have e : argBest (fun i j => decide (numAt #[(a, t), (b, u)] i < numAt #[(a, t), (b, u)] j)) 1 = 0 := by simp [argBest, numAt, hba]
      rw [e] at hP'
      exact ⟨t, by rw [Int.min_eq_left (by omega)]; simpa [intItems] using hP'.symm⟩
  obtain ⟨k, rfl⟩ := hv
  exact h h' tk k (pair_old hk)
end
def rPairI (g : Int → Int → Int) : List V → Hp → VK → Prop := fun vs H Q => ∃ p i j, vs = [.ref p] ∧ H p = some (.tup [.int i, .int j]) ∧ Q (.int (g i j)) H
section
variable {X : Cx}
theorem pair_items {pins : List (Addr × Obj)} {σ : L2.St} {H : Hp} {s : Shared} {p : Addr} {i j : Int} (I : Inv X pins σ H s) (h : H p = some (.tup [.int i, .int j])) : ∃ t u, s.heap.IsTuple p (intItems #[(i, t), (j, u)]) := by
  obtain ⟨its, rv, pt, _⟩ := I.tuple (sq_t (K := X.K) h)
  cases rv with
  | cons r1 rv =>
    cases rv with
    | cons r2 rv =>
      cases rv
      obtain ⟨t, rfl⟩ := r1
      obtain ⟨u, rfl⟩ := r2
      exact ⟨t, u, by
        have q : s.heap.IsTuple p (List.toArray [Value.int i t, Value.int j u]) := pt
        simpa [intItems] using q⟩
theorem cr_maxP (hc : X.calm = true) : CallR X (.builtin "max") (rPairI max) := by
  intro pins s σ H vs us Q I r h
  obtain ⟨p, i, j, rfl, hp, q⟩ := h
  obtain ⟨t, u, ht⟩ := pair_items I hp
  rw [Vals.ref1 r]
  exact max_pair (I.ok.hd hc) ht fun h' tk k hk => ⟨.int _, H, I.kept hk, ⟨_, rfl⟩, q⟩
theorem cr_minP (hc : X.calm = true) : CallR X (.builtin "min") (rPairI min) := by
  intro pins s σ H vs us Q I r h
  obtain ⟨p, i, j, rfl, hp, q⟩ := h
  obtain ⟨t, u, ht⟩ := pair_items I hp
  rw [Vals.ref1 r]
  exact min_pair (I.ok.hd hc) ht fun h' tk k hk => ⟨.int _, H, I.kept hk, ⟨_, rfl⟩, q⟩
variable {T : List (Addr × Str)} {e : Expr} {σ : L2.St} {H : Hp} {pos p : Pos} {x : Int × Int}
theorem v_maxP (hc : X.calm = true) (B : Blt X.mg) (ha : VE X T e (pPair pI pI) σ H (is x)) (hg : Gl X "max" := by rfl) (he : starEach [e] X.env = (false, eval e X.env) :: starEach [] X.env := by rfl) : VE X T (.Call (.Name "max" p) [e] [] pos) pI σ H (is (max x.1 x.2)) :=
  ve_of (pe_callB (cr_maxP hc) hg (B _ (by decide)) PyProof.Rows.boot_max (pa_cons pe_o pa_nil he) (by decide) (by decide) he rfl) fun H1 e1 Q k => ha H1 e1 _ fun v z H2 e2 ⟨a, u, w, ev, h1, h2, h3⟩ pz => by
    subst ev
    rw [show z = x from pz] at h2 h3
    rw [show u = _ from h2, show w = _ from h3] at h1
    exact ⟨a, x.1, x.2, rfl, h1, k _ _ H2 e2 rfl rfl⟩
theorem v_minP (hc : X.calm = true) (B : Blt X.mg) (ha : VE X T e (pPair pI pI) σ H (is x)) (hg : Gl X "min" := by rfl) (he : starEach [e] X.env = (false, eval e X.env) :: starEach [] X.env := by rfl) : VE X T (.Call (.Name "min" p) [e] [] pos) pI σ H (is (min x.1 x.2)) :=
  ve_of (pe_callB (cr_minP hc) hg (B _ (by decide)) PyProof.Rows.boot_min (pa_cons pe_o pa_nil he) (by decide) (by decide) he rfl) fun H1 e1 Q k => ha H1 e1 _ fun v z H2 e2 ⟨a, u, w, ev, h1, h2, h3⟩ pz => by
    subst ev
    rw [show z = x from pz] at h2 h3
    rw [show u = _ from h2, show w = _ from h3] at h1
    exact ⟨a, x.1, x.2, rfl, h1, k _ _ H2 e2 rfl rfl⟩
end
end LT
/-! ## LtRule5 -/
set_option Elab.async false
set_option linter.all false
set_option maxRecDepth 100000
set_option maxHeartbeats 4000000
namespace LT
open PySem PySem.W PySem.Spec PyProof.Rows L2 LamX

/-! ### dicts keyed by nested tuples, as expressions -/
section
variable {α β γ : Type} [DecidableEq α] {X : Cx} {T : List (Addr × Str)} {a b c e o i elt tg iter : Expr} {k : KRp α} {r : Rp β} {q : Rp γ} {σ : L2.St} {H : Hp} {v : V} {x : α} {y : β} {z : γ} {kvs : List (α × β)} {pos p pos' apos cpos : Pos} {D : Ends} {d : Addr}
def rInN (w : World) (k : KRp α) (r : Rp β) (neg : Bool) : R2 := fun x y H Q => ∃ d kvs a, y = .ref d ∧ dictAt w k r H d kvs ∧ k.p.rel H x a ∧ Q (.bl (neg.xor (getA kvs a).isSome)) H
theorem op_inN (hu : X.A.units + 9 < cLine) : OpR X (compareOp .In) (rInN X.w k r false) := by
  intro pins s σ H x y v u Q I rx ry h
  obtain ⟨d, kvs, a, rfl, hd, hk, q⟩ := h
  cases ry
  exact n_in hu I hd hk rx fun s' I' => ⟨.bl _, H, I', rfl, by rw [Bool.false_xor] at q; exact q⟩
theorem op_notInN (hu : X.A.units + 9 < cLine) : OpR X (compareOp .NotIn) (rInN X.w k r true) := by
  intro pins s σ H x y v u Q I rx ry h
  obtain ⟨d, kvs, a, rfl, hd, hk, q⟩ := h
  cases ry
  exact n_notIn hu I hd hk rx fun s' I' => ⟨.bl _, H, I', rfl, by rw [Bool.true_xor] at q; exact q⟩
theorem c_inD (hu : X.A.units + 9 < cLine) (ha : VE X T a k.p σ H (is x)) (hb : VE X T b (pD X.w k r) σ H (is kvs)) : VC X T .In a b σ H (getA kvs x).isSome :=
  ⟨_, op_inN (k := k) (r := r) hu, ev_op (q := pB) ha hb fun v w x1 y1 H1 e rx ry px py Q kk => by
    obtain ⟨d, rfl, hd⟩ := ry
    exact ⟨d, kvs, x, rfl, by rw [← show y1 = kvs from py]; exact hd, by rw [← show x1 = x from px]; exact rx, kk _ _ H1 e.here rfl (by rw [Bool.false_xor])⟩⟩
theorem c_notInD (hu : X.A.units + 9 < cLine) (ha : VE X T a k.p σ H (is x)) (hb : VE X T b (pD X.w k r) σ H (is kvs)) : VC X T .NotIn a b σ H (!(getA kvs x).isSome) :=
  ⟨_, op_notInN (k := k) (r := r) hu, ev_op (q := pB) ha hb fun v w x1 y1 H1 e rx ry px py Q kk => by
    obtain ⟨d, rfl, hd⟩ := ry
    exact ⟨d, kvs, x, rfl, by rw [← show y1 = kvs from py]; exact hd, by rw [← show x1 = x from px]; exact rx, kk _ _ H1 e.here rfl (by rw [Bool.true_xor])⟩⟩
/-- d[k] -/
def tGetN (w : World) (k : KRp α) (r : Rp β) (td tk : TE) : TE := fun σ H Q => td σ H fun x H1 => tk σ H1 fun y H2 => ∃ d kvs a b, x = .ref d ∧ dictAt w k r H2 d kvs ∧ k.p.rel H2 y a ∧ getA kvs a = some b ∧ ∀ v, r.rel H2 v b → Q v H2
theorem pe_getN {td tk : TE} (hu : X.A.units + 9 < cLine) (ho : PE X o td) (hi : PE X i tk) (hs : NoSl i) : PE X (.Subscript o i pos) (tGetN X.w k r td tk) := by
  refine ⟨fun pins s σ H Q I h => ?_⟩
  refine subD_of PySem.F.slot_dict_getitem.lookup hs (thn (ho.run pins s σ H _ I h) fun u s1 ⟨x, H1, I1, rx, q1⟩ => thn (hi.run pins s1 σ H1 _ I1 q1) fun iv s2 ⟨y, H2, I2, ry, d, kvs, a, b, ex, hd, hk, g, q2⟩ => ?_)
  subst ex
  obtain rfl : u = Value.ref d := rx
  exact ⟨n_typeIs I2 hd, n_get hu I2 hd hk ry g fun v' w' s' I' rv hr => ⟨v', H2, I', rv, q2 v' hr⟩⟩
theorem v_getD (hu : X.A.units + 9 < cLine) (ho : VE X T o (pD X.w k r) σ H (is kvs)) (hi : VE X T i k.p σ H (is x)) (g : getA kvs x = some y) (hs : NoSl i := by intro _ _; rfl) : VE X T (.Subscript o i pos) r σ H (is y) :=
  ve_of (pe_getN (k := k) (r := r) hu pe_o pe_o hs) fun H1 e1 Q kk => ho H1 e1 _ fun v kv H2 e2 ⟨d, ev, hd⟩ pd => hi H2 (e1.trans e2) _ fun u x1 H3 e3 ru px =>
    ⟨d, kvs, x, y, ev, by rw [← show kv = kvs from pd]; exact hd.ext e3.1, by rw [← show x1 = x from px]; exact ru, g, fun v hv => kk v y H3 (e2.trans e3) hv rfl⟩
/-- d[k] = v -/
def sPutN (w : World) (k : KRp α) (r : Rp β) : TSet := fun o i v H Q => ∃ d kvs a b, o = .ref d ∧ dictAt w k r H d kvs ∧ k.p.rel H i a ∧ r.rel H v b ∧ kvs.length < sizeLine ∧ ∀ H' u, H' = upd H d u → Soft u → dictAt w k r H' d (putA kvs a b) → Q H'
theorem pset_N (ir : Imm r) (hu : X.A.units + 9 < cLine) : PSet X (sPutN X.w k r) := by
  intro pins s σ H o i v ov iv u Q I ro ri rv h
  obtain ⟨d, kvs, a, b, rfl, hd, hk, hb, hz, q⟩ := h
  cases ro
  exact n_set ir hu I hd hk ri hb rv hz fun H' o s' I' e so hd' => ⟨H', I', q H' o e so hd'⟩
theorem s_put {vx : Expr} (ir : Imm r) (hT : Tabs T H) (hu : X.A.units + 9 < cLine) {Pv : β → Prop} (hv : VE X T vx r σ H Pv) (ho : VE X T o (pD X.w k r) σ H (is kvs)) (hd : ∀ H1, Ex T H H1 → ∀ Q : VK, Q (.ref d) H1 → oE X o σ H1 Q) (hdk : dictAt X.w k r H d kvs) (hi : VE X T i k.p σ H (is x)) (hz : kvs.length < sizeLine)
    (kk : ∀ y H1 H2, Pv y → Ex T H H1 → ExM [d] T H1 H2 → dictAt X.w k r H2 d (putA kvs x y) → D.nx σ H2)
    (ha : ∀ v, assign (.Subscript o i p) X.env v = (do
      let ov ← holding [v] (eval o X.env)
      let iv ← holding [v, ov] (eval i X.env)
      standAt p
      holding [v, ov, iv] (setItem ov iv v)
      release [v, ov, iv] []) := by intro _; rfl)
    (hs : swapsWithSole [.Subscript o i p] vx pos.line X.env = pure false := by rfl) (hw : swappedStores [.Subscript o i p] vx X.env = pure none := by rfl) (h1 : (assignEach [.Subscript o i p] X.env).map (·.2) = [assign (.Subscript o i p) X.env] := by rfl) :
    oS X (.Assign [.Subscript o i p] vx pos) D σ H :=
  s_asg hT hv (pg_sub pe_o pe_o (pset_N (k := k) (r := r) ir hu) ha) (fun v y H1 e1 rv py => hd H1 e1 _ (hi H1 e1 _ fun u x1 H2 e2 ru px => by
    refine ⟨d, kvs, x, y, rfl, hdk.ext (e1.trans e2).1, by rw [← show x1 = x from px]; exact ru, r.mono e2.1 rv, hz, fun H3 w e3 sw hd3 => ?_⟩
    subst e3
    obtain ⟨o', ho', so'⟩ := (hdk.ext (e1.trans e2).1).soft
    exact kk y H2 _ py (e1.trans e2) (ExM.mut ho' so' (by simp) e2.2) hd3)) hs hw h1
/-- {} -/
theorem f_dnew (hb : True := trivial) : VF X T (.Dict [] [] pos) (pD X.w k r) σ H (is []) :=
  vf_of (te := fun σ H Q => ∀ p, H p = none → Q (.ref p) (upd H p (rawD X.w p []))) ⟨fun pins s σ H Q I h => wpAny_Dict_empty ⟨.ref s.heap.objs.size, _, I.laid (t' := s.toks) (fun _ _ q => Heap.get?_push_of_some _ q) (Nat.le_refl _) (n_empty s.heap I.big), rfl, h _ (I.hok.fresh (Nat.le_refl _))⟩⟩
    fun H1 e1 Q kk p hp => kk p [] _ (Ex.new e1.2 hp) (Fr0.of_none hp) ⟨p, rfl, [], upd_same, .nil⟩ rfl
/-- d.get(k), d.get(k, v) -/
def tGet1N (w : World) (k : KRp α) (r : Rp β) (td tk : TE) : TE := fun σ H Q => td σ H fun x H1 => ∃ d kvs, x = .ref d ∧ dictAt w k r H1 d kvs ∧ tk σ H1 fun y H2 => ∃ a, dictAt w k r H2 d kvs ∧ k.p.rel H2 y a ∧ ∀ v, (∀ b, getA kvs a = some b → r.rel H2 v b) → (getA kvs a = none → v = .non) → Q v H2
theorem pe_get1N {td tk : TE} (hu : X.A.units + 9 < cLine) (ho : PE X o td) (hi : PE X e tk) (m : M1 X o "get" apos e cpos) : PE X (.Call (.Attribute o "get" apos) [e] [] cpos) (tGet1N X.w k r td tk) := by
  refine ⟨fun pins s σ H Q I h => ?_⟩
  refine wpAny_Call_method m.base m.few m.line PySem.F.plainAttrs_dict PySem.F.slot_dict_get PySem.F.type_dict_get (thn (ho.run pins s σ H _ I h) fun u s1 ⟨x, H1, I1, rx, d, kvs, ex, hd, q1⟩ => ?_)
  subst ex
  obtain rfl : u = Value.ref d := rx
  refine ⟨n_typeIs I1 hd, n_isD I1 hd, ?_⟩
  rw [m.trees]
  exact Calls.callWith_builtin rfl (Calls.evalArgs_plain (Calls.spliced_cons (thn (hi.run pins s1 σ H1 _ I1 q1) fun iv s2 ⟨y, H2, I2, ry, a, hd2, hk, q2⟩ => Calls.spliced_nil (n_get1 hu I2 hd2 hk ry fun v' w' s' I' rv g1 g2 => ⟨v', H2, I', rv, q2 v' g1 g2⟩))))
def tGet2N (w : World) (k : KRp α) (r : Rp β) (td tk tv : TE) : TE := fun σ H Q => td σ H fun x H1 => ∃ d kvs, x = .ref d ∧ dictAt w k r H1 d kvs ∧ tk σ H1 fun y H2 => tv σ H2 fun z H3 => ∃ a, dictAt w k r H3 d kvs ∧ k.p.rel H3 y a ∧ ∀ v, (∀ b, getA kvs a = some b → r.rel H3 v b) → (getA kvs a = none → v = z) → Q v H3
theorem pe_get2N {f : Expr} {td tk tv : TE} (hu : X.A.units + 9 < cLine) (ho : PE X o td) (hi : PE X e tk) (hf : PE X f tv) (m : M2 X o "get" apos e f cpos) : PE X (.Call (.Attribute o "get" apos) [e, f] [] cpos) (tGet2N X.w k r td tk tv) := by
  refine ⟨fun pins s σ H Q I h => ?_⟩
  refine wpAny_Call_method m.base m.few m.line PySem.F.plainAttrs_dict PySem.F.slot_dict_get PySem.F.type_dict_get (thn (ho.run pins s σ H _ I h) fun u s1 ⟨x, H1, I1, rx, d, kvs, ex, hd, q1⟩ => ?_)
  subst ex
  obtain rfl : u = Value.ref d := rx
  refine ⟨n_typeIs I1 hd, n_isD I1 hd, ?_⟩
  rw [m.trees]
  exact Calls.callWith_builtin rfl (Calls.evalArgs_plain (Calls.spliced_cons (thn (hi.run pins s1 σ H1 _ I1 q1) fun iv s2 ⟨y, H2, I2, ry, q2⟩ =>
    Calls.spliced_cons (thn (hf.run pins s2 σ H2 _ I2 q2) fun fv s3 ⟨z, H3, I3, rz, a, hd3, hk, q3⟩ => Calls.spliced_nil (n_get2 hu I3 hd3 hk ry rz fun v' w' s' I' rv g1 g2 => ⟨v', H3, I', rv, q3 v' g1 g2⟩)))))
/-- what get gives: the value, or None -/
def pOpt (r : Rp β) : Rp (Option β) := ⟨fun H v x => (∀ b, x = some b → r.rel H v b) ∧ (x = none → v = .non), fun e h => ⟨fun b q => r.mono e (h.1 b q), h.2⟩⟩
theorem v_get1 (hu : X.A.units + 9 < cLine) (ho : VE X T o (pD X.w k r) σ H (is kvs)) (hi : VE X T e k.p σ H (is x)) (m : M1 X o "get" apos e cpos := by exact ⟨rfl, rfl, rfl, rfl⟩) : VE X T (.Call (.Attribute o "get" apos) [e] [] cpos) (pOpt r) σ H (is (getA kvs x)) :=
  ve_of (pe_get1N (k := k) (r := r) hu pe_o pe_o m) fun H1 e1 Q kk => ho H1 e1 _ fun v kv H2 e2 ⟨d, ev, hd⟩ pd => ⟨d, kvs, ev, by rw [← show kv = kvs from pd]; exact hd, hi H2 (e1.trans e2) _ fun u x1 H3 e3 ru px =>
    ⟨x, by rw [← show kv = kvs from pd]; exact hd.ext e3.1, by rw [← show x1 = x from px]; exact ru, fun v g1 g2 => kk v _ H3 (e2.trans e3) ⟨g1, g2⟩ rfl⟩⟩
theorem v_get2 {f : Expr} (hu : X.A.units + 9 < cLine) (ho : VE X T o (pD X.w k r) σ H (is kvs)) (hi : VE X T e k.p σ H (is x)) (hf : VE X T f r σ H (is y)) (m : M2 X o "get" apos e f cpos := by exact ⟨rfl, rfl, rfl, rfl⟩) : VE X T (.Call (.Attribute o "get" apos) [e, f] [] cpos) r σ H (is ((getA kvs x).getD y)) :=
  ve_of (pe_get2N (k := k) (r := r) hu pe_o pe_o pe_o m) fun H1 e1 Q kk => ho H1 e1 _ fun v kv H2 e2 ⟨d, ev, hd⟩ pd => ⟨d, kvs, ev, by rw [← show kv = kvs from pd]; exact hd, hi H2 (e1.trans e2) _ fun u x1 H3 e3 ru px => hf H3 ((e1.trans e2).trans e3) _ fun z y1 H4 e4 rz py =>
    ⟨x, by rw [← show kv = kvs from pd]; exact (hd.ext e3.1).ext e4.1, by rw [← show x1 = x from px]; exact k.p.mono e4.1 ru, fun v g1 g2 => kk v _ H4 ((e2.trans e3).trans e4) (by
      cases g : getA kvs x with
      | some b => exact g1 b g
      | none =>
        rw [g2 g]
        show r.rel H4 z y
        rw [← show y1 = y from py]
        exact rz) rfl⟩⟩
/-- list(d): the keys -/
theorem call_listN : CallR X (.type "list") (fun xs H Q => X.calm = true ∧ ∃ v d kvs, xs = [v] ∧ v = .ref d ∧ dictAt X.w k r H d kvs ∧ ∀ p ws, H p = none → Paired (k.p.rel H) ws (kvs.map (·.1)) → Q (.ref p) (upd H p (.lst ws))) := by
  intro pins s σ H xs us Q I rx h
  obtain ⟨hc, v, d, kvs, rfl, rfl, hd, q⟩ := h
  rw [Vals.ref1 rx]
  obtain ⟨ks, xs, h1, h2, h3, dd, hs, hl, hz⟩ := n_open I hd
  obtain ⟨es, ep, hr, hsz, he⟩ := dd.raw
  refine kdl_call (KdlSrc.rawDict (es := es) (ep := ep) hs) (I.ok.hd hc) hr (by rw [hsz]; exact hz) fun h' tk acc' c' hk hD hacc => ?_
  have e : acc'.toList = xs.map fun x => Value.ref x.2.1 := by
    refine List.ext_getElem? fun i => ?_
    rw [List.getElem?_map, Array.getElem?_toList]
    by_cases hi : i < es.size
    · obtain ⟨y, hy, e1, _⟩ := he i hi
      have hi' : i < acc'.size := by rw [hacc.1]; exact hi
      obtain ⟨hi2, e2⟩ := hacc.2 i acc'[i] (Array.getElem?_eq_getElem hi')
      rw [Array.getElem?_eq_getElem hi', e2, e1, hy]
      rfl
    · have hx : xs[i]? = none := List.getElem?_eq_none (by omega)
      rw [hx, Array.getElem?_eq_none (by rw [hacc.1]; omega)]
      rfl
  obtain ⟨ws, w1, w2⟩ := valsFor_to (keys_for h2 h3)
  have hws : ws.length ≤ sizeLine := by
    rw [w1.length, List.length_map]
    exact hz
  refine ⟨.ref s.heap.objs.size, upd H s.heap.objs.size (.lst ws), I.laid (t' := tk) hk (Nat.le_refl _) ⟨hws, _, c', w1, ?_⟩, rfl, q _ ws (I.hok.fresh (Nat.le_refl _)) w2⟩
  rw [hD, ← e]
theorem f_listD (hc : X.calm = true) (B : Blt X.mg) (ho : VE X T o (pD X.w k r) σ H (is kvs)) (hg : Gl X "list" := by rfl) (he : starEach [o] X.env = (false, eval o X.env) :: starEach [] X.env := by rfl) : VF X T (.Call (.Name "list" p) [o] [] pos) (pLst k.p) σ H (is (kvs.map (·.1))) :=
  vf_of (pe_callTy (call_listN (k := k) (r := r)) hg (B _ (by decide)) PyProof.Rows.boot_list (pa_cons pe_o pa_nil he) (by decide) (by decide) he rfl) fun H1 e1 Q kk => ho H1 e1 _ fun v kv H2 e2 ⟨d, ev, hd⟩ pd =>
    ⟨hc, v, d, kvs, rfl, ev, by rw [← show kv = kvs from pd]; exact hd, fun p ws hp hw => kk p _ _ (e2.trans (Ex.new e2.2 hp)) (e2.fr0 hp) ⟨p, ws, rfl, upd_same, paired_imp (fun _ _ => k.p.mono (extn_new hp)) hw⟩ rfl⟩
/-- len(d) -/
theorem call_lenN : CallR X (.builtin "len") (fun xs H Q => ∃ v d kvs, xs = [v] ∧ v = .ref d ∧ dictAt X.w k r H d kvs ∧ Q (.int (kvs.length : Nat)) H) := by
  intro pins s σ H xs us Q I rx h
  obtain ⟨v, d, kvs, rfl, rfl, hd, q⟩ := h
  rw [Vals.ref1 rx]
  obtain ⟨ks, xs, h1, h2, h3, dd, hs, hl, hz⟩ := n_open I hd
  obtain ⟨es, ep, hr, hsz, he⟩ := dd.raw
  have hle : es.size ≤ sizeLine := by rw [hsz]; exact hz
  rw [sizeLine_eq] at hle
  refine Calls.call_function_entry kind_len plain_len entry_len (args_len1 _) ?_
  unfold Builtin.«len»
  refine wpAny_bind (m := oneArg "len" _) (wpAny_pure ?_)
  refine wpAny_bind (m := callSpecial? (.ref d) (Str.ofString "__len__")) (wpAny_callSpecial?_slot (name := Str.ofString "__len__") hr.typeIs PySem.F.slot_dict_len (call_len_raw hs hr ?_))
  refine wpAny_bind (wpAny_holding (wpAny_pure ?_))
  refine wpAny_bind (wpAny_letGo ?_)
  show wpAny _ _ (if ((es.size : Nat) : Int) < 0 then _ else _) _ _ _
  rw [if_neg (by omega)]
  show wpAny _ _ (if ((es.size : Nat) : Int) ≥ 2 ^ 63 then _ else _) _ _ _
  rw [if_neg (by omega)]
  refine wpAny_bind (wpAny_mkInt (wpAny_pure ⟨_, rfl, .int (kvs.length : Nat), H, I.tok _, ⟨_, by rw [← hl, ← hsz]⟩, q⟩))
theorem v_lenD (B : Blt X.mg) (ho : VE X T o (pD X.w k r) σ H (is kvs)) (hg : Gl X "len" := by rfl) (he : starEach [o] X.env = (false, eval o X.env) :: starEach [] X.env := by rfl) : VE X T (.Call (.Name "len" p) [o] [] pos) pN σ H (is kvs.length) :=
  ve_of (pe_callB (call_lenN (k := k) (r := r)) hg (B _ (by decide)) boot_len (pa_cons pe_o pa_nil he) (by decide) (by decide) he rfl) fun H1 e1 Q kk => ho H1 e1 _ fun v kv H2 e2 ⟨d, ev, hd⟩ pd =>
    ⟨v, d, kvs, rfl, ev, by rw [← show kv = kvs from pd]; exact hd, kk _ _ H2 e2 rfl rfl⟩
/-- {k: v} -/
theorem n_store {pins : List (Addr × Obj)} {s : Shared} {E : Value → Shared → Prop} {Q : Unit → Shared → Prop} {vk y : V} {u u' : Value} (ir : Imm r) (hu : X.A.units + 9 < cLine) (I : Inv X pins σ H s) (h : dictAt X.w k r H d kvs) (hk : k.p.rel H vk x) (ru : RelV vk u) {b : β} (hb : r.rel H y b) (ry : RelV y u') (hz : kvs.length < sizeLine)
    (q : ∀ H' o s', Inv X pins σ H' s' → H' = upd H d o → Soft o → dictAt X.w k r H' d (putA kvs x b) → Q () s') : wpAny (model X.prog X.w) X.A (dictSet d u u') Q E s := by
  obtain ⟨ks, xs, h1, h2, h3, dd, hs, hl, hz'⟩ := n_open I h
  obtain ⟨ad, rfl, rfl, hi⟩ := key_is I hk ru
  refine wpAny_dictSet_heap (knd := nestedKind X.prog X.w) (hsz := hz') (show X.A.units + 8 < cLine by omega) hi dd fun h' dd' sb => ?_
  have te : TupE H (L2.upd H d (rawD X.w d (putN ks (k.key x) ad y))) := TupE.upd h1 (Soft.dic _ _ _).ntup
  have he : ∃ o, h'.get? d = some o := let ⟨o, _, _, ho, _⟩ := dd'; ⟨o, ho⟩
  have hl2 : (storedH xs (k.key x) ad u').length ≤ sizeLine := by
    unfold storedH
    split
    · rw [List.length_map]
      exact hz'
    · rw [List.length_append]
      show xs.length + 1 ≤ sizeLine
      omega
  exact q _ _ _ (d_write I (by rw [h1]; exact True.intro) sb he (raw_ok (sameK_put ry h3) dd' hs hl2)) rfl (.dic _ _ _) ⟨_, upd_same, n3_put ir te (k.imm te hk) (ir te hb) h2⟩
def tDisp1 (w : World) (k : KRp α) (r : Rp β) (tk tv : TE) : TE := fun σ H Q => ∀ d, H d = none → tk σ (upd H d (rawD w d [])) fun y H2 => tv σ H2 fun z H3 => ∃ a b, dictAt w k r H3 d [] ∧ k.p.rel H3 y a ∧ r.rel H3 z b ∧ ∀ H4 u, H4 = upd H3 d u → dictAt w k r H4 d [(a, b)] → Q (.ref d) H4
theorem pe_disp1 {kx vx : Expr} {tk tv : TE} (ir : Imm r) (hu : X.A.units + 9 < cLine) (hk : PE X kx tk) (hv : PE X vx tv) : PE X (.Dict [some kx] [vx] pos) (tDisp1 X.w k r tk tv) := by
  refine ⟨fun pins s σ H Q I h => ?_⟩
  have hn := I.hok.fresh (Nat.le_refl s.heap.objs.size)
  have I1 := I.laid (a := s.heap.objs.size) (o := rawD X.w s.heap.objs.size []) (h' := s.heap.push { cls := .type "dict", data := .dict #[] }) (t' := s.toks) (fun _ _ q => Heap.get?_push_of_some _ q) (Nat.le_refl _) (n_empty s.heap I.big)
  refine wpAny_Dict_any rfl rfl (by simp) (by show 1 ≤ 15; decide) (pairTrees_cons_walk (thn (hk.run pins _ σ _ _ I1 (h _ hn)) fun u s1 ⟨y, H2, I2, ry, q2⟩ => thn (hv.run pins s1 σ H2 _ I2 q2) fun u2 s2 ⟨z, H3, I3, rz, a, b, hd, ha, hb, q3⟩ => pairTrees_nil_walk ?_))
  unfold storeAll
  rw [List.forIn_cons]
  refine wpAny_bind (wpAny_bind (n_store ir hu I3 hd ha ry hb rz (by show 0 < sizeLine; decide) fun H4 o s' I4 e4 so hd4 => wpAny_pure ?_))
  show wpAny _ _ (forIn ([] : List (Value × Value)) PUnit.unit _) _ _ _
  rw [List.forIn_nil]
  exact wpAny_pure ⟨.ref s.heap.objs.size, H4, I4, rfl, q3 H4 o e4 hd4⟩
theorem v_disp1 {kx vx : Expr} (ir : Imm r) (hu : X.A.units + 9 < cLine) (hk : VE X T kx k.p σ H (is x)) (hv : VE X T vx r σ H (is y)) : VF X T (.Dict [some kx] [vx] pos) (pD X.w k r) σ H (is [(x, y)]) :=
  vf_of (pe_disp1 (k := k) (r := r) ir hu pe_o pe_o) fun H1 e1 Q kk d hn => hk _ (e1.trans (Ex.new e1.2 hn)) _ fun v x1 H2 e2 rv px => hv H2 ((e1.trans (Ex.new e1.2 hn)).trans e2) _ fun u y1 H3 e3 ru py => by
    have h0 : dictAt X.w k r (upd H1 d (rawD X.w d [])) d [] := ⟨[], upd_same, .nil⟩
    have h3 : dictAt X.w k r H3 d [] := (h0.ext e2.1).ext e3.1
    refine ⟨x, y, h3, k.p.mono e3.1 (by rw [← show x1 = x from px]; exact rv), by rw [← show y1 = y from py]; exact ru, fun H4 w e4 hd4 => ?_⟩
    subst e4
    obtain ⟨o, ho, so⟩ := h3.soft
    exact kk d _ _ (((Ex.new e1.2 hn).trans (e2.trans e3)).mut (Fr0.of_none hn) ho so) (Fr0.of_none hn) ⟨d, rfl, hd4⟩ rfl
end
end LT
/-! ## LtDcomp -/
set_option Elab.async false
set_option linter.all false
set_option maxRecDepth 100000
set_option maxHeartbeats 4000000
namespace LT
open PySem PySem.W PySem.Spec PyProof.Rows L2 LamX

/-! ### {k: v for target in iter}, the keys nested tuples -/
section
variable {α β γ : Type} [DecidableEq α] {X : Cx} {T : List (Addr × Str)} {k : KRp α} {r : Rp β} {q : Rp γ} {σ : L2.St} {H : Hp} {kx vx tg iter : Expr} {scope : Scope} {own : List (Str × Nat)} {pos p pos' : Pos} {wi : TI} {g : TG} {tk tv : TE}
def tDcN (w : World) (k : KRp α) (r : Rp β) (wi : TI) (g : TG) (tk tv : TE) (vs : List Nat) : TE := fun σ H Q => wi σ H fun J H1 => ∀ D, H1 D = none → ∃ W : Nat → Nat → Hp → Prop, (∃ m, W 0 m (upd H1 D (rawD w D []))) ∧ ∀ i m H, W i m H →
  (J.stop i H ∧ Q (.ref D) H) ∨ (J.go i H ∧ ∃ Nx : Hp → Prop, (∀ H', Nx H' → ∃ m', m' < m ∧ W (i + 1) m' H') ∧ ∀ x H', J.yld i H x H' → g x (wipe σ vs) H' fun σ2 H2 => wipe σ2 vs = wipe σ vs ∧ tk σ2 H2 fun y H4 => tv σ2 H4 fun z H5 =>
    ∃ kvs a b, dictAt w k r H5 D kvs ∧ k.p.rel H5 y a ∧ r.rel H5 z b ∧ kvs.length < sizeLine ∧ ∀ H6 u, H6 = upd H5 D u → Soft u → dictAt w k r H6 D (putA kvs a b) → Nx H6)
theorem pe_dcN (ir : Imm r) (hu : X.A.units + 9 < cLine) (hc : X.calm = true) (hN : X.N.Nodup) (hi : PI X tg iter wi) (ok : BlkOk X.N X.env.scope scope own) (hg : TgS X scope tg g)
    (hk : ∀ (s : Shared) (H : Hp) (C : Addr) (cl : List (Str × Addr)) (fp : List Addr), PE (X.blk s H scope (compEnvC scope cl C X.env) fp) kx tk)
    (he : ∀ (s : Shared) (H : Hp) (C : Addr) (cl : List (Str × Addr)) (fp : List Addr), PE (X.blk s H scope (compEnvC scope cl C X.env) fp) vx tv) (hs : ∀ x, foldedSetIterable iter X.env x = pure x) :
    PE X (.DictComp kx vx [⟨tg, iter, [], 0⟩] scope pos) (tDcN X.w k r wi g tk tv (own.map (·.2))) := by
  refine ⟨fun pins s σ H Q I h => ?_⟩
  rw [arm_eval_DictComp]
  have hfree : ∀ y ∈ scope.names, y.2 = .free → ∃ c, X.env.cells.lookup y.1 = some c := fun y hy e => (ok.free y hy e).elim (fun z => I.ok.has _ (.inl z)) fun z => I.ok.has _ (.inr z)
  refine wpAny_comprehension_free (use := none) rfl hs (closure_ok hfree) ok.kind (fun y hy e => by rw [ok.uniq y hy, e]) (thn (hi.run pins s σ H _ I h) fun xv s1 hx => thn hx fun itv s2 h2 => ?_)
  obtain ⟨it, fp, tn, J, H2, rfl, I2, Tn, st2, f2, hq⟩ := h2
  refine wpAny_newObj_type (newEnv_comp ?_)
  obtain ⟨D, hD⟩ : ∃ D, s2.heap.objs.size = D := ⟨_, rfl⟩
  rw [hD]
  have hDn : H2 D = none := I2.hok.fresh (Nat.le_of_eq hD)
  obtain ⟨W, ⟨m0, w0⟩, turn⟩ := hq D hDn
  obtain ⟨s3, hs3⟩ : ∃ s3 : Shared, { s2 with heap := s2.heap.push { cls := .type "dict", data := .dict #[] } } = s3 := ⟨_, rfl⟩
  have h3 : s3.heap = s2.heap.push { cls := .type "dict", data := .dict #[] } := by rw [← hs3]
  have I3 : Inv X pins σ (upd H2 D (rawD X.w D [])) s3 := by
    rw [← hs3]
    refine I2.laid (t' := s2.toks) (fun b o e => Heap.get?_push_of_some _ e) (Nat.le_of_eq hD) ?_
    rw [← hD]
    exact n_empty s2.heap I2.big
  have f3 : ∀ b ∈ fp, FpOk X pins (upd H2 D (rawD X.w D [])) b ∧ b < s3.heap.objs.size := fun b hb => by
    obtain ⟨o, e, _⟩ := Tn.obj _ _ st2 b hb
    have lt := Heap.lt_size e
    refine ⟨⟨?_, (f2 b hb).2⟩, by rw [h3, Heap.size_push]; exact Nat.lt_succ_of_lt lt⟩
    rw [upd_ne (by rw [← hD]; exact Nat.ne_of_lt lt)]
    exact (f2 b hb).1
  have st3 : tn 0 s3.heap := Tn.keep _ _ _ st2 fun b _ o e => by rw [h3]; exact Heap.get?_push_of_some _ e
  have I4 := block_start I3 ok hN f3
  have pg := hg s3 (upd H2 D (rawD X.w D [])) s3.heap.objs.size (cellsFrom (s3.heap.objs.size + 1) scope.names (cloFrom X.env.cells scope.names [])) fp
  have pk := hk s3 (upd H2 D (rawD X.w D [])) s3.heap.objs.size (cellsFrom (s3.heap.objs.size + 1) scope.names (cloFrom X.env.cells scope.names [])) fp
  have pe := he s3 (upd H2 D (rawD X.w D [])) s3.heap.objs.size (cellsFrom (s3.heap.objs.size + 1) scope.names (cloFrom X.env.cells scope.names [])) fp
  have hs3' : { s2 with heap := s2.heap.push { cls := .type "dict", data := .dict #[] } } = s3 := hs3
  first
    | rw [hs3']
    | simp only [hs3']
    | skip
  show codeAny _ _ (.compStart (.DictComp kx vx [⟨tg, iter, [], 0⟩] scope pos) 0 (.ref it) (.ref D) (compEnvC scope (cellsFrom (s3.heap.objs.size + 1) scope.names (cloFrom X.env.cells scope.names [])) s3.heap.objs.size X.env)) _ { s3 with heap := pushCells (s3.heap.push { cls := .type "dict", data := .dict #[] }) scope.names }
  have nfp : ∀ b ∈ fp, (upd H2 D (rawD X.w D [])) b = none := fun b hb => (f3 b hb).1.1
  generalize hce : compEnvC scope (cellsFrom (s3.heap.objs.size + 1) scope.names (cloFrom X.env.cells scope.names [])) s3.heap.objs.size X.env = ce at I4 pg pk pe ⊢
  have cL : ce.locals = s3.heap.objs.size := by subst hce; rfl
  generalize hH3 : upd H2 D (rawD X.w D []) = H3 at I3 I4 pg pk pe w0 nfp f3
  generalize hs4 : ({ s3 with heap := pushCells (s3.heap.push { cls := .type "dict", data := .dict #[] }) scope.names } : Shared) = s4 at I4 ⊢
  have st4 : tn 0 s4.heap := Tn.keep _ _ _ st3 fun b _ o e => by rw [← hs4]; exact pushCells_keeps _ _ _ _ (Heap.get?_push_of_some _ e)
  have stat : ∀ {σ' : L2.St} {H' : Hp} {s' : Shared}, Inv (X.blk s3 H3 scope ce fp) [] σ' H' s' → (∀ b ∈ fp, H' b = none) → ∀ b ∈ fp, FpOk (X.blk s3 H3 scope ce fp) [] H' b := fun {σ' H' s'} I' hn b hb =>
    ⟨hn b hb, (I'.ok.exf b hb).1, I'.ok.exfs b hb, .inl hb, fun x c e => (I'.ok.exf b hb).2 x c e, fun p hp => absurd (show p ∈ ([] : List (Addr × Obj)) ++ [] from hp) (by simp)⟩
  refine (fun loop => codeAny_compStart_dict loop (Tn.self X.A 0 _ _ _ st4 loop)) ?_
  refine compLoop_anyD (fun n s' => ∃ i H', Inv (X.blk s3 H3 scope ce fp) [] (wipe σ (own.map (·.2))) H' s' ∧ tn i s'.heap ∧ (∀ b ∈ fp, H' b = none) ∧ W i n H') ?_ m0 ⟨0, H3, I4, st4, nfp, w0⟩
  rintro n s5 ⟨i, H5, I5, st5, n5, w5⟩
  rcases turn i n H5 w5 with ⟨stop, qq⟩ | ⟨go, Nx, hNx, step⟩
  · refine thnF (Tn.done (X.blk s3 H3 scope ce fp) rfl rfl rfl hc i [] s5 _ H5 (fun _ _ => False) I5 (stat I5 n5) st5 stop) fun rr s6 ⟨hr, I6⟩ => ?_
    subst hr
    have I7 : Inv X pins σ H5 s6 := I3.call' (ch := fp) I6.os I6.base I6.hok I6.bare fun b hb => ⟨(f3 b hb).1.2.2.2.1, (f3 b hb).1.2.1, (f3 b hb).1.2.2.2.2.1, (f3 b hb).1.2.2.2.2.2⟩
    have nC : H5 s3.heap.objs.size = none := by
      have z : H5 ce.locals = none := I6.free
      rwa [cL] at z
    obtain ⟨m, hn, _⟩ := I6.loc
    have hn : s6.heap.Ns ce.locals m := hn
    rw [cL] at hn
    obtain ⟨f0, f1, f2', f3', f4, f5⟩ := I3.fpOk (Nat.le_refl _) nC
    exact ⟨m, hn, fun h'' sb => ⟨.ref D, H5, I7.turned (t' := s6.toks) (fun b o hb e => (sb.2 b hb).trans e) f0 f1 f3' f4 f5, rfl, qq⟩⟩
  · refine thnF (Tn.item (X.blk s3 H3 scope ce fp) rfl rfl rfl hc i [] s5 _ H5 (fun _ _ => False) I5 (stat I5 n5) st5 go) fun rr s6 ⟨u, hr, h6⟩ => ?_
    subst hr
    refine thnF h6 fun _ s7 ⟨x, H7, I7, r7, y7, st7, n7⟩ => ?_
    have I7' := I7.pinned (stat I7 n7) (Tn.obj _ _ st7)
    refine thnF (pg.run _ s7 _ H7 x u _ I7' r7 (step x H7 y7)) fun _ s8 ⟨σ8, H8, I8, hw8, q8⟩ => ?_
    refine wpAny_tests_nil ?_
    rw [if_pos rfl]
    refine thnF (pk.run _ s8 σ8 H8 _ I8 q8) fun z s9 ⟨yk, H9, I9, r9, q9⟩ => ?_
    refine thnF (pe.run _ s9 σ8 H9 _ I9 q9) fun z2 s10 ⟨yv, H10, I10, r10, kvs, a, b, hd, ha, hb, hz, nx⟩ => ?_
    refine n_store (X := X.blk s3 H3 scope ce fp) ir hu I10 hd ha r9 hb r10 hz fun H11 o s11 I11 e11 so hd11 => ?_
    obtain ⟨m', hm, w'⟩ := hNx H11 (nx H11 o e11 so hd11)
    have pin' : ∀ b ∈ fp, ∀ o, s7.heap.get? b = some o → s11.heap.get? b = some o ∧ H11 b = none := fun b hb o e =>
      let z := I11.pin (b, o) (List.mem_append_right _ (List.mem_append_right _ (mem_pinsAt hb e)))
      ⟨z.1, z.2.1⟩
    have hl : (wipe σ (own.map (·.2))).length = σ8.length := by rw [← hw8, wipe_length]
    refine ⟨m', hm, i + 1, H11, (I11.unpinned (pins := [])).weak hl (fun j v e => ?_), Tn.keep _ _ _ st7 fun b hb o e => (pin' b hb o e).1, fun b hb => ?_, w'⟩
    · rw [← hw8] at e
      exact (wipe_some e).1
    · obtain ⟨o, e, _⟩ := Tn.obj _ _ st7 b hb
      exact (pin' b hb o e).2
theorem foldPut_len {δ : Type} {kf : δ → α} {vf : δ → β} : ∀ (xs : List δ) (acc : List (α × β)), (xs.foldl (fun acc x => putA acc (kf x) (vf x)) acc).length ≤ acc.length + xs.length
  | [], acc => by simp
  | x :: xs, acc => by
    rw [List.foldl_cons, List.length_cons]
    have h1 := foldPut_len (kf := kf) (vf := vf) xs (putA acc (kf x) (vf x))
    have h2 := put_len acc (kf x) (vf x)
    omega
theorem foldPut_keys {δ : Type} {kf : δ → α} {vf : δ → β} : ∀ (xs : List δ) (acc : List (α × β)), (xs.foldl (fun acc x => putA acc (kf x) (vf x)) acc).map (·.1) = (xs.map kf).foldl (fun acc a => if a ∈ acc then acc else acc ++ [a]) (acc.map (·.1))
  | [], acc => rfl
  | x :: xs, acc => by
    rw [List.foldl_cons, foldPut_keys xs, List.map_cons, List.foldl_cons, put_keys]
theorem ev_dcN {w : World} {xs : List γ} {kf : γ → α} {vf : γ → β} {vs : List Nat} {O : Option (Addr × HO) → Prop} (ir : Imm r) (hi : Iv T q wi σ H (is xs) O) (hz : xs.length ≤ sizeLine)
    (hb : ∀ x, x ∈ xs → ∀ H1 v, Ex T H H1 → q.rel H1 v x → ∃ σ2, Bnd g v (wipe σ vs) H1 σ2 ∧ wipe σ2 vs = wipe σ vs ∧ Ev T k.p tk σ2 H1 (is (kf x)) ∧ Ev T r tv σ2 H1 (is (vf x))) :
    Ev T (pD w k r) (tDcN w k r wi g tk tv vs) σ H (is (xs.foldl (fun acc x => putA acc (kf x) (vf x)) [])) := fun H1 e Q kk => hi H1 e _ fun J H2 xs' o px _ e2 so it D hD => by
  obtain rfl : xs' = xs := px
  have t2 : Tabs T H2 := e2.2
  have fr : Fr0 H2 D := Fr0.of_none hD
  refine ⟨fun i m H' => m = xs'.length - i ∧ i ≤ xs'.length ∧ Ex T H2 H' ∧ dictAt w k r H' D ((xs'.take i).foldl (fun acc x => putA acc (kf x) (vf x)) []), ⟨_, rfl, Nat.zero_le _, Ex.new t2 hD, [], upd_same, .nil⟩, ?_⟩
  rintro i m H' ⟨rfl, hi', e', hp⟩
  obtain ⟨g1, g2⟩ := it H' (gd_ext so e'.1) e'.2 i
  by_cases hlt : i < xs'.length
  · obtain ⟨go, yl⟩ := g1 hlt
    refine .inr ⟨go, fun H'' => (Ex T H2 H'' ∧ dictAt w k r H'' D ((xs'.take (i + 1)).foldl (fun acc x => putA acc (kf x) (vf x)) [])), fun H'' q => ⟨xs'.length - (i + 1), by omega, rfl, hlt, q⟩, fun v H4 hy => ?_⟩
    obtain ⟨e4, x, hx, rx⟩ := yl v H4 hy
    have e04 : Ex T H H4 := (e.trans e2).trans (e'.trans e4)
    obtain ⟨σ2, hbn, hw, htk, htv⟩ := hb x (List.mem_of_getElem? hx) H4 v e04 rx
    refine hbn _ ⟨hw, htk H4 e4.here _ fun y a H5 e5 ry pa => htv H5 e5 _ fun z b H6 e6 rz pb => ?_⟩
    have e36 : Ex T H' H6 := e4.trans (e5.trans e6)
    have h6 := hp.ext e36.1
    refine ⟨_, kf x, vf x, h6, k.p.mono e6.1 (by rw [← show a = kf x from pa]; exact ry), by rw [← show b = vf x from pb]; exact rz, ?_, fun H7 u e7 su hd7 => ?_⟩
    · have h1 := foldPut_len (kf := kf) (vf := vf) (xs'.take i) []
      have h3 : (xs'.take i).length ≤ i := List.length_take_le ..
      rw [List.length_nil] at h1
      omega
    · subst e7
      obtain ⟨o', ho', so'⟩ := h6.soft
      refine ⟨(e'.trans e36).mut fr ho' so', ?_⟩
      rw [List.take_add_one, hx, Option.toList_some, List.foldl_append]
      exact hd7
  · have ei : i = xs'.length := by omega
    subst ei
    refine .inl ⟨g2 (Nat.le_refl _), ?_⟩
    rw [List.take_length] at hp
    exact kk _ _ H' (e2.trans e') ⟨D, rfl, hp⟩ rfl
/-- {key: value for y, z in iter} -/
theorem v_dcP {δ : Type} {qq : Rp δ} {xs : List (γ × δ)} {kf : γ × δ → α} {vf : γ × δ → β} {y z : Str} {kn : Nat} {p1 p2 : Pos} {O : Option (Addr × HO) → Prop} (own : List (Str × Nat)) (i j : Nat) (ir : Imm r) (hu : X.A.units + 9 < cLine) (hc : X.calm = true) (hN : X.N.Nodup) (ok : BlkOk X.N X.env.scope scope own)
    (hg : TgS X scope (.Tuple [.Name y p1, .Name z p2] kn p) (gTup X.K 2 (gCons (gName i) (gCons (gName j) gNil)))) (hi : VI X T (.Tuple [.Name y p1, .Name z p2] kn p) iter (pPair q qq) σ H (is xs) O) (hz : xs.length ≤ sizeLine)
    (hw : ∀ v w, wipe (((wipe σ (own.map (·.2))).set i (some v)).set j (some w)) (own.map (·.2)) = wipe σ (own.map (·.2)))
    (hb : ∀ x, x ∈ xs → ∀ H1 v w, Ex T H H1 → q.rel H1 v x.1 → qq.rel H1 w x.2 → ∀ Y, IsBlk X scope Y → VE Y T kx k.p (((wipe σ (own.map (·.2))).set i (some v)).set j (some w)) H1 (is (kf x)) ∧ VE Y T vx r (((wipe σ (own.map (·.2))).set i (some v)).set j (some w)) H1 (is (vf x)))
    (hs : ∀ x, foldedSetIterable iter X.env x = pure x := by intro _; rfl) : VE X T (.DictComp kx vx [⟨.Tuple [.Name y p1, .Name z p2] kn p, iter, [], 0⟩] scope pos) (pD X.w k r) σ H (is (xs.foldl (fun acc x => putA acc (kf x) (vf x)) [])) :=
  ve_of (pe_dcN (k := k) (r := r) ir hu hc hN pi_o ok hg (tk := oEB X scope kx) (tv := oEB X scope vx) (fun s H C cl fp => ⟨fun pins s1 σ H Q I z => z _ ⟨s, _, C, cl, fp, rfl⟩ pins s1 I⟩) (fun s H C cl fp => ⟨fun pins s1 σ H Q I z => z _ ⟨s, _, C, cl, fp, rfl⟩ pins s1 I⟩) hs)
    (ev_dcN ir hi hz fun x hx H1 v e1 rl => by
      obtain ⟨u, w, ru, rw', hbn⟩ := bnd_pair (K := X.K) (i := i) (j := j) (σ := wipe σ (own.map (·.2))) rl
      exact ⟨_, hbn, hw u w, ev_blk fun Y hY => (hb x hx H1 u w e1 ru rw' Y hY).1, ev_blk fun Y hY => (hb x hx H1 u w e1 ru rw' Y hY).2⟩)
/-- [elt for y in iter], the items new lists -/
theorem lc_nF {δ : Type} {s : Rp δ} {elt : Expr} {xs : List γ} {f : γ → List δ} {y : Str} {O : Option (Addr × HO) → Prop} (own : List (Str × Nat)) (j : Nat) (im : Imm s) (hN : X.N.Nodup) (ok : BlkOk X.N X.env.scope scope own) (hg : TgS X scope (.Name y p) (gName j)) (hi : VI X T (.Name y p) iter q σ H (is xs) O) (hz : xs.length ≤ sizeLine)
    (hw : ∀ v, wipe ((wipe σ (own.map (·.2))).set j (some v)) (own.map (·.2)) = wipe σ (own.map (·.2)))
    (hb : ∀ x, x ∈ xs → ∀ H1 v, Ex T H H1 → q.rel H1 v x → ∀ Y, IsBlk X scope Y → VF Y T elt (pLst s) ((wipe σ (own.map (·.2))).set j (some v)) H1 (is (f x))) : LC X T elt (.Name y p) iter [] scope (pLst (pLst s)) σ H (is (xs.map f)) :=
  ⟨own, gName j, tYes, ok, hg, fun _ _ _ _ _ => pts_nil, ev_lcF (f := f) im hi hz (fun x hx H1 v e1 rl => ⟨_, bnd_name, hw v, et_yes, fun H2 e2 Q kk Y hY => hb x hx H1 v e1 rl Y hY H2 e2 Q kk⟩)⟩
end
end LT
/-! ## LtRevT -/
set_option Elab.async false
set_option linter.all false
set_option maxRecDepth 100000
set_option maxHeartbeats 4000000
namespace LT
open PySem PySem.W PySem.Spec PyProof.Rows L2 LamX

/-! ### t[::-1] of a tuple -/
section
variable {prog : Program} {w : World} {A : Around} {E : Value → Shared → Prop} {s : Shared}
theorem applied_rev {sl : Addr} {vs : Value} {n : Nat} {Q : Int × Int × Nat → Shared → Prop} (hs : s.heap.IsSliceOf sl .none .none vs) (ps : IsPart vs (some (-1)))
    (h : Q ((n : Int) - 1, -1, n) s) : wpAny (model prog w) A (Builtin.Slice.sliceApplied (.ref sl) (pure (n : Int))) Q E s := by
  obtain ⟨os, hos, hcs, hds⟩ := id hs
  unfold Builtin.Slice.sliceApplied Builtin.Slice.sliceFields
  refine wpAny_bind (wpAny_bind (wpAny_field hos hds (x := .none) rfl (wpAny_bind (wpAny_field hos hds (x := .none) rfl (wpAny_bind (wpAny_field hos hds (x := vs) rfl (wpAny_pure ?_)))))))
  refine wpAny_bind (HT.slicePart_ ps ?_)
  show wpAny _ _ (if ((-1 : Int) == 0) = true then _ else _) _ _ s
  rw [if_neg (by decide)]
  refine wpAny_bind (HT.slicePart_ .none (wpAny_bind (HT.slicePart_ .none (wpAny_bind (wpAny_pure ?_)))))
  show wpAny _ _ (pure ((n : Int) - 1, (-1 : Int), Builtin.Slice.slicePlaces ((n : Int) - 1) (-1) (-1))) _ _ s
  have e : Builtin.Slice.slicePlaces ((n : Int) - 1) (-1) (-1) = n := by
    unfold Builtin.Slice.slicePlaces
    rw [if_neg (by decide)]
    by_cases q : (n : Int) - 1 > -1
    · rw [if_pos q, show (-(-1) : Int) = 1 by decide, Int.ediv_one]
      omega
    · rw [if_neg q]
      omega
  rw [e]
  exact wpAny_pure h
theorem fm_congr {α β : Type} {f g : α → Option β} : ∀ {l : List α}, (∀ x ∈ l, f x = g x) → l.filterMap f = l.filterMap g
  | [], _ => rfl
  | a :: l, h => by
    rw [List.filterMap_cons, List.filterMap_cons, h a List.mem_cons_self, fm_congr fun x hx => h x (List.mem_cons_of_mem _ hx)]
theorem picked_rev (xs : Array Value) : ((List.range xs.size).filterMap fun (m : Nat) => xs[(((xs.size : Int) - 1) + (m : Int) * (-1)).toNat]?).toArray = xs.toList.reverse.toArray := by
  have e : ((List.range xs.size).filterMap fun (m : Nat) => xs[(((xs.size : Int) - 1) + (m : Int) * (-1)).toNat]?) = ((List.range xs.size).map fun k => xs.size - 1 - k).filterMap (xs[·]?) := by
    rw [List.filterMap_map]
    refine fm_congr fun k hk => ?_
    have := List.mem_range.mp hk
    show _ = xs[xs.size - 1 - k]?
    congr 1
    omega
  rw [e, krv_range, List.filterMap_reverse, krv_all]
theorem getItem_rev {t sl : Addr} {items : Array Value} {vs : Value} {Q : Value → Shared → Prop} (ht : IsTup s.heap t items) (hs : s.heap.IsSliceOf sl .none .none vs) (ps : IsPart vs (some (-1)))
    (h : Q (.ref s.heap.objs.size) { s with heap := s.heap.push { cls := .type "tuple", data := .seq items.toList.reverse.toArray } }) (hsz : items.size ≤ sizeLine) : wpAny (model prog w) A (getItem (.ref t) (.ref sl)) Q E s := by
  have htake : sizeOk (.seq items.toList.reverse.toArray) := by
    show items.toList.reverse.toArray.size ≤ sizeLine
    rw [List.size_toArray, List.length_reverse, Array.length_toList]
    exact hsz
  obtain ⟨os, hos, hcs, hds⟩ := id hs
  have hTs : s.TypeIs (.ref sl) "slice" := ⟨os, hos, hcs⟩
  unfold getItem
  try with_reducible refine wpAny_holding ?_
  first | refine wpAny_bind (wpAny_pure ?_) | skip
  refine wpAny_bind (wpAny_sequenceKey ht.typeIs (by decide) ?_)
  refine wpAny_bind (wpAny_callSpecial?_slot (name := Str.ofString "__getitem__") ht.typeIs PyProof.Rows.slot_tuple_getitem
    (wpAny_call_entry PyProof.Rows.slot_tuple_getitem ht.typeIs entry_tuple_getitem ?_ (args_tuple_getitem _ _)))
  show wpAny _ _ (Builtin.Tuple.tupleItemsOf (.ref t) >>= _) _ _ s
  refine wpAny_bind (tupleItemsOf_ ht ?_)
  refine wpAny_bind (wpAny_typeOf hTs ?_)
  rw [if_pos (by decide)]
  refine wpAny_bind (applied_rev hs ps ?_)
  have hno : ¬ ((((items.size : Int) - 1) == 0 && (-1 : Int) == 1 && items.size == items.size) = true) := by
    intro q
    rw [Bool.and_eq_true, Bool.and_eq_true] at q
    exact absurd q.1.2 (by decide)
  show wpAny _ _ (if (((items.size : Int) - 1) == 0 && (-1 : Int) == 1 && items.size == items.size) = true then _ else _) _ _ s
  rw [if_neg hno, picked_rev]
  first
    | exact wpAny_bind (m := Builtin.Tuple.tupleExact _) (wpAny_newObj_type (wpAny_pure ⟨_, rfl, wpAny_pure h⟩) htake)
    | exact wpAny_bind (m := Builtin.Tuple.tupleExact _) (wpAny_newObj_type (wpAny_bind (wpAny_pure (wpAny_pure ⟨_, rfl, wpAny_pure h⟩))) htake)
    | exact wpAny_bind (wpAny_bind (m := Builtin.Tuple.tupleExact _) (wpAny_newObj_type (wpAny_pure (wpAny_pure ⟨_, rfl, wpAny_pure h⟩)) htake))
    | exact wpAny_bind (wpAny_bind (m := Builtin.Tuple.tupleExact _) (wpAny_newObj_type (wpAny_pure ⟨_, rfl, wpAny_pure h⟩) htake))
end
section
variable {X : Cx}
def tRevT (K : PySem.W.Frag) (te : TE) : TE := fun σ H Q => te σ H fun x H1 => ∃ a xs, x = .ref a ∧ SqT K H1 a xs ∧ ∀ p, H1 p = none → Q (.ref p) (upd H1 p (.tup xs.reverse))
theorem pe_revT {e : Expr} {te : TE} {k : Nat} {p1 p2 p3 pos : Pos} (he : PE X e te) : PE X (.Subscript e (.Slice none none (some (.UnaryOp .USub (.Constant (.int 1) k p1) p2)) p3) pos) (tRevT X.K te) := by
  refine ⟨fun pins s σ H Q I h => ?_⟩
  refine Subscript_ (thn (he.run pins s σ H _ I h) fun v s1 ⟨x, H1, I1, r1, a, xs, ex, hx, q⟩ => ?_)
  subst ex
  cases r1
  have hst : PO X (some (.UnaryOp .USub (.Constant (.int 1) k p1) p2)) (tPart (tUn (rU fun i => .int (-i)) (tC (.int 1)))) := po_some (pe_un un_neg pe_int)
  refine wpAny_Slice ?_
  rw [evalPart_none]
  refine wpAny_pure (wpAny_pure ?_)
  refine thn (hst.run pins s1 σ H1 (fun o H4 => o = some (-1) ∧ H4 = H1) I1 ⟨1, rfl, -1, rfl, rfl, rfl⟩) fun vs s4 ⟨o, H4, I4, ps, eo, e4⟩ => ?_
  subst eo e4
  have I5 : Inv X pins σ H4 { s4 with heap := s4.heap.push { cls := .type "slice", data := .fields #[.none, .none, vs] } } := I4.kept (t' := s4.toks) fun b ob q => Heap.get?_push_of_some _ q
  obtain ⟨its, r, ht, hz⟩ := I5.tuple hx
  have hlen := r.length
  show wpAny (model X.prog X.w) X.A (subscriptTail e (.Slice none none (some (.UnaryOp .USub (.Constant (.int 1) k p1) p2)) p3) (.ref a) (.ref s4.heap.objs.size)) (EP X pins σ Q) X.xe { s4 with heap := s4.heap.push { cls := .type "slice", data := .fields #[.none, .none, vs] } }
  refine tail_any (ops := [.ref a, .ref s4.heap.objs.size]) ht.typeIs (PyProof.Rows.slot_tuple_getitem.lookup) ?_ (by with_unfolding_all rfl)
  refine getItem_rev ht (Heap.IsSliceOf.new _ .none .none vs) ps ?_ (by rw [List.size_toArray]; omega)
  refine ⟨.ref _, _, I5.laid (t' := s4.toks) (o := .tup xs.reverse) (fun b ob q => Heap.get?_push_of_some _ q) (Nat.le_refl _) ?_, rfl, q _ (I5.hok.fresh (Nat.le_refl _))⟩
  exact ⟨by rw [List.length_reverse]; exact hz, _, r.reverse, ⟨_, Heap.get?_push_size _ rfl, rfl, _, rfl⟩⟩
theorem v_revT {α : Type} {T : List (Addr × Str)} {a : Expr} {r : Rp α} {σ : L2.St} {H : Hp} {pos p1 p2 p3 : Pos} {xs : List α} {jj : Nat} (ha : VE X T a (pTup r) σ H (is xs)) : VE X T (.Subscript a (.Slice none none (some (.UnaryOp .USub (.Constant (.int 1) jj p1) p2)) p3) pos) (pTup r) σ H (is xs.reverse) :=
  ve_of (pe_revT pe_o) fun H1 e1 Q k => ha H1 e1 _ fun v z H2 e2 ⟨q, us, ev, h1, h2⟩ pz => by
    subst ev
    rw [show z = xs from pz] at h2
    exact ⟨q, us, rfl, sq_t h1, fun p hp => k _ _ _ (e2.trans (Ex.new e2.2 hp)) ⟨p, _, rfl, upd_same, Paired.rev (paired_imp (fun _ _ => r.mono (extn_new hp)) h2)⟩ rfl⟩
end
end LT
/-! ## LtModel -/
set_option Elab.async false
set_option linter.all false
set_option maxRecDepth 100000
set_option maxHeartbeats 4000000
namespace LT
open PySem PySem.W PySem.Spec PyProof.Rows L2 LamX

/-! ### the game, without a program -/
def over (a b : Row) : Bool := (a.zip b).all fun p => decide (p.2 ≤ p.1)
def odds2 (a b : Row) : Bool := !over a b && !over b a
def rowAt (t : Tbl) (i : Nat) : Row := t.getD i []
def oddsIn (t : Tbl) (i : Nat) : List (Nat × Nat) := ((List.range' (i + 1) (t.length - (i + 1))).filter fun j => odds2 (rowAt t i) (rowAt t j)).map fun j => (i, j)
def oddsOf (t : Tbl) : List (Nat × Nat) := (List.range t.length).flatMap (oddsIn t)
def rleq (a b : Row) : Bool := dataLe false encR a b
def tleq (a b : Tbl) : Bool := dataLe false encT a b
def crowdOf (t : Tbl) : Tbl := (t.mergeSort rleq).reverse
def high (a b : Row) : Row := (a.zip b).map fun p => max p.1 p.2
def lesser (a b : Row) : Row := (a.zip b).map fun p => min p.1 p.2
def laidAt (t : Tbl) (i j : Nat) (p : Nat × Row) : Row := if p.1 = i then high (rowAt t i) (rowAt t j) else if p.1 = j then lesser (rowAt t i) (rowAt t j) else p.2
def laid (t : Tbl) (i j : Nat) : Tbl := ((List.range t.length).zip t).map (laidAt t i j)
def nextAt (t : Tbl) (p : Nat × Nat) : Tbl := crowdOf (laid t p.1 p.2)
/-- the keys of a dict into which the items are put -/
def keysOf {α : Type} [DecidableEq α] (xs : List α) : List α := xs.foldl (fun acc a => if a ∈ acc then acc else acc ++ [a]) []
def nextsOf (t : Tbl) : List Tbl := (keysOf ((oddsOf t).map (nextAt t))).mergeSort tleq
def colOf (t : Tbl) (g : Nat) : List Int := t.map fun r => r.getD g 0
def sideOf (t : Tbl) (g : Nat) : List Int := ((colOf t g).mergeSort (dataLe false PyData.int)).reverse
def towerOf (t : Tbl) : Tbl := (List.range t.length).map fun i => (List.range (rowAt t 0).length).map fun g => (sideOf t g).getD i 0
/-- a table of the laws -/
def OkW (g : Nat) (t : Tbl) : Prop := t ≠ [] ∧ t.length ≤ 4 ∧ 1 ≤ g ∧ g ≤ 5 ∧ ∀ r ∈ t, r.length = g ∧ ∀ x ∈ r, 0 ≤ x ∧ x ≤ 99
def Ok (t : Tbl) : Prop := ∃ g, OkW g t
theorem OkW.row {g : Nat} {t : Tbl} (h : OkW g t) {i : Nat} (hi : i < t.length) : ∃ r, t[i]? = some r ∧ rowAt t i = r ∧ r ∈ t ∧ r.length = g := by
  have hm : t[i] ∈ t := List.getElem_mem hi
  refine ⟨t[i], List.getElem?_eq_getElem hi, ?_, hm, (h.2.2.2.2 _ hm).1⟩
  unfold rowAt
  rw [List.getD_eq_getElem?_getD, List.getElem?_eq_getElem hi]
  rfl
theorem OkW.pos {g : Nat} {t : Tbl} (h : OkW g t) : 0 < t.length := List.length_pos_iff.mpr h.1
theorem crowd_perm (t : Tbl) : (crowdOf t).Perm t := (List.reverse_perm _).trans (List.mergeSort_perm _ _)
theorem crowd_len (t : Tbl) : (crowdOf t).length = t.length := (crowd_perm t).length_eq
theorem OkW.perm {g : Nat} {t u : Tbl} (h : OkW g t) (p : u.Perm t) : OkW g u := by
  obtain ⟨h1, h2, h3, h4, h5⟩ := h
  refine ⟨fun e => h1 ?_, by rw [p.length_eq]; exact h2, h3, h4, fun r hr => h5 r (p.mem_iff.mp hr)⟩
  rw [e] at p
  exact (List.Perm.nil_eq p).symm
theorem OkW.crowd {g : Nat} {t : Tbl} (h : OkW g t) : OkW g (crowdOf t) := h.perm (crowd_perm t)
theorem laid_len (t : Tbl) (i j : Nat) : (laid t i j).length = t.length := by
  unfold laid
  simp
theorem hl_row {g : Nat} {a b : Row} (ha : a.length = g ∧ ∀ x ∈ a, 0 ≤ x ∧ x ≤ 99) (hb : b.length = g ∧ ∀ x ∈ b, 0 ≤ x ∧ x ≤ 99) (F : Int → Int → Int) (hF : ∀ x y, F x y = x ∨ F x y = y) :
    ((a.zip b).map fun p => F p.1 p.2).length = g ∧ ∀ x ∈ (a.zip b).map (fun p => F p.1 p.2), 0 ≤ x ∧ x ≤ 99 := by
  refine ⟨by rw [List.length_map, List.length_zip]; omega, fun x hx => ?_⟩
  obtain ⟨⟨u, v⟩, hm, rfl⟩ := List.mem_map.mp hx
  obtain ⟨h1, h2⟩ := List.of_mem_zip hm
  rcases hF u v with e | e
  · simp only [e]; exact ha.2 u h1
  · simp only [e]; exact hb.2 v h2
theorem OkW.laid {g : Nat} {t : Tbl} {i j : Nat} (h : OkW g t) (hi : i < t.length) (hj : j < t.length) : OkW g (laid t i j) := by
  have hl := laid_len t i j
  obtain ⟨h1, h2, h3, h4, h5⟩ := id h
  refine ⟨fun e => h1 ?_, by rw [hl]; exact h2, h3, h4, fun r hr => ?_⟩
  · rw [e] at hl
    exact List.length_eq_zero_iff.mp hl.symm
  · obtain ⟨⟨n, row⟩, hm, rfl⟩ := List.mem_map.mp hr
    obtain ⟨ra, _, ea, ma, _⟩ := h.row hi
    obtain ⟨rb, _, eb, mb, _⟩ := h.row hj
    unfold laidAt high lesser
    rw [ea, eb]
    simp only
    split
    · exact hl_row (h5 _ ma) (h5 _ mb) max fun x y => by omega
    · split
      · exact hl_row (h5 _ ma) (h5 _ mb) min fun x y => by omega
      · exact h5 _ (List.of_mem_zip hm).2
theorem OkW.next {g : Nat} {t : Tbl} {p : Nat × Nat} (h : OkW g t) (hi : p.1 < t.length) (hj : p.2 < t.length) : OkW g (nextAt t p) := (h.laid hi hj).crowd
end LT
/-! ## LtD1 -/
set_option Elab.async false
set_option linter.all false
set_option maxRecDepth 100000
set_option maxHeartbeats 4000000
namespace LT
open PySem PySem.Spec PyProof.Rows L2 LamX

section
variable {P : Program} {w : World} {K : PySem.W.Frag} {mg : Str → Option Value} {base : Heap} {T : List (Addr × Str)} {f : Addr} {fd : FuncData} {k : Nat}
/-- a def's rule -/
theorem fn_ok {x : Str} {st : Stmt} {N ps : List Str} {α β : Type} {ra : RpA α} {pre : α → Prop} {r : Rp β} {Pc : α → β → Prop} (F : FnP K x st f fd) (S : FnScope N ps (defScope st)) (len : ∀ H vs (y : α), ra.rel H vs y → vs.length = ps.length)
    (hbody : ∀ (cdv : Value) (A : Around) (outer : List Env) (s : Shared) (H : Hp) (vs : List V) (Q : VK) (E : XK) (y : α), Room k (A.deeper (envOfC x (defScope st) s.heap.objs.size f cdv)) → ra.rel H vs y → pre y → Tabs T H →
      (∀ u z H2, Ex T H H2 → r.rel H2 u z → Pc y z → Q u H2) → oSs (cxOf CX0 P w K mg base N x (defScope st) f cdv A outer s H E).nox (defBody st) { nx := fun _ H' => Q .non H', rt := Q } (start N vs) H) :
    FnOk P w K mg base CX0 (k + 1) f fd ps (SpG T ra pre r Pc) :=
  FunD.ok F S (fun vs H Q E ⟨y, h, _⟩ => len H vs y h) fun cdv A outer s H vs Q E hr ⟨y, h1, h2, h3, h4⟩ => ⟨_, pss_o.nox, hbody cdv A outer s H vs Q E y hr h1 h2 h3 h4⟩
theorem cal_of {x : Str} {st : Stmt} {ps : List Str} {sp : Sp} (F : FnP K x st f fd) (hm : mg x = some (.ref f)) (ok : FnOk P w K mg base CX0 k f fd ps sp)
    (hb : ∀ (kV doc pm : Value) (an : Option Addr) (cdv ct : Value) (us : List Value), us.length = ps.length → bindArgs (PySem.W.fnOf x x (defArgs st) (defBody st) (defScope st) .none kV doc pm an cdv ct) ⟨us, []⟩ = pure (ps.zip us)) : Cal P w K mg base x ps k sp :=
  ⟨f, fd, ok, hm, F.kp, FunD.bindsN F hb⟩
theorem len1 {α : Type} {r : Rp α} (H : Hp) (vs : List V) (y : α × Unit) (h : (a1 r).rel H vs y) : vs.length = 1 := by
  obtain ⟨v, ws, rfl, _, h⟩ := h
  rw [show ws = [] from h]
  rfl
theorem len2 {α β : Type} {r : Rp α} {s : Rp β} (H : Hp) (vs : List V) (y : α × β × Unit) (h : (a2 r s).rel H vs y) : vs.length = 2 := by
  obtain ⟨v, ws, rfl, _, h⟩ := h
  rw [List.length_cons, len1 H ws _ h]
theorem len3 {α β γ : Type} {r : Rp α} {s : Rp β} {q : Rp γ} (H : Hp) (vs : List V) (y : α × β × γ × Unit) (h : (a3 r s q).rel H vs y) : vs.length = 3 := by
  obtain ⟨v, ws, rfl, _, h⟩ := h
  rw [List.length_cons, len2 H ws _ h]
theorem len4 {α β γ δ : Type} {r : Rp α} {s : Rp β} {q : Rp γ} {u : Rp δ} (H : Hp) (vs : List V) (y : α × β × γ × δ × Unit) (h : (aC r (a3 s q u)).rel H vs y) : vs.length = 4 := by
  obtain ⟨v, ws, rfl, _, h⟩ := h
  rw [List.length_cons, len3 H ws _ h]
end
abbrev SpT {γ β : Type} (T : List (Addr × Str)) (ra : RpA γ) (pre : γ → Prop) (r : Rp β) (P : γ → β → Prop) : Sp := SpG T ra pre r P

section
variable {P : Program} {w : World} {K : PySem.W.Frag} {mg : Str → Option Value} {base : Heap} {T : List (Addr × Str)} {f : Addr} {fd : FuncData} {k : Nat}
theorem v_cl {α β : Type} {X : Cx} {e : Expr} {es : List Expr} {r : Rp α} {ra : RpA β} {σ : L2.St} {H : Hp} {y : β} {P' : α → Prop} {pos p : Pos} {z : Str} {ps : List Str} {j : Nat} {pre : β → Prop} {Pc : β → α → Prop} (C : Cal X.prog X.w X.K X.mg X.base z ps j (SpG T ra pre r Pc)) (hr : Room j X.A)
    (ha : VA X T (e :: es) ra σ H (is y)) (hp : pre y) (im : ∀ a, Pc y a → P' a) (hg : Gl X z := by rfl) (hdb : (z == ("__debug__" : Str)) = false := by decide) (he : starEach (e :: es) X.env = (false, eval e X.env) :: starEach es X.env := by rfl)
    (hpl : (backTo pos (starEach es X.env)).any (·.1) = false := by rfl) : VE X T (.Call (.Name z p) (e :: es) [] pos) r σ H P' := (v_call C hr ha hp hg hdb he hpl).imp im
/-! the promises -/
abbrev pWhole (T : List (Addr × Str)) : Sp := SpG T (a1 pI) (fun _ => True) pB (fun _ b => b = true)
abbrev pWithin (T : List (Addr × Str)) : Sp := SpG T (a3 pI pI pI) (fun y => y.2.1 ≤ y.1 ∧ y.1 ≤ y.2.2.1) pB (fun _ b => b = true)
abbrev pNeedNumber (T : List (Addr × Str)) : Sp := SpG T (a3 pI pI pI) (fun y => y.2.1 ≤ y.1 ∧ y.1 ≤ y.2.2.1) pU (fun _ _ => True)
abbrev pTupleOf {α : Type} (r : Rp α) (T : List (Addr × Str)) : Sp := SpG T (a3 (pTup r) pI pI) (fun y => y.2.1 ≤ y.1.length ∧ (y.1.length : Int) ≤ y.2.2.1) pB (fun _ b => b = true)
abbrev pIsRow (T : List (Addr × Str)) : Sp := SpG T (a2 pR pN) (fun y => y.1.length = y.2.1 ∧ y.1.length ≤ 1000 ∧ ∀ x ∈ y.1, 0 ≤ x ∧ x ≤ 99) pB (fun _ b => b = true)
theorem scWhole : FnScope ["value"] ["value"] (defScope s_whole) := ⟨rfl, rfl, rfl, by decide +kernel, rfl, by decide +kernel, by decide +kernel⟩
theorem f_whole (B : Blt mg) (F : FnP K "whole" s_whole f fd) : FnOk P w K mg base CX0 (k + 1) f fd ["value"] (pWhole T) := by
  refine fn_ok F scWhole len1 fun cdv A outer s H vs Q E y hr ⟨v, ws, ev, h1, h2⟩ _ hT k => ?_
  obtain rfl : ws = [] := h2
  subst ev
  exact s_cons (s_ret hT (r := pB) (P := is true) (v_and (bx := true) (bz := true) (v_isi B (by decide) PyProof.Rows.boot_int (v_v 0 h1) (fun H v x h _ => tyI h) (by decide +kernel)) fun _ => v_one (v_not (bx := false) (v_isi B (by decide) PyProof.Rows.boot_bool (v_v 0 h1) (fun H v x h _ => tyI h) (by decide +kernel)))) k)
theorem scWithin : FnScope ["value", "low", "high"] ["value", "low", "high"] (defScope s_within) := ⟨rfl, rfl, rfl, by decide +kernel, rfl, by decide +kernel, by decide +kernel⟩
theorem f_within {j : Nat} (C : Cal P w K mg base "whole" ["value"] j (pWhole T)) (hj : j ≤ k) (F : FnP K "within" s_within f fd) : FnOk P w K mg base CX0 (k + 1) f fd ["value", "low", "high"] (pWithin T) := by
  refine fn_ok F scWithin len3 fun cdv A outer s H vs Q E ⟨x, l, h, _⟩ hr ⟨v, ws, ev, h1, v2, ws2, e2, h2, v3, ws3, e3, h3, h4⟩ ⟨hp1, hp2⟩ hT k => ?_
  obtain rfl : ws3 = [] := h4
  subst ev e2 e3
  refine s_cons (s_ret hT (r := pB) (P := is true) (v_and (bx := true) (bz := true) (v_cl C (hr.mono hj) (a_1 (v_v 0 h1)) True.intro fun _ h => h) fun _ => v_one (ev_is (v_leleI (v_v 1 h2) (v_v 0 h1) (v_v 2 h3)) ?_)) k)
  simp only [decide_eq_true hp1, decide_eq_true hp2, Bool.and_true]
/-- a constant of the module -/
def Glo (mg : Str → Option Value) (z : Str) (i : Int) : Prop := ∃ u, mg z = some u ∧ RelV (.int i) u
theorem v_gl {X : Cx} {σ : L2.St} {H : Hp} {z : Str} {i : Int} {pos : Pos} (h : Glo X.mg z i) (hg : Gl X z := by rfl) (hd : (z == ("__debug__" : Str)) = false := by decide) : VE X T (.Name z pos) pI σ H (is i) := by
  obtain ⟨u, h1, h2⟩ := h
  exact v_glob h1 h2 hg hd
theorem scNeedNumber : FnScope ["value", "low", "high"] ["value", "low", "high"] (defScope s_need_number) := ⟨rfl, rfl, rfl, by decide +kernel, rfl, by decide +kernel, by decide +kernel⟩
theorem f_need_number {j : Nat} (C : Cal P w K mg base "within" ["value", "low", "high"] j (pWithin T)) (hj : j ≤ k) (F : FnP K "need_number" s_need_number f fd) : FnOk P w K mg base CX0 (k + 1) f fd ["value", "low", "high"] (pNeedNumber T) := by
  refine fn_ok F scNeedNumber len3 fun cdv A outer s H vs Q E y hr ⟨v, ws, ev, h1, v2, ws2, e2, h2, v3, ws3, e3, h3, h4⟩ hp hT k => ?_
  obtain rfl : ws3 = [] := h4
  subst ev e2 e3
  refine s_cons (s_if hT (bx := false) (t_not (bx := true) (t_v (v_cl C (hr.mono hj) (a_c (v_v 0 h1) (a_2 (v_v 1 h2) (v_v 2 h3))) hp fun _ h => h))) (fun h => by cases h) fun _ H1 e1 => s_nil (s_nil (k .non () H1 e1 rfl trivial)))
theorem scTupleOf : FnScope ["value", "low", "high"] ["value", "low", "high"] (defScope s_tuple_of) := ⟨rfl, rfl, rfl, by decide +kernel, rfl, by decide +kernel, by decide +kernel⟩
theorem f_tuple_of {α : Type} {r : Rp α} (B : Blt mg) (F : FnP K "tuple_of" s_tuple_of f fd) : FnOk P w K mg base CX0 (k + 1) f fd ["value", "low", "high"] (pTupleOf r T) := by
  refine fn_ok F scTupleOf len3 fun cdv A outer s H vs Q E ⟨x, l, h, _⟩ hr ⟨v, ws, ev, h1, v2, ws2, e2, h2, v3, ws3, e3, h3, h4⟩ ⟨hp1, hp2⟩ hT k => ?_
  obtain rfl : ws3 = [] := h4
  subst ev e2 e3
  refine s_cons (s_ret hT (r := pB) (P := is true) (v_and (bx := true) (bz := true) (v_isi B (by decide) PyProof.Rows.boot_tuple (v_v 0 h1) (fun H v x h _ => tyT h) (by decide +kernel)) fun _ => v_one (ev_is (v_leleI (v_v 1 h2) (ev_i (v_lenT B (v_v 0 h1))) (v_v 2 h3)) ?_)) k)
  rw [show decide (l ≤ ((x.length : Nat) : Int)) = true from decide_eq_true hp1, show decide (((x.length : Nat) : Int) ≤ h) = true from decide_eq_true hp2]
  rfl
theorem scIsRow : FnScope ["value", "goods", "heap"] ["value", "goods"] (defScope s_is_row) := ⟨rfl, rfl, rfl, by decide +kernel, rfl, by decide +kernel, by decide +kernel⟩
theorem f_is_row {j j' : Nat} (B : Blt mg) (G : Glo mg "MOST_HEAP" 99) (Ct : Cal P w K mg base "tuple_of" ["value", "low", "high"] j' (pTupleOf pI T)) (C : Cal P w K mg base "within" ["value", "low", "high"] j (pWithin T)) (hj : j ≤ k) (hj' : j' ≤ k) (F : FnP K "is_row" s_is_row f fd) : FnOk P w K mg base CX0 (k + 1) f fd ["value", "goods"] (pIsRow T) := by
  refine fn_ok F scIsRow len2 fun cdv A outer s H vs Q E ⟨x, n, _⟩ hr ⟨v, ws, ev, h1, v2, ws2, e2, h2, h4⟩ ⟨hp1, hp2, hp3⟩ hT k => ?_
  obtain rfl : ws2 = [] := h4
  subst ev e2
  have hp1 : x.length = n := hp1
  refine s_cons (s_ret hT (r := pB) (P := is true) (v_and (bx := true) (bz := true) (v_cl Ct (hr.mono hj') (a_c (v_v 0 h1) (a_2 (ev_i (v_v 1 h2)) (ev_i (v_v 1 h2)))) ⟨by show (n : Int) ≤ (x.length : Int); omega, by show (x.length : Int) ≤ (n : Int); omega⟩ fun _ h => h) fun _ => v_one (ev_is (v_all rfl B (v_lc (lc_n (f := fun _ => true) [("heap", 2)] 2 imB scIsRow.nd (blkOk_by (N := ["value", "goods", "heap"]) (sc := defScope s_is_row) (by decide +kernel)) (tg_name scIsRow.nd) (i_tup (v_v 0 h1)) (Nat.le_of_lt (small1000 hp2)) (fun _ => rfl) ?_) rfl scIsRow.nd)) ?_)) k)
  · rintro y hy H1 u e1 ru _ ⟨s', H', C', cl, fp, rfl⟩
    exact v_cl C (hr.mono hj) (a_c (v_v 2 ru) (a_2 (v_int (i := 0)) (v_gl G))) (hp3 y hy) fun _ h => h
  · simp
abbrev pBadRow (T : List (Addr × Str)) : Sp := SpG T (a1 pT) (fun y => Ok y.1) pU (fun _ _ => True)
abbrev pNeedTable (T : List (Addr × Str)) : Sp := SpG T (a1 pT) (fun y => Ok y.1) pU (fun _ _ => True)
abbrev pIsTable (T : List (Addr × Str)) : Sp := SpG T (a1 pT) (fun y => Ok y.1) pB (fun _ b => b = true)
theorem scBadRow : FnScope ["table", "goods", "index", "row"] ["table"] (defScope s_bad_row) := ⟨rfl, rfl, rfl, by decide +kernel, rfl, by decide +kernel, by decide +kernel⟩
theorem f_bad_row {j j' : Nat} (B : Blt mg) (G : Glo mg "MOST_GOODS" 5) (Ct : Cal P w K mg base "tuple_of" ["value", "low", "high"] j' (pTupleOf pI T)) (C : Cal P w K mg base "is_row" ["value", "goods"] j (pIsRow T)) (hj : j ≤ k) (hj' : j' ≤ k) (F : FnP K "bad_row" s_bad_row f fd) : FnOk P w K mg base CX0 (k + 1) f fd ["table"] (pBadRow T) := by
  refine fn_ok F scBadRow len1 fun cdv A outer s H vs Q E ⟨x, _⟩ hr ⟨v, ws, ev, h1, h4⟩ ⟨g, hok⟩ hT k => ?_
  obtain rfl : ws = [] := h4
  subst ev
  have hok : OkW g x := hok
  obtain ⟨r0, hr0, _, hm0, hl0⟩ := hok.row hok.pos
  refine s_cons (s_set 1 hT (r := pN) (P := is g) (v_if (bx := true) (t_v (v_cl Ct (hr.mono hj') (a_c (v_ixT (v_v 0 h1) (v_nat (n := 0)) hr0) (a_2 (v_int (i := 1)) (v_gl G))) ⟨?_, ?_⟩ fun _ h => h)) (fun _ => ev_is (v_lenT B (v_ixT (v_v 0 h1) (v_nat (n := 0)) hr0)) hl0) fun h => by cases h) scBadRow.nd ?_)
  · show (1 : Int) ≤ (r0.length : Int)
    have := hok.2.2.1
    omega
  · show (r0.length : Int) ≤ 5
    have := hok.2.2.2.1
    omega
  intro vg g' H1 e1 rg pg
  rw [show g' = g from pg] at rg
  refine s_cons (s_forX (imPair imN imR) e1.2 [] (fun _ _ σ' _ => ∃ o2 o3, σ' = [some v, some vg, o2, o3]) rfl rfl (pg_tup rfl (pgs_cons (pg_name (i := 2) scBadRow.nd rfl (.inl rfl)) (pgs_cons (pg_name (i := 3) scBadRow.nd rfl (.inl rfl)) pgs_nil))) (i_enum B imR (v_v 0 (pT.mono e1.1 h1))) (fun _ _ _ _ _ => by simp) (fun _ _ _ _ => ⟨none, none, rfl⟩) (fun _ _ _ _ _ _ h _ => h) ?_ ?_)
  · rintro xs i ⟨n, row⟩ u σ' H' pxs hx e' ⟨o2, o3, rfl⟩ ru
    obtain ⟨u1, u2, r1, r2, hb⟩ := bnd_pair (K := K) (i := 2) (j := 3) (σ := [some v, some vg, o2, o3]) ru
    refine ⟨_, hb, fun N hN => ?_⟩
    have hx : ((List.range x.length).zip x)[i]? = some (n, row) := by rw [← show xs = _ from pxs]; exact hx
    have hm : row ∈ x := (List.of_mem_zip (List.mem_of_getElem? hx)).2
    obtain ⟨q1, q2⟩ := hok.2.2.2.2 row hm
    have hl : row.length ≤ 1000 := by have := hok.2.2.2.1; omega
    refine s_cons (s_if e'.tabs (bx := false) (t_w (w_or (bx := false) (bz := false) (t_c (c_isN (r := pN) (P := is g) (v_v 1 (pN.mono (e'.ex fun _ h => by cases h).1 rg)) fun H v x h _ => by rw [show v = _ from h]; rfl)) fun _ => w_or1 (t_not (bx := true) (t_v (v_cl C (hr.mono hj) (a_2 (v_v 3 r2) (v_v 1 (pN.mono (e'.ex fun _ h => by cases h).1 rg))) ⟨q1, hl, q2⟩ fun _ h => h))))) (fun h => by cases h) fun _ H2 e2 => s_nil (s_nil (hN _ _ e2.toM ⟨_, _, rfl⟩)))
  · rintro xs σ' H' pxs e' ⟨o2, o3, rfl⟩
    exact s_cons (s_ret e'.tabs (r := pU) (P := is ()) v_non fun u z H2 e2 rl _ => k u z H2 (e1.trans ((e'.ex fun _ h => by cases h).trans e2)) rl trivial)
theorem scNeedTable : FnScope ["table", "index"] ["table"] (defScope s_need_table) := ⟨rfl, rfl, rfl, by decide +kernel, rfl, by decide +kernel, by decide +kernel⟩
theorem f_need_table {j j' : Nat} (B : Blt mg) (G : Glo mg "MOST_PEOPLE" 6) (Ct : Cal P w K mg base "tuple_of" ["value", "low", "high"] j' (pTupleOf pR T)) (C : Cal P w K mg base "bad_row" ["table"] j (pBadRow T)) (hj : j ≤ k) (hj' : j' ≤ k) (F : FnP K "need_table" s_need_table f fd) : FnOk P w K mg base CX0 (k + 1) f fd ["table"] (pNeedTable T) := by
  refine fn_ok F scNeedTable len1 fun cdv A outer s H vs Q E ⟨x, _⟩ hr ⟨v, ws, ev, h1, h4⟩ ⟨g, hok⟩ hT k => ?_
  obtain rfl : ws = [] := h4
  subst ev
  have hok : OkW g x := hok
  have l1 := hok.pos
  have l2 := hok.2.1
  refine s_cons (s_if hT (bx := false) (t_not (bx := true) (t_v (v_cl Ct (hr.mono hj') (a_c (v_v 0 h1) (a_2 (v_int (i := 1)) (v_gl G))) ⟨by show (1 : Int) ≤ (x.length : Int); omega, by show (x.length : Int) ≤ 6; omega⟩ fun _ h => h))) (fun h => by cases h) fun _ H1 e1 => s_nil ?_)
  refine s_cons (s_set 1 e1.2 (r := pU) (P := fun _ => True) (v_cl C (hr.mono hj) (a_1 (v_v 0 (pT.mono e1.1 h1))) ⟨g, hok⟩ fun _ h => h) scNeedTable.nd fun u z H2 e2 rl _ => ?_)
  refine s_cons (s_if e2.2 (bx := false) (t_c (c_notN (r := pU) (bx := true) (P := is ()) (v_v 1 rl) fun H v x h _ => by rw [show v = _ from h]; rfl)) (fun h => by cases h) fun _ H3 e3 => s_nil (s_nil (k .non () H3 ((e1.trans e2).trans e3) rfl trivial)))
theorem scIsTable : FnScope ["value"] ["value"] (defScope s_is_table) := ⟨rfl, rfl, rfl, by decide +kernel, rfl, by decide +kernel, by decide +kernel⟩
theorem f_is_table {j j' : Nat} (B : Blt mg) (G : Glo mg "MOST_PEOPLE" 6) (Ct : Cal P w K mg base "tuple_of" ["value", "low", "high"] j' (pTupleOf pR T)) (C : Cal P w K mg base "bad_row" ["table"] j (pBadRow T)) (hj : j ≤ k) (hj' : j' ≤ k) (F : FnP K "is_table" s_is_table f fd) : FnOk P w K mg base CX0 (k + 1) f fd ["value"] (pIsTable T) := by
  refine fn_ok F scIsTable len1 fun cdv A outer s H vs Q E ⟨x, _⟩ hr ⟨v, ws, ev, h1, h4⟩ ⟨g, hok⟩ hT k => ?_
  obtain rfl : ws = [] := h4
  subst ev
  have hok : OkW g x := hok
  have l1 := hok.pos
  have l2 := hok.2.1
  exact s_cons (s_ret hT (r := pB) (P := is true) (v_and (bx := true) (bz := true) (v_cl Ct (hr.mono hj') (a_c (v_v 0 h1) (a_2 (v_int (i := 1)) (v_gl G))) ⟨by show (1 : Int) ≤ (x.length : Int); omega, by show (x.length : Int) ≤ 6; omega⟩ fun _ h => h) fun _ => v_one (v_c (c_isN (r := pU) (P := fun _ => True) (v_cl C (hr.mono hj) (a_1 (v_v 0 h1)) ⟨g, hok⟩ fun _ h => h) fun H v x h _ => by rw [show v = _ from h]; rfl))) k)
/-! tables -/
abbrev pOver (T : List (Addr × Str)) : Sp := SpG T (a2 pR pR) (fun y => y.1.length ≤ 1000) pB (fun y b => b = over y.1 y.2.1)
abbrev pAtOdds (T : List (Addr × Str)) : Sp := SpG T (a2 pR pR) (fun y => y.1.length ≤ 1000 ∧ y.2.1.length ≤ 1000) pB (fun y b => b = odds2 y.1 y.2.1)
theorem scOver : FnScope ["one", "other", "first", "second"] ["one", "other"] (defScope s_is_over_row) := ⟨rfl, rfl, rfl, by decide +kernel, rfl, by decide +kernel, by decide +kernel⟩
theorem f_is_over_row (B : Blt mg) (F : FnP K "is_over_row" s_is_over_row f fd) : FnOk P w K mg base CX0 (k + 1) f fd ["one", "other"] (pOver T) := by
  refine fn_ok F scOver len2 fun cdv A outer s H vs Q E ⟨x, z, _⟩ hr ⟨v, ws, ev, h1, v2, ws2, e2, h2, h4⟩ hp hT k => ?_
  obtain rfl : ws2 = [] := h4
  subst ev e2
  have hp : x.length ≤ 1000 := hp
  refine s_cons (s_ret hT (r := pB) (P := is (over x z)) (ev_is (v_all rfl B (v_lc (lc_p (f := fun p => decide (p.2 ≤ p.1)) [("first", 2), ("second", 3)] 2 3 imB scOver.nd (blkOk_by (N := ["one", "other", "first", "second"]) (sc := defScope s_is_over_row) (by decide +kernel)) (tg_pair rfl scOver.nd) (i_zip B imI imI (v_v 0 h1) (v_v 1 h2)) (Nat.le_of_lt (small1000 ?_)) (fun _ _ => rfl) ?_) rfl scOver.nd)) ?_) k)
  · rw [List.length_zip]
    omega
  · rintro y hy H1 u u' e1 ru ru' _ ⟨s', H', C', cl, fp, rfl⟩
    exact v_c (c_ge (v_v 2 ru) (v_v 3 ru'))
  · rw [List.all_map]
    rfl
theorem scAtOdds : FnScope ["one", "other"] ["one", "other"] (defScope s_are_at_odds) := ⟨rfl, rfl, rfl, by decide +kernel, rfl, by decide +kernel, by decide +kernel⟩
theorem f_are_at_odds {j : Nat} (C : Cal P w K mg base "is_over_row" ["one", "other"] j (pOver T)) (hj : j ≤ k) (F : FnP K "are_at_odds" s_are_at_odds f fd) : FnOk P w K mg base CX0 (k + 1) f fd ["one", "other"] (pAtOdds T) := by
  refine fn_ok F scAtOdds len2 fun cdv A outer s H vs Q E ⟨x, z, _⟩ hr ⟨v, ws, ev, h1, v2, ws2, e2, h2, h4⟩ ⟨hp1, hp2⟩ hT k => ?_
  obtain rfl : ws2 = [] := h4
  subst ev e2
  exact s_cons (s_ret hT (r := pB) (P := is (odds2 x z)) (v_and (v_not (v_cl C (hr.mono hj) (a_2 (v_v 0 h1) (v_v 1 h2)) hp1 fun _ h => h)) fun _ => v_one (v_not (v_cl C (hr.mono hj) (a_2 (v_v 1 h2) (v_v 0 h1)) hp2 fun _ h => h))) k)
end
end LT
/-! ## LtRule6 -/
set_option Elab.async false
set_option linter.all false
set_option maxRecDepth 100000
set_option maxHeartbeats 4000000
namespace LT
open PySem PySem.W PySem.Spec PyProof.Rows L2 LamX

section
variable {α β γ : Type} {X : Cx} {T : List (Addr × Str)} {a b c e o i elt tg iter : Expr} {r : Rp α} {s : Rp β} {σ : L2.St} {H : Hp} {v : V} {x : α} {xs : List α} {P : α → Prop} {pos p pos' apos cpos : Pos} {D : Ends} {d : Addr}
/-- name = a new thing -/
theorem s_setF {z : Str} (i : Nat) (hT : Tabs T H) (h : VF X T e r σ H P) (hN : X.N.Nodup) (k : ∀ q x H1, Ex T H H1 → Fr0 H q → r.rel H1 (.ref q) x → P x → D.nx (σ.set i (some (.ref q))) H1) (hi : X.N[i]? = some z := by rfl) (hx : Loc X.env.scope z := by first | exact Or.inl rfl | exact Or.inr rfl)
    (hs : swapsWith e (some (.Name z p)) pos.line X.env = pure false := by rfl) (hf : X.fn z = true ∨ X.env.scope.names.lookup z = some .local := by first | exact .inl rfl | exact .inr rfl) : oS X (.Assign [.Name z p] e pos) D σ H :=
  oS_of (ps_set hN hi hx pe_o hs hf) (h H (Ex.refl hT) _ k)
/-- a list's variable: its address, wherever -/
theorem o_var {ix : Nat} {z : Str} {q : Addr} (hσ : σ[ix]? = some (some (.ref q)) := by rfl) (hN : X.N[ix]? = some z := by rfl) (hv : Vis X.env.scope z := by first | exact Or.inl rfl | exact Or.inr (Or.inl rfl) | exact Or.inr (Or.inr rfl))
    (hd : (z == ("__debug__" : Str)) = false := by decide) (hcd : (z == ("__classdict__" : Str)) = false := by decide) : ∀ H1, Ex T H H1 → ∀ Q : VK, Q (.ref q) H1 → oE X (.Name z pos) σ H1 Q := fun H1 _ Q h pins s I => (pe_var hN hv hd hcd).run pins s σ H1 Q I ⟨_, hσ, h⟩
theorem i_lstv {vs : List V} (hv : ∀ H1, Ex T H H1 → ∀ Q : VK, Q (.ref d) H1 → oE X e σ H1 Q) (h1 : H d = some (.lst vs)) (h2 : Paired (r.rel H) vs xs) : VI X T tg e r σ H (is xs) (· = some (d, HO.lst vs)) := vi_of (pi_list pe_o) (iv_lstv hv h1 h2)
/-- xs.append(e) -/
theorem s_app {vs : List V} {Pv : α → Prop} (hT : Tabs T H) (hv : ∀ H1, Ex T H H1 → ∀ Q : VK, Q (.ref d) H1 → oE X o σ H1 Q) (hd : H d = some (.lst vs)) (h : VE X T e r σ H Pv) (hz : vs.length < sizeLine)
    (k : ∀ u x H1 H2, Pv x → Ex T H H1 → r.rel H1 u x → ExM [d] T H1 H2 → H1 d = some (.lst vs) → H2 = upd H1 d (.lst (vs ++ [u])) → D.nx σ H2)
    (hbase : attributeBase o "append" X.env (eval o X.env) = eval o X.env := by rfl)
    (hfew : ((backTo cpos (starEach [e] X.env)).all (fun x => !x.1) && (backToKw cpos (keywordEach [] X.env)).all (fun x => x.1.isSome)
      && decide (([e] : List Expr).length + ([] : List Keyword).length + (if ([] : List Keyword).isEmpty then 0 else 1) < 30)) = true := by rfl)
    (hline : (apos.endLine == cpos.line) = true := by rfl) (hs : starEach [e] X.env = (false, eval e X.env) :: starEach [] X.env := by rfl) (hplain : (backTo cpos (starEach [] X.env)).any (·.1) = false := by rfl)
    (hsw : swapsWith (.Call (.Attribute o "append" apos) [e] [] cpos) none pos.line X.env = pure false := by rfl) : oS X (.Expr (.Call (.Attribute o "append" apos) [e] [] cpos) pos) D σ H :=
  oS_of (ps_expr (pe_bm PySem.F.plainAttrs_list PySem.F.slot_list_append PySem.F.type_list_append mt_append pe_o (pa_cons pe_o pa_nil hs) hbase hfew hline hs hplain) hsw) (hv H (Ex.refl hT) _ ⟨.inl ⟨rfl, vs, sq_l hd⟩, h H (Ex.refl hT) _ fun u x H1 e1 ru px => by
    have hd1 : H1 d = some (.lst vs) := e1.get hd (.lst _)
    exact ⟨d, vs, u, rfl, rfl, hd1, hz, k u x H1 _ px e1 ru (ExM.mut hd1 (.lst _) (by simp) e1.2) hd1 rfl⟩⟩)
/-- [a], a new list -/
theorem f_lst1 (ha : VE X T a r σ H (is x)) (hs : starEach [a] X.env = (false, eval a X.env) :: starEach [] X.env := by rfl) : VF X T (.List [a] pos) (pLst r) σ H (is [x]) :=
  vf_of (pe_lst pa_o) fun H1 e1 Q q => a_1 ha hs H1 e1 _ fun vs z H2 e2 rl pz => by
    obtain ⟨v, ws, rfl, h1, h3⟩ := rl
    rw [show z = _ from pz] at h1
    obtain rfl : ws = [] := h3
    exact ⟨by show 1 ≤ sizeLine; decide, fun p hp => q _ _ _ (e2.trans (Ex.new e2.2 hp)) (e2.fr0 hp) ⟨p, [v], rfl, upd_same, .cons (r.mono (extn_new hp) h1) .nil⟩ rfl⟩
/-- a, b = new things -/
theorem s_parF {z w : Str} {px py pt pt2 : Pos} {kt k2 : Nat} {Pb : β → Prop} (i j : Nat) (hT : Tabs T H) (hc : X.calm = true) (hN : X.N.Nodup) (ha : VF X T a r σ H P) (hb : VF X T b s σ H Pb) (k : ∀ u w x y H1, Ex T H H1 → Fr0 H u → Fr0 H w → r.rel H1 (.ref u) x → s.rel H1 (.ref w) y → P x → Pb y → D.nx ((σ.set i (some (.ref u))).set j (some (.ref w))) H1)
    (hi : X.N[i]? = some z := by rfl) (hj : X.N[j]? = some w := by rfl) (hij : i ≠ j := by decide) (hx : X.env.scope.names.lookup z = some .local := by rfl) (hy : X.env.scope.names.lookup w = some .local := by rfl)
    (hw : swappedStores [.Tuple [.Name z px, .Name w py] kt pt] (.Tuple [a, b] k2 pt2) X.env = pure (some [z, w]) := by rfl) (hs : swapsWithSole [.Tuple [.Name z px, .Name w py] kt pt] (.Tuple [a, b] k2 pt2) pos.line X.env = pure false := by rfl)
    (s1 : starEach [a, b] X.env = (false, eval a X.env) :: starEach [b] X.env := by rfl) (s2 : starEach [b] X.env = (false, eval b X.env) :: starEach [] X.env := by rfl) :
    oS X (.Assign [.Tuple [.Name z px, .Name w py] kt pt] (.Tuple [a, b] k2 pt2) pos) D σ H :=
  oS_of (ps_par hc hN hi hj hij hx hy (pa_cons pe_o (pa_cons pe_o pa_nil s2) s1) hw hs) (ha H (Ex.refl hT) _ fun u x H1 e1 fu ru px => hb H1 e1 _ fun q y H2 e2 fq rq py =>
    ⟨_, _, rfl, k u q x y H2 (e1.trans e2) fu (fq.back e1.1) (r.mono e2.1 ru) rq px py⟩)
end
end LT
/-! ## LtRule7 -/
set_option Elab.async false
set_option linter.all false
set_option maxRecDepth 100000
set_option maxHeartbeats 4000000
namespace LT
open PySem PySem.W PySem.Spec PyProof.Rows L2 LamX

/-- the code object of the def at f -/
def CodeAt (K : PySem.W.Frag) (f : Addr) (c : Addr) : Prop := ∀ oc od fd osl, K.lookup f = some ⟨oc, od, .func fd, osl⟩ → fd.code = .ref c
section
variable {P : Program} {w : World} {K : PySem.W.Frag} {mg : Str → Option Value} {base : Heap} {T : List (Addr × Str)} {f c : Addr} {fd : FuncData} {k : Nat}
/-- a def's rule, its code object known -/
theorem fn_okC {x : Str} {st : Stmt} {N ps : List Str} {α β : Type} {ra : RpA α} {pre : α → Prop} {r : Rp β} {Pc : α → β → Prop} (F : FnP K x st f fd) (hcd : CodeAt K f c) (S : FnScope N ps (defScope st)) (len : ∀ H vs (y : α), ra.rel H vs y → vs.length = ps.length)
    (hbody : ∀ (A : Around) (outer : List Env) (s : Shared) (H : Hp) (vs : List V) (Q : VK) (E : XK) (y : α), Room k (A.deeper (envOfC x (defScope st) s.heap.objs.size f (.ref c))) → ra.rel H vs y → pre y → Tabs T H →
      (∀ u z H2, Ex T H H2 → r.rel H2 u z → Pc y z → Q u H2) → oSs (cxOf CX0 P w K mg base N x (defScope st) f (.ref c) A outer s H E).nox (defBody st) { nx := fun _ H' => Q .non H', rt := Q } (start N vs) H) :
    FnOk P w K mg base CX0 (k + 1) f fd ps (SpG T ra pre r Pc) := by
  obtain ⟨oc, od, dV, kV, doc, pm, an, cdv, ct, osl, rfl, lk, hcd', _, _⟩ := F.ex
  obtain rfl : cdv = .ref c := hcd _ _ _ _ lk
  exact fn_of lk hcd' S (fun vs H Q E ⟨y, h, _⟩ => len H vs y h) fun A outer s H vs Q E hr ⟨y, h1, h2, h3, h4⟩ => ⟨_, pss_o.nox, hbody A outer s H vs Q E y hr h1 h2 h3 h4⟩
end
/-- the contexts of a lambda's body -/
def IsLam (X : Cx) (k : Nat) (N : List Str) (scope : Scope) (Y : Cx) : Prop := ∃ (A : Around) (s : Shared) (H : Hp) (f c' : Addr), Room k (A.deeper (envOfC (X.env.qual ++ "<lambda>") scope s.heap.objs.size f (.ref c'))) ∧
  Y = cxOf CX0 X.prog X.w X.K X.mg X.base N (X.env.qual ++ "<lambda>") scope f (.ref c') A X.stack s H L2.E0
section
variable {α γ : Type} {X : Cx} {T : List (Addr × Str)} {e body : Expr} {r : Rp α} {q : Rp γ} {σ : L2.St} {H : Hp} {pos p lpos kpos : Pos} {c Pt : Addr} {k : Nat} {params : Arguments} {scope : Scope} {N : List Str} {x : Str} {key : α → Int} {Pa : γ → Prop} {xs : γ → List α}
theorem v_sortLam (im : Imm r) (hc : X.calm = true) (B : Blt X.mg) (TB : TabB X.base X.mg c Pt) (hcode : X.env.code = .ref c) (hmT : (Pt, X.env.qual ++ "<lambda>") ∈ T) (hu : ∀ p ∈ T, p.1 = Pt → p.2 = X.env.qual ++ "<lambda>") (hr : Room (k + 3) X.A) (S : FnScope N [x] scope)
    (ha : VE X T e q σ H Pa) (hs : ∀ H v z, q.rel H v z → Pa z → SrcV X.prog X.w X.K H v r (xs z))
    (hb : ∀ z, Pa z → ∀ x ∈ xs z, ∀ H1 v, Ex T H H1 → r.rel H1 v x → ∀ Y, IsLam X k N scope Y → VE Y T body pI [some v] H1 (is (key x)))
    (hbind : ∀ (q : Str) (pm cv ctv u : Value), bindArgs (kla_fn "<lambda>" q params body scope [] pm cv ctv) ⟨[u], []⟩ = pure [(x, u)])
    (hfree : ∀ y ∈ scope.names, y.2 ≠ .free) (hclo : ∀ cells, cloFrom cells scope.names [] = []) (hdef : defaultsOf params X.env = ([], []) := by rfl)
    (hg : Gl X "sorted" := by rfl) (hst : ∀ v : V, L2.start N [v] = [some v] := by intro _; rfl)
    (na : starEach [e] X.env = (false, eval e X.env) :: starEach [] X.env := by rfl) (he : backTo pos (starEach [e] X.env) = (false, eval e X.env) :: backTo pos (starEach [] X.env) := by rfl) (hpl : (backTo pos (starEach [e] X.env)).any (·.1) = false := by rfl) :
    VF X T (.Call (.Name "sorted" p) [e] [⟨some "key", .Lambda params body scope lpos, kpos⟩] pos) (pLst r) σ H (fun ys => ∃ z, Pa z ∧ ys = (xs z).mergeSort fun a b => decide (key a ≤ key b)) :=
  vf_of (pe_sortLam (key := key) (te := fun σ H Q => ∀ Y, IsLam X k N scope Y → oE Y body σ H Q) im hc hg (B _ (by decide)) (pa_cons pe_o pa_nil na) TB hcode hmT hu hr S hdef hclo hfree hbind
    (fun A s Hx f c' hR => ⟨fun pins s1 σ H Q I z => z _ ⟨A, s, Hx, f, c', hR, rfl⟩ pins s1 I⟩) hst he hpl) fun H1 e1 Q kk => ha H1 e1 _ fun v z H2 e2 rz pz =>
      ⟨e2.2, v, xs z, rfl, fun H3 e3 => hs H3 v z (q.mono e3.1 rz) pz, fun u y H3 Q2 e3 ry hy k2 Y hY => hb z pz y hy H3 u ((e1.trans e2).trans e3) ry Y hY H3 e3.here Q2 fun w i H4 e4 rw' pi => by
        rw [show w = _ from rw', show i = key y from pi]
        exact k2 H4 e4, fun p ws H3 e3 hp hw => kk p _ _ ((e2.trans e3).trans (Ex.new e3.2 hp)) ((e2.trans e3).fr0 hp) ⟨p, ws, rfl, upd_same, paired_imp (fun _ _ => r.mono (extn_new hp)) hw⟩ ⟨z, pz, rfl⟩⟩
end
end LT
/-! ## LtD2 -/
set_option Elab.async false
set_option linter.all false
set_option maxRecDepth 100000
set_option maxHeartbeats 4000000
namespace LT
open PySem PySem.W PySem.Spec PyProof.Rows L2 LamX

theorem f_rev1 {α : Type} {X : Cx} {T : List (Addr × Str)} {a : Expr} {r : Rp α} {σ : L2.St} {H : Hp} {pos : Pos} {jj : Nat} {p1 p2 p3 : Pos} {xs : List α} (ha : VE X T a (pLst r) σ H (is xs)) :
    VF X T (.Subscript a (.Slice none none (some (.UnaryOp .USub (.Constant (.int 1) jj p1) p2)) p3) pos) (pLst r) σ H (is xs.reverse) := fun H1 e1 Q k => f_rev ha H1 e1 Q fun p z H2 e2 fr rl ⟨w, pw, e⟩ => k p z H2 e2 fr rl (by rw [e, show w = xs from pw])
theorem v_rev {α : Type} {X : Cx} {T : List (Addr × Str)} {a : Expr} {r : Rp α} {σ : L2.St} {H : Hp} {pos : Pos} {jj : Nat} {p1 p2 p3 : Pos} {xs : List α} (ha : VE X T a (pLst r) σ H (is xs)) :
    VE X T (.Subscript a (.Slice none none (some (.UnaryOp .USub (.Constant (.int 1) jj p1) p2)) p3) pos) (pLst r) σ H (is xs.reverse) := EvF.ev (f_rev1 ha)
theorem v_sortRows {X : Cx} {T : List (Addr × Str)} {e : Expr} {σ : L2.St} {H : Hp} {pos p : Pos} {xs : Tbl} (hc : X.calm = true) (hu : X.A.units + 10 < cLine) (B : Blt X.mg) (ha : VE X T e pT σ H (is xs)) (hk : Sortable (xs.map encR)) (hg : Gl X "sorted" := by rfl) (he : starEach [e] X.env = (false, eval e X.env) :: starEach [] X.env := by rfl) :
    VE X T (.Call (.Name "sorted" p) [e] [] pos) (pLst pR) σ H (is (xs.mergeSort rleq)) := v_sortT (sR X.K) hc hu B ha hk hg he
theorem v_sortInts {X : Cx} {T : List (Addr × Str)} {e : Expr} {σ : L2.St} {H : Hp} {pos p : Pos} {xs : List Int} (hc : X.calm = true) (hu : X.A.units + 10 < cLine) (B : Blt X.mg) (ha : VE X T e (pLst pI) σ H (is xs)) (hg : Gl X "sorted" := by rfl) (he : starEach [e] X.env = (false, eval e X.env) :: starEach [] X.env := by rfl) :
    VE X T (.Call (.Name "sorted" p) [e] [] pos) (pLst pI) σ H (is (xs.mergeSort (dataLe false PyData.int))) := v_sortL (sI X.K) hc hu B ha (Sortable.others fun b => ⟨(by intro z; cases z), fun xs z => by cases z⟩) hg he
theorem v_sortIntsT {X : Cx} {T : List (Addr × Str)} {e : Expr} {σ : L2.St} {H : Hp} {pos p : Pos} {xs : List Int} (hc : X.calm = true) (hu : X.A.units + 10 < cLine) (B : Blt X.mg) (ha : VE X T e pR σ H (is xs)) (hg : Gl X "sorted" := by rfl) (he : starEach [e] X.env = (false, eval e X.env) :: starEach [] X.env := by rfl) :
    VE X T (.Call (.Name "sorted" p) [e] [] pos) (pLst pI) σ H (is (xs.mergeSort (dataLe false PyData.int))) := v_sortT (sI X.K) hc hu B ha (Sortable.others fun b => ⟨(by intro z; cases z), fun xs z => by cases z⟩) hg he
theorem v_sortKeys {β : Type} {r : Rp β} {X : Cx} {T : List (Addr × Str)} {e : Expr} {σ : L2.St} {H : Hp} {pos p : Pos} {kvs : List (Tbl × β)} (hc : X.calm = true) (hu : X.A.units + 10 < cLine) (B : Blt X.mg) (ha : VE X T e (pD X.w kT r) σ H (is kvs)) (hk : Sortable ((kvs.map (·.1)).map encT)) (hg : Gl X "sorted" := by rfl)
    (he : starEach [e] X.env = (false, eval e X.env) :: starEach [] X.env := by rfl) : VE X T (.Call (.Name "sorted" p) [e] [] pos) (pLst pT) σ H (is ((kvs.map (·.1)).mergeSort tleq)) :=
  (v_sort (sT X.K) (xs := fun kvs : List (Tbl × β) => kvs.map (·.1)) hc hu B ha (fun _ _ _ rz _ => src_dic rz) (fun z pz => by rw [show z = kvs from pz]; exact hk) hg he).ev.imp fun ys ⟨z, pz, e⟩ => by rw [e, show z = kvs from pz]; rfl
theorem oddsIn_len (t : Tbl) (i : Nat) : (oddsIn t i).length ≤ t.length := by
  unfold oddsIn
  rw [List.length_map]
  refine Nat.le_trans (List.length_filter_le _ _) ?_
  rw [List.length_range']
  omega
theorem oddsTo_len (t : Tbl) : ∀ n, ((List.range n).flatMap (oddsIn t)).length ≤ n * t.length
  | 0 => by simp
  | n + 1 => by
    rw [List.range_succ, List.flatMap_append, List.length_append]
    have h1 := oddsTo_len t n
    have h2 := oddsIn_len t n
    simp only [List.flatMap_cons, List.flatMap_nil, List.append_nil]
    rw [Nat.succ_mul]
    omega
theorem odds_mem {t : Tbl} {i j : Nat} (h : (i, j) ∈ oddsOf t) : i < j ∧ j < t.length := by
  unfold oddsOf at h
  obtain ⟨a, ha, h⟩ := List.mem_flatMap.mp h
  unfold oddsIn at h
  obtain ⟨b, hb, e⟩ := List.mem_map.mp h
  cases e
  have := List.mem_range'.mp (List.mem_filter.mp hb).1
  have := List.mem_range.mp ha
  omega
section
variable {P : Program} {w : World} {K : PySem.W.Frag} {mg : Str → Option Value} {base : Heap} {T : List (Addr × Str)} {f : Addr} {fd : FuncData} {k : Nat}
abbrev pOdds (T : List (Addr × Str)) : Sp := SpG T (a1 pT) (fun y => Ok y.1) (pLst (pPair pN pN)) (fun y z => z = oddsOf y.1)
abbrev pCount (T : List (Addr × Str)) : Sp := SpG T (a1 pT) (fun y => Ok y.1) pN (fun y z => z = (oddsOf y.1).length)
abbrev pIsTower (T : List (Addr × Str)) : Sp := SpG T (a1 pT) (fun y => Ok y.1) pB (fun y z => z = (oddsOf y.1).isEmpty)
abbrev pCrowd (T : List (Addr × Str)) : Sp := SpG T (a1 pT) (fun y => Ok y.1) pT (fun y z => z = crowdOf y.1)
theorem scOdds : FnScope ["table", "many", "found", "one", "other"] ["table"] (defScope s_odds_of) := ⟨rfl, rfl, rfl, by decide +kernel, rfl, by decide +kernel, by decide +kernel⟩
theorem f_odds_of {j : Nat} (B : Blt mg) (C : Cal P w K mg base "are_at_odds" ["one", "other"] j (pAtOdds T)) (hj : j ≤ k) (F : FnP K "odds_of" s_odds_of f fd) : FnOk P w K mg base CX0 (k + 1) f fd ["table"] (pOdds T) := by
  refine fn_ok F scOdds len1 fun cdv A outer s H vs Q E ⟨x, _⟩ hr ⟨v, ws, ev, h1, h4⟩ ⟨g, hok⟩ hT k => ?_
  obtain rfl : ws = [] := h4
  subst ev
  have hok : OkW g x := hok
  have l2 := hok.2.1
  have l3 := hok.2.2.2.1
  refine s_cons (s_par 1 2 hT rfl scOdds.nd (v_lenT B (v_v 0 h1)) (v_nil (r := pPair pN pN)) fun vm vf H1 e1 rm rf => ?_)
  refine s_cons (s_forX imN e1.2 [] (fun xs i σ' H' => xs = List.range x.length ∧ ∃ vf o3 o4, σ' = [some v, some vm, some vf, o3, o4] ∧ (pLst (pPair pN pN)).rel H' vf ((List.range i).flatMap (oddsIn x))) rfl rfl (pg_name (i := 3) scOdds.nd rfl (.inr rfl) (.inl rfl)) (i_rng1 B (v_v 1 rm) (show x.length < 2 ^ 62 by omega)) (fun _ _ _ _ _ => by simp) (fun xs H2 px e2 => ⟨px, vf, none, none, rfl, (pLst (pPair pN pN)).mono e2.1 rf⟩) (fun xs i σ' H' H'' _ ⟨q, vf, o3, o4, e, h⟩ ex => ⟨q, vf, o3, o4, e, (pLst (pPair pN pN)).mono ex.1 h⟩) ?_ ?_)
  · rintro xs i n u σ' H' pxs hx e' ⟨rfl, vf, o3, o4, rfl, hf⟩ ru
    obtain ⟨hi, rfl⟩ : i < x.length ∧ n = i := by
      obtain ⟨h1, h2⟩ := List.getElem?_eq_some_iff.mp hx
      rw [List.length_range] at h1
      rw [List.getElem_range] at h2
      exact ⟨h1, h2.symm⟩
    have ex : Ex T H1 H' := e'.ex fun _ h => by cases h
    have t0 : pT.rel H' v x := pT.mono (e1.trans ex).1 h1
    have m0 : pN.rel H' vm x.length := pN.mono ex.1 rm
    refine ⟨_, bnd_name, fun N hN => ?_⟩
    have hl := oddsTo_len x n
    have hl2 := oddsIn_len x n
    have hmul : n * x.length ≤ 4 * 4 := Nat.mul_le_mul (by omega) l2
    refine s_cons (s_set 2 e'.tabs (r := pLst (pPair pN pN)) (P := is ((List.range (n + 1)).flatMap (oddsIn x))) (ev_is (v_cat (v_v 2 hf) (v_lc (lc_nif (f := fun m => (n, m)) (t := fun m => odds2 (rowAt x n) (rowAt x m)) [("other", 4)] 4 (imPair imN imN) scOdds.nd (blkOk_by (N := ["table", "many", "found", "one", "other"]) (sc := defScope s_odds_of) (by decide +kernel)) (tg_name scOdds.nd) (i_rng2 B (v_addN (v_v 3 ru) (v_nat (n := 1))) (v_v 1 m0) (by omega) (by omega)) ?_ (fun _ => rfl) ?_) rfl scOdds.nd) ?_) ?_) scOdds.nd ?_)
    · rw [List.length_range']
      exact Nat.le_of_lt (small1000 (by omega))
    · rintro m hm H2 u2 e2 ru2 _ ⟨s', H', C', cl, fp, rfl⟩
      have hmr := List.mem_range'.mp hm
      have hm2 : m < x.length := by omega
      obtain ⟨r1, hr1, er1, hm1, hg1⟩ := hok.row hi
      obtain ⟨r2, hr2, er2, hm2', hg2⟩ := hok.row hm2
      have t2 : pT.rel H2 v x := pT.mono e2.1 t0
      rw [er1, er2]
      refine ⟨t_v (v_cl C (hr.mono hj) (a_2 (v_ixT (v_v 0 t2) (v_v 3 (pN.mono e2.1 ru)) hr1) (v_ixT (v_v 0 t2) (v_v 4 ru2) hr2)) ⟨?_, ?_⟩ fun _ h => h), fun _ => v_pair (v_v 3 (pN.mono e2.1 ru)) (v_v 4 ru2)⟩
      · show r1.length ≤ 1000
        omega
      · show r2.length ≤ 1000
        omega
    · refine Nat.le_of_lt (small1000 ?_)
      have h5 := hl2
      unfold oddsIn at h5
      omega
    · rw [List.range_succ, List.flatMap_append]
      simp only [List.flatMap_cons, List.flatMap_nil, List.append_nil]
      rfl
    · intro vf' z H2 e2 rz pz
      exact s_nil (hN _ _ e2.toM ⟨rfl, vf', _, _, rfl, by rw [← show z = _ from pz]; exact rz⟩)
  · rintro xs σ' H' pxs e' ⟨rfl, vf, o3, o4, rfl, hf⟩
    rw [List.length_range] at hf
    exact s_cons (s_ret e'.tabs (r := pLst (pPair pN pN)) (P := is (oddsOf x)) (v_v 2 hf) fun u z H2 e2 rl pz => k u z H2 (e1.trans ((e'.ex fun _ h => by cases h).trans e2)) rl pz)
theorem scCount : FnScope ["table"] ["table"] (defScope s_count_at_odds) := ⟨rfl, rfl, rfl, by decide +kernel, rfl, by decide +kernel, by decide +kernel⟩
theorem f_count {j j' : Nat} (B : Blt mg) (Cn : Cal P w K mg base "need_table" ["table"] j' (pNeedTable T)) (C : Cal P w K mg base "odds_of" ["table"] j (pOdds T)) (hj : j ≤ k) (hj' : j' ≤ k) (F : FnP K "count_at_odds" s_count_at_odds f fd) : FnOk P w K mg base CX0 (k + 1) f fd ["table"] (pCount T) := by
  refine fn_ok F scCount len1 fun cdv A outer s H vs Q E ⟨x, _⟩ hr ⟨v, ws, ev, h1, h4⟩ hok hT k => ?_
  obtain rfl : ws = [] := h4
  subst ev
  refine s_cons (s_drop hT (r := pU) (P := fun _ => True) (v_cl Cn (hr.mono hj') (a_1 (v_v 0 h1)) hok fun _ h => h) fun _ _ H1 e1 _ _ => ?_)
  exact s_cons (s_ret e1.2 (r := pN) (P := is (oddsOf x).length) (v_lenL B (v_cl C (hr.mono hj) (a_1 (v_v 0 (pT.mono e1.1 h1))) hok fun _ h => h)) fun u z H2 e2 rl pz => k u z H2 (e1.trans e2) rl pz)
theorem un {j : Nat} {A : Around} (h : Room j A) (n : Nat) (hn : n ≤ 200 := by decide) : A.units + n < cLine := by
  have := h.un
  omega
def encPN (p : Nat × Nat) : PyData := .tuple [.int p.1, .int p.2]
theorem dpPN {H : Hp} {v : V} {x : Nat × Nat} (h : (pPair pN pN).rel H v x) : Dp K H v (encPN x) := dp_pair (e1 := fun n : Nat => .int n) (e2 := fun n : Nat => .int n) (fun _ _ h => dpN h) (fun _ _ h => dpN h) h
theorem layPN (x : Nat × Nat) : (encPN x).canLay0 = true := by simp [encPN, PyData.canLay0, PyData.canLayAll0]
theorem depPN (x : Nat × Nat) : (encPN x).depth ≤ 1 := by simp [encPN, PyData.depth, PyData.depthAll]
theorem scIsTower : FnScope ["table"] ["table"] (defScope s_is_tower) := ⟨rfl, rfl, rfl, by decide +kernel, rfl, by decide +kernel, by decide +kernel⟩
theorem f_is_tower {j j' : Nat} (B : Blt mg) (Cn : Cal P w K mg base "need_table" ["table"] j' (pNeedTable T)) (C : Cal P w K mg base "odds_of" ["table"] j (pOdds T)) (hj : j ≤ k) (hj' : j' ≤ k) (F : FnP K "is_tower" s_is_tower f fd) : FnOk P w K mg base CX0 (k + 1) f fd ["table"] (pIsTower T) := by
  refine fn_ok F scIsTower len1 fun cdv A outer s H vs Q E ⟨x, _⟩ hr ⟨v, ws, ev, h1, h4⟩ hok hT k => ?_
  obtain rfl : ws = [] := h4
  subst ev
  refine s_cons (s_drop hT (r := pU) (P := fun _ => True) (v_cl Cn (hr.mono hj') (a_1 (v_v 0 h1)) hok fun _ h => h) fun _ _ H1 e1 _ _ => ?_)
  exact s_cons (s_ret e1.2 (r := pB) (P := is (oddsOf x).isEmpty) (v_c (c_eqNil (n := 1) encPN 1 (by decide) hr.units (v_cl C (hr.mono hj) (a_1 (v_v 0 (pT.mono e1.1 h1))) hok fun _ h => h) (fun _ _ _ => dpPN) layPN depPN)) fun u z H2 e2 rl pz => k u z H2 (e1.trans e2) rl pz)
theorem sortRows {g : Nat} {t : Tbl} (h : OkW g t) : Sortable (t.map encR) := .inl fun d hd => by
  obtain ⟨r, hr, rfl⟩ := List.mem_map.mp hd
  obtain ⟨h1, _⟩ := h.2.2.2.2 r hr
  have h3 := h.2.2.1
  cases r with
  | nil => simp at h1; omega
  | cons a r => exact ⟨_, _, rfl⟩
theorem scCrowdOf : FnScope ["table"] ["table"] (defScope s_crowd_of) := ⟨rfl, rfl, rfl, by decide +kernel, rfl, by decide +kernel, by decide +kernel⟩
theorem f_crowd_of (B : Blt mg) (F : FnP K "crowd_of" s_crowd_of f fd) : FnOk P w K mg base CX0 (k + 1) f fd ["table"] (pCrowd T) := by
  refine fn_ok F scCrowdOf len1 fun cdv A outer s H vs Q E ⟨x, _⟩ hr ⟨v, ws, ev, h1, h4⟩ ⟨g, hok⟩ hT k => ?_
  obtain rfl : ws = [] := h4
  subst ev
  exact s_cons (s_ret hT (r := pT) (P := is (crowdOf x)) (v_tup B (v_rev (v_sortRows rfl (un hr 10) B (v_v 0 h1) (sortRows hok)))) k)
theorem scCrowd : FnScope ["table"] ["table"] (defScope s_crowd) := ⟨rfl, rfl, rfl, by decide +kernel, rfl, by decide +kernel, by decide +kernel⟩
theorem f_crowd {j j' : Nat} (Cn : Cal P w K mg base "need_table" ["table"] j' (pNeedTable T)) (C : Cal P w K mg base "crowd_of" ["table"] j (pCrowd T)) (hj : j ≤ k) (hj' : j' ≤ k) (F : FnP K "crowd" s_crowd f fd) : FnOk P w K mg base CX0 (k + 1) f fd ["table"] (pCrowd T) := by
  refine fn_ok F scCrowd len1 fun cdv A outer s H vs Q E ⟨x, _⟩ hr ⟨v, ws, ev, h1, h4⟩ hok hT k => ?_
  obtain rfl : ws = [] := h4
  subst ev
  refine s_cons (s_drop hT (r := pU) (P := fun _ => True) (v_cl Cn (hr.mono hj') (a_1 (v_v 0 h1)) hok fun _ h => h) fun _ _ H1 e1 _ _ => ?_)
  exact s_cons (s_ret e1.2 (r := pT) (P := is (crowdOf x)) (v_cl C (hr.mono hj) (a_1 (v_v 0 (pT.mono e1.1 h1))) hok fun _ h => h) fun u z H2 e2 rl pz => k u z H2 (e1.trans e2) rl pz)
abbrev pLaid (T : List (Addr × Str)) : Sp := SpG T (a3 pT pN pN) (fun y => Ok y.1 ∧ y.2.1 < y.1.length ∧ y.2.2.1 < y.1.length) pT (fun y z => z = laid y.1 y.2.1 y.2.2.1)
theorem scLaid : FnScope ["table", "one", "other", "high", "lesser", "pair", "at", "row"] ["table", "one", "other"] (defScope s_laid) := ⟨rfl, rfl, rfl, by decide +kernel, rfl, by decide +kernel, by decide +kernel⟩
theorem f_laid (B : Blt mg) (F : FnP K "laid" s_laid f fd) : FnOk P w K mg base CX0 (k + 1) f fd ["table", "one", "other"] (pLaid T) := by
  refine fn_ok F scLaid len3 fun cdv A outer s H vs Q E ⟨x, i, j, _⟩ hr ⟨v, ws, ev, h1, v2, ws2, e2, h2, v3, ws3, e3, h3, h4⟩ ⟨⟨g, hok⟩, hi, hj⟩ hT k => ?_
  obtain rfl : ws3 = [] := h4
  subst ev e2 e3
  have hok : OkW g x := hok
  have l5 := hok.2.2.2.1
  have l2 := hok.2.1
  obtain ⟨ra, ha, ea, ma, ga⟩ := hok.row hi
  obtain ⟨rb, hb, eb, mb, gb⟩ := hok.row hj
  have hz : (ra.zip rb).length ≤ sizeLine := by
    rw [List.length_zip]
    exact Nat.le_of_lt (small1000 (by omega))
  refine s_cons (s_set 3 hT (r := pR) (P := is (high ra rb)) (v_tup B (v_lc (lc_n (f := fun p => max p.1 p.2) [("pair", 5)] 5 imI scLaid.nd (blkOk_by (N := ["table", "one", "other", "high", "lesser", "pair", "at", "row"]) (sc := defScope s_laid) (by decide +kernel)) (tg_name scLaid.nd) (i_zipN B imI imI (v_ixT (v_v 0 h1) (v_v 1 h2) ha) (v_ixT (v_v 0 h1) (v_v 2 h3) hb)) hz (fun _ => rfl) ?_) rfl scLaid.nd)) scLaid.nd ?_)
  · rintro y hy H1 u e1 ru _ ⟨s', H', C', cl, fp, rfl⟩
    exact v_maxP rfl B (v_v 5 ru)
  intro vh z H1 e1 rh pz
  obtain rfl : z = _ := pz
  have t1 : pT.rel H1 v x := pT.mono e1.1 h1
  refine s_cons (s_set 4 e1.2 (r := pR) (P := is (lesser ra rb)) (v_tup B (v_lc (lc_n (f := fun p => min p.1 p.2) [("pair", 5)] 5 imI scLaid.nd (blkOk_by (N := ["table", "one", "other", "high", "lesser", "pair", "at", "row"]) (sc := defScope s_laid) (by decide +kernel)) (tg_name scLaid.nd) (i_zipN B imI imI (v_ixT (v_v 0 t1) (v_v 1 (pN.mono e1.1 h2)) ha) (v_ixT (v_v 0 t1) (v_v 2 (pN.mono e1.1 h3)) hb)) hz (fun _ => rfl) ?_) rfl scLaid.nd)) scLaid.nd ?_)
  · rintro y hy H2 u e2 ru _ ⟨s', H', C', cl, fp, rfl⟩
    exact v_minP rfl B (v_v 5 ru)
  intro vl z H2 e2 rl pz
  obtain rfl : z = _ := pz
  have t2 : pT.rel H2 v x := pT.mono e2.1 t1
  have i2 : pN.rel H2 v2 i := pN.mono e2.1 (pN.mono e1.1 h2)
  have j2 : pN.rel H2 v3 j := pN.mono e2.1 (pN.mono e1.1 h3)
  have rh2 : pR.rel H2 vh (high ra rb) := pR.mono e2.1 rh
  refine s_cons (s_ret e2.2 (r := pT) (P := is (laid x i j)) (v_tup B (v_lc (lc_p (f := laidAt x i j) [("at", 6), ("row", 7)] 6 7 imR scLaid.nd (blkOk_by (N := ["table", "one", "other", "high", "lesser", "pair", "at", "row"]) (sc := defScope s_laid) (by decide +kernel)) (tg_pair rfl scLaid.nd) (i_enum B imR (v_v 0 t2)) ?_ (fun _ _ => rfl) ?_) rfl scLaid.nd)) fun u z H3 e3 rz pz => k u z H3 (e1.trans (e2.trans e3)) rz pz)
  · rw [List.length_zip, List.length_range]
    exact Nat.le_of_lt (small1000 (by show min x.length x.length ≤ 1000; omega))
  · rintro ⟨n, row⟩ hy H3 u u' e3 ru ru' _ ⟨s', H', C', cl, fp, rfl⟩
    refine v_if (bx := decide (n = i)) (t_c (c_eqN (v_v 6 ru) (v_v 1 (pN.mono e3.1 i2)))) (fun h => ?_) fun h => ?_
    · refine ev_is (v_v 3 (pR.mono e3.1 rh2)) ?_
      unfold laidAt
      rw [if_pos (of_decide_eq_true h), ea, eb]
    · refine v_if (bx := decide (n = j)) (t_c (c_eqN (v_v 6 ru) (v_v 2 (pN.mono e3.1 j2)))) (fun h' => ?_) fun h' => ?_
      · refine ev_is (v_v 4 (pR.mono e3.1 rl)) ?_
        unfold laidAt
        rw [if_neg (of_decide_eq_false h), if_pos (of_decide_eq_true h'), ea, eb]
      · refine ev_is (v_v 7 ru') ?_
        unfold laidAt
        rw [if_neg (of_decide_eq_false h), if_neg (of_decide_eq_false h')]
theorem ok_len {g : Nat} {x : Tbl} (h : OkW g x) : (oddsOf x).length ≤ 16 := by
  have h1 := oddsTo_len x x.length
  have h2 := h.2.1
  have : x.length * x.length ≤ 4 * 4 := Nat.mul_le_mul h2 h2
  exact Nat.le_trans h1 this
theorem keys_sub {α : Type} [DecidableEq α] {u : α} : ∀ (l acc : List α), u ∈ l.foldl (fun acc a => if a ∈ acc then acc else acc ++ [a]) acc → u ∈ acc ∨ u ∈ l
  | [], acc, h => .inl h
  | a :: l, acc, h => by
    rw [List.foldl_cons] at h
    rcases keys_sub l _ h with h | h
    · by_cases q : a ∈ acc
      · rw [if_pos q] at h
        exact .inl h
      · rw [if_neg q] at h
        rcases List.mem_append.mp h with h | h
        · exact .inl h
        · exact .inr (by rw [List.mem_singleton.mp h]; exact List.mem_cons_self)
    · exact .inr (List.mem_cons_of_mem _ h)
theorem nexts_mem {x : Tbl} {u : Tbl} (h : u ∈ keysOf ((oddsOf x).map (nextAt x))) : ∃ p ∈ oddsOf x, u = nextAt x p := by
  rcases keys_sub _ [] h with h | h
  · cases h
  · obtain ⟨p, hp, e⟩ := List.mem_map.mp h
    exact ⟨p, hp, e.symm⟩
theorem sortTabs {xs : List Tbl} (h : ∀ t ∈ xs, t ≠ []) : Sortable (xs.map encT) := .inl fun d hd => by
  obtain ⟨t, ht, rfl⟩ := List.mem_map.mp hd
  cases t with
  | nil => exact absurd rfl (h _ ht)
  | cons a r => exact ⟨_, _, rfl⟩
abbrev pNexts (T : List (Addr × Str)) : Sp := SpG T (a1 pT) (fun y => Ok y.1) (pLst pT) (fun y z => z = nextsOf y.1)
theorem scNexts : FnScope ["table", "one", "other"] ["table"] (defScope s_nexts_of) := ⟨rfl, rfl, rfl, by decide +kernel, rfl, by decide +kernel, by decide +kernel⟩
theorem f_nexts_of {j j' j2 : Nat} (B : Blt mg) (Co : Cal P w K mg base "odds_of" ["table"] j (pOdds T)) (Cl : Cal P w K mg base "laid" ["table", "one", "other"] j' (pLaid T)) (Cc : Cal P w K mg base "crowd_of" ["table"] j2 (pCrowd T)) (hj : j ≤ k) (hj' : j' ≤ k) (hj2 : j2 ≤ k) (F : FnP K "nexts_of" s_nexts_of f fd) : FnOk P w K mg base CX0 (k + 1) f fd ["table"] (pNexts T) := by
  refine fn_ok F scNexts len1 fun cdv A outer s H vs Q E ⟨x, _⟩ hr ⟨v, ws, ev, h1, h4⟩ ⟨g, hok⟩ hT k => ?_
  obtain rfl : ws = [] := h4
  subst ev
  have hok : OkW g x := hok
  have hks : ((oddsOf x).foldl (fun acc p => putA acc (nextAt x p) true) []).map (·.1) = keysOf ((oddsOf x).map (nextAt x)) := foldPut_keys (oddsOf x) []
  refine s_cons (s_ret hT (r := pLst pT) (P := is (nextsOf x)) (ev_is (v_sortKeys (kvs := (oddsOf x).foldl (fun acc p => putA acc (nextAt x p) true) []) rfl (un hr 10) B (v_dcP (k := kT) (r := pB) (kf := nextAt x) (vf := fun _ => true) [("one", 1), ("other", 2)] 1 2 imB (un hr 9) rfl scNexts.nd (blkOk_by (N := ["table", "one", "other"]) (sc := defScope s_nexts_of) (by decide +kernel)) (tg_pair rfl scNexts.nd) (i_lst (v_cl Co (hr.mono hj) (a_1 (v_v 0 h1)) ⟨g, hok⟩ fun _ h => h)) ?_ (fun _ _ => rfl) ?_) ?_) ?_) k)
  · exact Nat.le_of_lt (small1000 (Nat.le_trans (ok_len hok) (by decide)))
  · rintro ⟨a, b⟩ hp H1 u u' e1 ru ru' _ ⟨s', H', C', cl, fp, rfl⟩
    obtain ⟨hab, hb⟩ := odds_mem hp
    have ha : a < x.length := by omega
    exact ⟨v_cl Cc (hr.mono hj2) (a_1 (v_cl Cl (hr.mono hj') (a_c (v_v 0 (pT.mono e1.1 h1)) (a_2 (v_v 1 ru) (v_v 2 ru'))) ⟨⟨g, hok⟩, ha, hb⟩ fun _ h => h)) ⟨g, hok.laid ha hb⟩ fun _ h => h, v_bl⟩
  · rw [hks]
    refine sortTabs fun t ht => ?_
    obtain ⟨p, hp, rfl⟩ := nexts_mem ht
    obtain ⟨hab, hb⟩ := odds_mem (show (p.1, p.2) ∈ oddsOf x from hp)
    exact (hok.next (by omega) hb).1
  · rw [hks]
    rfl
theorem scNextCrowds : FnScope ["table"] ["table"] (defScope s_next_crowds) := ⟨rfl, rfl, rfl, by decide +kernel, rfl, by decide +kernel, by decide +kernel⟩
theorem f_next_crowds {j j' : Nat} (Cn : Cal P w K mg base "need_table" ["table"] j' (pNeedTable T)) (C : Cal P w K mg base "nexts_of" ["table"] j (pNexts T)) (hj : j ≤ k) (hj' : j' ≤ k) (F : FnP K "next_crowds" s_next_crowds f fd) : FnOk P w K mg base CX0 (k + 1) f fd ["table"] (pNexts T) := by
  refine fn_ok F scNextCrowds len1 fun cdv A outer s H vs Q E ⟨x, _⟩ hr ⟨v, ws, ev, h1, h4⟩ hok hT k => ?_
  obtain rfl : ws = [] := h4
  subst ev
  refine s_cons (s_drop hT (r := pU) (P := fun _ => True) (v_cl Cn (hr.mono hj') (a_1 (v_v 0 h1)) hok fun _ h => h) fun _ _ H1 e1 _ _ => ?_)
  exact s_cons (s_ret e1.2 (r := pLst pT) (P := is (nextsOf x)) (v_cl C (hr.mono hj) (a_1 (v_v 0 (pT.mono e1.1 h1))) hok fun _ h => h) fun u z H2 e2 rl pz => k u z H2 (e1.trans e2) rl pz)
end
end LT
/-! ## LtD3 -/
set_option Elab.async false
set_option linter.all false
set_option maxRecDepth 100000
set_option maxHeartbeats 4000000
namespace LT
open PySem PySem.W PySem.Spec PyProof.Rows L2 LamX

section
variable {α : Type} {X : Cx} {T : List (Addr × Str)} {e : Expr} {r : Rp α} {σ : L2.St} {H : Hp} {pos p p2 p3 : Pos} {xs : List α}
/-- (), t[1:] -/
theorem v_unit {kk : Nat} : VE X T (.Tuple [] kk pos) (pTup r) σ H (is []) := ve_of (pe_tup pa_nil) fun H1 e1 Q k => ⟨Nat.zero_le _, fun p hp => k _ _ _ (Ex.new e1.2 hp) ⟨p, [], rfl, upd_same, .nil⟩ rfl⟩
theorem v_tail {jj : Nat} (ha : VE X T e (pTup r) σ H (is xs)) (hne : xs ≠ []) : VE X T (.Subscript e (.Slice (some (.Constant (.int 1) jj p)) none none p2) pos) (pTup r) σ H (is xs.tail) :=
  ve_of (pe_slice sl_tupA pe_o (po_some pe_int) po_none) fun H1 e1 Q k => ha H1 e1 _ fun v z H2 e2 ⟨a, vs, ev, h1, h2⟩ pz => by
    subst ev
    rw [show z = xs from pz] at h2
    have hl : 0 < vs.length := by
      rw [h2.length]
      exact List.length_pos_iff.mpr hne
    have hs : HT.sIx vs.length 0 (some 1) = 1 := by
      have := HT.sIx_nat vs.length 0 1
      rw [Nat.min_eq_left (by omega)] at this
      exact this
    refine ⟨1, rfl, a, vs, rfl, sq_t h1, fun q => ?_, fun _ p hp => k _ _ _ (e2.trans (Ex.new e2.2 hp)) ⟨p, vs.tail, rfl, ?_, ?_⟩ rfl⟩
    · rw [hs] at q
      exact absurd q.1 (by decide)
    · unfold cutV
      rw [hs, HT.sIx_none, upd_same, List.take_of_length_le (by rw [List.length_drop]; exact Nat.le_refl _), List.drop_one]
    · have h3 := Paired.dp 1 h2
      rw [List.drop_one, List.drop_one] at h3
      exact paired_imp (fun _ _ => r.mono (extn_new hp)) h3
end
theorem dec_mem {α : Type} [DecidableEq α] {x : α} {xs : List α} (h : x ∈ xs) : decide (x ∈ xs) = true := decide_eq_true h
section
variable {P : Program} {w : World} {K : PySem.W.Frag} {mg : Str → Option Value} {base : Heap} {T : List (Addr × Str)} {f : Addr} {fd : FuncData} {k : Nat}
abbrev pTower (T : List (Addr × Str)) : Sp := SpG T (a1 pT) (fun y => Ok y.1) pT (fun y z => z = towerOf y.1)
theorem scTowerOf : FnScope ["table", "sides", "good", "row", "at", "side"] ["table"] (defScope s_tower_of) := ⟨rfl, rfl, rfl, by decide +kernel, rfl, by decide +kernel, by decide +kernel⟩
theorem f_tower_of (B : Blt mg) (F : FnP K "tower_of" s_tower_of f fd) : FnOk P w K mg base CX0 (k + 1) f fd ["table"] (pTower T) := by
  refine fn_ok F scTowerOf len1 fun cdv A outer s H vs Q E ⟨x, _⟩ hr ⟨v, ws, ev, h1, h4⟩ ⟨g, hok⟩ hT k => ?_
  obtain rfl : ws = [] := h4
  subst ev
  have hok : OkW g x := hok
  have l1 := hok.pos
  have l2 := hok.2.1
  have l3 := hok.2.2.2.1
  obtain ⟨r0, hr0, er0, hm0, hl0⟩ := hok.row l1
  refine s_cons (s_set 1 hT (r := pLst (pLst pI)) (P := is ((List.range g).map (sideOf x))) (v_lc (lc_nF (f := sideOf x) [("good", 2)] 2 imI scTowerOf.nd (blkOk_by (N := ["table", "sides", "good", "row", "at", "side"]) (sc := defScope s_tower_of) (by decide +kernel)) (tg_name scTowerOf.nd) (i_rng1 B (ev_is (v_lenT B (v_ixT (v_v 0 h1) (v_nat (n := 0)) hr0)) hl0) (by omega)) ?_ (fun _ => rfl) ?_) rfl scTowerOf.nd) scTowerOf.nd ?_)
  · rw [List.length_range]
    exact Nat.le_of_lt (small1000 (by omega))
  · rintro n hn H1 u e1 ru _ ⟨s', H', C', cl, fp, rfl⟩
    have hn := List.mem_range.mp hn
    refine f_rev1 (v_sortInts rfl (un hr 10) B (v_lc (lc_n (f := fun r : Row => r.getD n 0) [("row", 3)] 3 imI scTowerOf.nd (blkOk_by (N := ["table", "sides", "good", "row", "at", "side"]) (sc := relS _ (defScope s_tower_of)) (by decide +kernel)) (tg_name scTowerOf.nd) (i_tup (v_v 0 (pT.mono e1.1 h1))) ?_ (fun _ => rfl) ?_) rfl scTowerOf.nd))
    · exact Nat.le_of_lt (small1000 (by show x.length ≤ 1000; omega))
    · rintro row hrow H2 u2 e2 ru2 _ ⟨s2, H2', C2, cl2, fp2, rfl⟩
      have hl : row.length = g := (hok.2.2.2.2 row hrow).1
      exact v_ixT (v_v 3 ru2) (v_v 2 (pN.mono e2.1 ru)) (by rw [List.getD_eq_getElem?_getD, List.getElem?_eq_getElem (by omega)]; rfl)
  intro vs z H1 e1 rs pz
  obtain rfl : z = _ := pz
  have hsl : ∀ n, (sideOf x n).length = x.length := fun n => by
    unfold sideOf colOf
    rw [List.length_reverse, List.length_mergeSort, List.length_map]
  refine s_cons (s_ret e1.2 (r := pT) (P := is (towerOf x)) (ev_is (v_tup B (v_lc (lc_n (f := fun i => (List.range g).map fun n => (sideOf x n).getD i 0) [("at", 4)] 4 imR scTowerOf.nd (blkOk_by (N := ["table", "sides", "good", "row", "at", "side"]) (sc := defScope s_tower_of) (by decide +kernel)) (tg_name scTowerOf.nd) (i_rng1 B (v_lenT B (v_v 0 (pT.mono e1.1 h1))) (show x.length < 2 ^ 62 by omega)) ?_ (fun _ => rfl) ?_) rfl scTowerOf.nd)) ?_) fun u z H2 e2 rl pz => k u z H2 (e1.trans e2) rl pz)
  · rw [List.length_range]
    exact Nat.le_of_lt (small1000 (by show x.length ≤ 1000; omega))
  · rintro i hi H2 u e2 ru _ ⟨s', H', C', cl, fp, rfl⟩
    have hi : i < x.length := List.mem_range.mp hi
    refine v_tup B (ev_is (v_lc (lc_n (f := fun sd : List Int => sd.getD i 0) [("side", 5)] 5 imI scTowerOf.nd (blkOk_by (N := ["table", "sides", "good", "row", "at", "side"]) (sc := relS _ (defScope s_tower_of)) (by decide +kernel)) (tg_name scTowerOf.nd) (i_lst (v_v 1 ((pLst (pLst pI)).mono e2.1 rs))) ?_ (fun _ => rfl) ?_) rfl scTowerOf.nd) ?_)
    · rw [List.length_map, List.length_range]
      exact Nat.le_of_lt (small1000 (by omega))
    · rintro sd hsd H3 u3 e3 ru3 _ ⟨s3, H3', C3, cl3, fp3, rfl⟩
      obtain ⟨n, hn, rfl⟩ := List.mem_map.mp hsd
      exact v_ixL (v_v 5 ru3) (v_v 4 (pN.mono e3.1 ru)) (by rw [List.getD_eq_getElem?_getD, List.getElem?_eq_getElem (by rw [hsl]; exact hi)]; rfl)
    · rw [List.map_map]
      rfl
  · unfold towerOf
    rw [er0, hl0]
theorem scTower : FnScope ["table"] ["table"] (defScope s_tower) := ⟨rfl, rfl, rfl, by decide +kernel, rfl, by decide +kernel, by decide +kernel⟩
theorem f_tower {j j' : Nat} (Cn : Cal P w K mg base "need_table" ["table"] j' (pNeedTable T)) (C : Cal P w K mg base "tower_of" ["table"] j (pTower T)) (hj : j ≤ k) (hj' : j' ≤ k) (F : FnP K "tower" s_tower f fd) : FnOk P w K mg base CX0 (k + 1) f fd ["table"] (pTower T) := by
  refine fn_ok F scTower len1 fun cdv A outer s H vs Q E ⟨x, _⟩ hr ⟨v, ws, ev, h1, h4⟩ hok hT k => ?_
  obtain rfl : ws = [] := h4
  subst ev
  refine s_cons (s_drop hT (r := pU) (P := fun _ => True) (v_cl Cn (hr.mono hj') (a_1 (v_v 0 h1)) hok fun _ h => h) fun _ _ H1 e1 _ _ => ?_)
  exact s_cons (s_ret e1.2 (r := pT) (P := is (towerOf x)) (v_cl C (hr.mono hj) (a_1 (v_v 0 (pT.mono e1.1 h1))) hok fun _ h => h) fun u z H2 e2 rl pz => k u z H2 (e1.trans e2) rl pz)
/-! rows of crowds -/
def Chain (xs : List Tbl) : Prop := ∀ p ∈ xs.zip xs.tail, p.2 ∈ nextsOf p.1
abbrev pDeeds (T : List (Addr × Str)) : Sp := SpG T (a1 (pTup pT)) (fun y => y.1 ≠ [] ∧ y.1.length ≤ 1000 ∧ (∀ t ∈ y.1, Ok t ∧ crowdOf t = t) ∧ Chain y.1) pB (fun _ b => b = true)
theorem scDeeds : FnScope ["value", "told", "later"] ["value"] (defScope s_is_row_of_deeds) := ⟨rfl, rfl, rfl, by decide +kernel, rfl, by decide +kernel, by decide +kernel⟩
theorem eqv_tup (xs : List Tbl) : PyData.eqv (.tuple (xs.map encT)) (.tuple ([].map encT)) = decide (xs = []) := by
  simp only [PyData.eqv]
  exact eqv_map eqv_T xs []
theorem f_is_row_of_deeds {j j2 j3 : Nat} (B : Blt mg) (Ct : Cal P w K mg base "is_table" ["value"] j (pIsTable T)) (Cc : Cal P w K mg base "crowd_of" ["table"] j2 (pCrowd T)) (Cn : Cal P w K mg base "nexts_of" ["table"] j3 (pNexts T)) (hj : j ≤ k) (hj2 : j2 ≤ k) (hj3 : j3 ≤ k) (F : FnP K "is_row_of_deeds" s_is_row_of_deeds f fd) :
    FnOk P w K mg base CX0 (k + 1) f fd ["value"] (pDeeds T) := by
  refine fn_ok F scDeeds len1 fun cdv A outer s H vs Q E ⟨x, _⟩ hr ⟨v, ws, ev, h1, h4⟩ ⟨hne, hl, hok, hch⟩ hT k => ?_
  obtain rfl : ws = [] := h4
  subst ev
  have hne : x ≠ [] := hne
  have hl : x.length ≤ 1000 := hl
  have hok : ∀ t ∈ x, Ok t ∧ crowdOf t = t := hok
  have hch : Chain x := hch
  have hz : x.length ≤ sizeLine := Nat.le_of_lt (small1000 hl)
  refine s_cons (s_if hT (bx := false) (t_w (w_or (bx := false) (bz := false) (t_not (bx := true) (t_v (v_isi B (by decide) PyProof.Rows.boot_tuple (v_v 0 h1) (fun H v x h _ => tyT h) (by decide +kernel)))) fun _ => w_or (bx := false) (bz := false) (t_c (c_eqD (fun xs : List Tbl => .tuple (xs.map encT)) (fun xs : List Tbl => .tuple (xs.map encT)) hr.units (v_v 0 h1) (v_unit (r := pT)) (fun _ _ _ => dp_tup fun _ _ => dpT) (fun _ _ _ => dp_tup fun _ _ => dpT) (shp_t 2 (by decide) lay_T depth_T _) (shp_t 2 (by decide) lay_T depth_T _) ((eqv_tup x).trans (decide_eq_false hne)))) fun _ => w_or1 (t_not (bx := true) (t_v (ev_is (v_all rfl B (v_lc (lc_n (f := fun _ => true) [("told", 1)] 1 imB scDeeds.nd (blkOk_by (N := ["value", "told", "later"]) (sc := defScope s_is_row_of_deeds) (by decide +kernel)) (tg_name scDeeds.nd) (i_tup (v_v 0 h1)) hz (fun _ => rfl) ?_) rfl scDeeds.nd)) ?_))))) (fun h => by cases h) fun _ H1 e1 => s_nil ?_)
  · rintro t ht H1 u e1 ru _ ⟨s', H', C', cl, fp, rfl⟩
    exact v_cl Ct (hr.mono hj) (a_1 (v_v 1 ru)) (hok t ht).1 fun _ h => h
  · simp
  have x1 : (pTup pT).rel H1 v x := (pTup pT).mono e1.1 h1
  refine s_cons (s_if e1.2 (bx := false) (t_v (ev_is (v_any rfl B (v_lc (lc_n (f := fun _ => false) [("told", 1)] 1 imB scDeeds.nd (blkOk_by (N := ["value", "told", "later"]) (sc := defScope s_is_row_of_deeds) (by decide +kernel)) (tg_name scDeeds.nd) (i_tup (v_v 0 x1)) hz (fun _ => rfl) ?_) rfl scDeeds.nd)) ?_)) (fun h => by cases h) fun _ H2 e2 => s_nil ?_)
  · rintro t ht H2 u e2 ru _ ⟨s', H', C', cl, fp, rfl⟩
    refine v_c (c_is (c_neT (un hr 64) (v_v 1 ru) (v_cl Cc (hr.mono hj2) (a_1 (v_v 1 ru)) (hok t ht).1 fun _ h => h)) ?_)
    rw [show crowdOf t = t from (hok t ht).2]
    simp
  · simp
  have x2 : (pTup pT).rel H2 v x := (pTup pT).mono e2.1 x1
  refine s_cons (s_ret e2.2 (r := pB) (P := is true) (ev_is (v_all rfl B (v_lc (lc_p (f := fun _ => true) [("told", 1), ("later", 2)] 1 2 imB scDeeds.nd (blkOk_by (N := ["value", "told", "later"]) (sc := defScope s_is_row_of_deeds) (by decide +kernel)) (tg_pair rfl scDeeds.nd) (i_zip B imT imT (v_v 0 x2) (v_tail (v_v 0 x2) hne)) ?_ (fun _ _ => rfl) ?_) rfl scDeeds.nd)) ?_) fun u z H3 e3 rl pz => k u z H3 (e1.trans (e2.trans e3)) rl pz)
  · rw [List.length_zip]
    omega
  · rintro ⟨t, t'⟩ ht H3 u u' e3 ru ru' _ ⟨s', H', C', cl, fp, rfl⟩
    refine v_c (c_is (c_inL (n := 2) encT 2 (by decide) eqv_T (un hr 65) (v_v 2 ru') (v_cl Cn (hr.mono hj3) (a_1 (v_v 1 ru)) (hok t (List.of_mem_zip ht).1).1 fun _ h => h) (fun _ _ _ => dpT) lay_T depth_T) (dec_mem (hch _ ht)))
  · simp
end
end LT
/-! ## LtD4 -/
set_option Elab.async false
set_option linter.all false
set_option maxRecDepth 100000
set_option maxHeartbeats 4000000
namespace LT
open PySem PySem.W PySem.Spec PyProof.Rows L2 LamX

section
variable {α : Type} {X : Cx} {T : List (Addr × Str)} {a b e : Expr} {r : Rp α} {σ : L2.St} {H : Hp} {pos p p2 p3 : Pos} {xs : List α} {x : α} {n : Nat}
theorem atI_last {vs : List V} {v : V} (h : vs.getLast? = some v) : atI vs (-1) = some v := by
  have hl : 0 < vs.length := by
    cases vs with
    | nil => simp at h
    | cons a l => simp
  unfold atI ixN
  rw [if_neg (by decide), if_pos (by omega)]
  rw [List.getLast?_eq_getElem?] at h
  show vs[((-1 : Int) + vs.length).toNat]? = some v
  rw [show ((-1 : Int) + vs.length).toNat = vs.length - 1 by omega]
  exact h
theorem paired_last {F : V → α → Prop} : ∀ {vs : List V} {ys : List α} {y : α}, Paired F vs ys → ys.getLast? = some y → ∃ v, vs.getLast? = some v ∧ F v y
  | [], [], _, .nil, h => by simp at h
  | [v], [y], z, .cons r .nil, h => ⟨v, rfl, by simp at h; subst h; exact r⟩
  | v :: v' :: vs, y :: y' :: ys, z, .cons r (.cons r' t), h => by
    obtain ⟨u, h1, h2⟩ := paired_last (.cons r' t) (by simpa using h)
    exact ⟨u, by simpa using h1, h2⟩
theorem v_neg1 {jj : Nat} : VE X T (.UnaryOp .USub (.Constant (.int 1) jj p) pos) pI σ H (is (-1)) := ve_of (pe_un un_neg pe_int) fun H1 e1 Q k => ⟨1, rfl, k _ _ H1 e1.here rfl rfl⟩
theorem v_lastT {jj : Nat} (ha : VE X T a (pTup r) σ H (is xs)) (hx : xs.getLast? = some x) : VE X T (.Subscript a (.UnaryOp .USub (.Constant (.int 1) jj p) p2) pos) r σ H (is x) :=
  ve_of (pe_ix ix_tup pe_o pe_o (fun _ _ => rfl)) (ev_op ha (v_neg1 (X := X) (T := T)) fun v w ys m H1 e rx ry px py Q k => by
    obtain ⟨q, vs, rfl, h1, h2⟩ := rx
    rw [show ys = xs from px] at h2
    obtain ⟨u, hu, ru⟩ := paired_last h2 hx
    exact ⟨q, vs, -1, u, rfl, by rw [show w = _ from ry, show m = -1 from py], sq_t h1, atI_last hu, k _ _ H1 e.here ru rfl⟩)
theorem v_lastL {jj : Nat} (ha : VE X T a (pLst r) σ H (is xs)) (hx : xs.getLast? = some x) : VE X T (.Subscript a (.UnaryOp .USub (.Constant (.int 1) jj p) p2) pos) r σ H (is x) :=
  ve_of (pe_ix ix_list pe_o pe_o (fun _ _ => rfl)) (ev_op ha (v_neg1 (X := X) (T := T)) fun v w ys m H1 e rx ry px py Q k => by
    obtain ⟨q, vs, rfl, h1, h2⟩ := rx
    rw [show ys = xs from px] at h2
    obtain ⟨u, hu, ru⟩ := paired_last h2 hx
    exact ⟨q, vs, -1, u, rfl, by rw [show w = _ from ry, show m = -1 from py], sq_l h1, atI_last hu, k _ _ H1 e.here ru rfl⟩)
/-- list(range(n)), tuple(range(n)) -/
theorem rgV_nat (n : Nat) {H : Hp} : Paired (pN.rel H) (rgV 0 (n : Int)) (List.range n) := by
  unfold rgV
  have key : ∀ l : List Nat, Paired (pN.rel H) (l.map fun i => V.int (0 + (i : Nat))) l := by
    intro l
    induction l with
    | nil => exact .nil
    | cons a l ih => exact .cons (by show V.int _ = V.int _; rw [Int.zero_add]) ih
  rw [show ((n : Int) - 0).toNat = n by omega]
  exact key _
theorem f_listRg (hc : X.calm = true) (B : Blt X.mg) (ha : VE X T a pN σ H (is n)) (hn : n ≤ 1000) (hg : Gl X "list" := by rfl) (hg' : Gl X "range" := by rfl) (na : starEach [a] X.env = (false, eval a X.env) :: starEach [] X.env := by rfl)
    (na' : starEach [.Call (.Name "range" p2) [a] [] p3] X.env = (false, eval (.Call (.Name "range" p2) [a] [] p3) X.env) :: starEach [] X.env := by rfl) : VF X T (.Call (.Name "list" p) [.Call (.Name "range" p2) [a] [] p3] [] pos) (pLst pN) σ H (is (List.range n)) :=
  vf_of (pe_listRg hc hg (B _ (by decide)) (prg_1 hg' (B _ (by decide)) pe_o na) na') fun H1 e1 Q k => ha H1 e1 _ fun v m H2 e2 rv pm => ⟨n, by rw [show v = _ from rv, show m = n from pm], RgOk.of_le (by omega) (by omega) (by omega) (by omega), fun q hq => k q _ _ (e2.trans (Ex.new e2.2 hq)) (e2.fr0 hq) ⟨q, _, rfl, upd_same, rgV_nat n⟩ rfl⟩
theorem v_tupRg (hc : X.calm = true) (B : Blt X.mg) (ha : VE X T a pN σ H (is n)) (hn : n ≤ 1000) (hg : Gl X "tuple" := by rfl) (hg' : Gl X "range" := by rfl) (na : starEach [a] X.env = (false, eval a X.env) :: starEach [] X.env := by rfl)
    (na' : starEach [.Call (.Name "range" p2) [a] [] p3] X.env = (false, eval (.Call (.Name "range" p2) [a] [] p3) X.env) :: starEach [] X.env := by rfl) : VE X T (.Call (.Name "tuple" p) [.Call (.Name "range" p2) [a] [] p3] [] pos) (pTup pN) σ H (is (List.range n)) :=
  ve_of (pe_tupRg hc hg (B _ (by decide)) (prg_1 hg' (B _ (by decide)) pe_o na) na') fun H1 e1 Q k => ha H1 e1 _ fun v m H2 e2 rv pm => ⟨n, by rw [show v = _ from rv, show m = n from pm], RgOk.of_le (by omega) (by omega) (by omega) (by omega), fun q hq => k _ _ _ (e2.trans (Ex.new e2.2 hq)) ⟨q, _, rfl, upd_same, rgV_nat n⟩ rfl⟩
/-- a tuple of numbers as a tuple of ints -/
theorem v_asI {ns : List Nat} (h : VE X T e (pTup pN) σ H (is ns)) : VE X T e pR σ H (is (ns.map fun n : Nat => (n : Int))) := Ev.as (fun ns : List Nat => ns.map fun n : Nat => (n : Int)) h fun H v x ⟨q, vs, ev, h1, h2⟩ px => ⟨⟨q, vs, ev, h1, Paired.pow (f := fun n : Nat => (n : Int)) (G := pI.rel H) (fun _ _ z => z) h2⟩, by rw [show x = ns from px]⟩
end
section
variable {P : Program} {w : World} {K : PySem.W.Frag} {mg : Str → Option Value} {base : Heap} {T : List (Addr × Str)} {f : Addr} {fd : FuncData} {k : Nat}
abbrev pShowsTower (T : List (Addr × Str)) : Sp := SpG T (a2 pT (pTup pT)) (fun y => Ok y.1 ∧ y.2.1 ≠ [] ∧ y.2.1.length ≤ 1000 ∧ (∀ t ∈ y.2.1, Ok t ∧ crowdOf t = t) ∧ Chain y.2.1) pB (fun y b => ∃ t0 t1, y.2.1.head? = some t0 ∧ y.2.1.getLast? = some t1 ∧ b = (decide (t0 = crowdOf y.1) && decide (t1 = towerOf y.1)))
theorem scWritten : FnScope ["value", "told"] ["value"] (defScope s_is_written) := ⟨rfl, rfl, rfl, by decide +kernel, rfl, by decide +kernel, by decide +kernel⟩
theorem f_is_written {j j2 : Nat} (B : Blt mg) (Ct : Cal P w K mg base "is_table" ["value"] j (pIsTable T)) (Cc : Cal P w K mg base "crowd_of" ["table"] j2 (pCrowd T)) (hj : j ≤ k) (hj2 : j2 ≤ k) (F : FnP K "is_written" s_is_written f fd) : FnOk P w K mg base CX0 (k + 1) f fd ["value"] (pDeeds T) := by
  refine fn_ok F scWritten len1 fun cdv A outer s H vs Q E ⟨x, _⟩ hr ⟨v, ws, ev, h1, h4⟩ ⟨hne, hl, hok, hch⟩ hT k => ?_
  obtain rfl : ws = [] := h4
  subst ev
  have hne : x ≠ [] := hne
  have hl : x.length ≤ 1000 := hl
  have hok : ∀ t ∈ x, Ok t ∧ crowdOf t = t := hok
  have hz : x.length ≤ sizeLine := Nat.le_of_lt (small1000 hl)
  refine s_cons (s_if hT (bx := false) (t_w (w_or (bx := false) (bz := false) (t_not (bx := true) (t_v (v_isi B (by decide) PyProof.Rows.boot_tuple (v_v 0 h1) (fun H v x h _ => tyT h) (by decide +kernel)))) fun _ => w_or (bx := false) (bz := false) (t_c (c_eqD (fun xs : List Tbl => .tuple (xs.map encT)) (fun xs : List Tbl => .tuple (xs.map encT)) hr.units (v_v 0 h1) (v_unit (r := pT)) (fun _ _ _ => dp_tup fun _ _ => dpT) (fun _ _ _ => dp_tup fun _ _ => dpT) (shp_t 2 (by decide) lay_T depth_T _) (shp_t 2 (by decide) lay_T depth_T _) ((eqv_tup x).trans (decide_eq_false hne)))) fun _ => w_or1 (t_not (bx := true) (t_v (ev_is (v_all rfl B (v_lc (lc_n (f := fun _ => true) [("told", 1)] 1 imB scWritten.nd (blkOk_by (N := ["value", "told"]) (sc := defScope s_is_written) (by decide +kernel)) (tg_name scWritten.nd) (i_tup (v_v 0 h1)) hz (fun _ => rfl) ?_) rfl scWritten.nd)) ?_))))) (fun h => by cases h) fun _ H1 e1 => s_nil ?_)
  · rintro t ht H1 u e1 ru _ ⟨s', H', C', cl, fp, rfl⟩
    exact v_cl Ct (hr.mono hj) (a_1 (v_v 1 ru)) (hok t ht).1 fun _ h => h
  · simp
  have x1 : (pTup pT).rel H1 v x := (pTup pT).mono e1.1 h1
  refine s_cons (s_ret e1.2 (r := pB) (P := is true) (ev_is (v_all rfl B (v_lc (lc_n (f := fun _ => true) [("told", 1)] 1 imB scWritten.nd (blkOk_by (N := ["value", "told"]) (sc := defScope s_is_written) (by decide +kernel)) (tg_name scWritten.nd) (i_tup (v_v 0 x1)) hz (fun _ => rfl) ?_) rfl scWritten.nd)) ?_) fun u z H3 e3 rl pz => k u z H3 (e1.trans e3) rl pz)
  · rintro t ht H2 u e2 ru _ ⟨s', H', C', cl, fp, rfl⟩
    refine v_c (c_is (c_eqT (un hr 64) (v_v 1 ru) (v_cl Cc (hr.mono hj2) (a_1 (v_v 1 ru)) (hok t ht).1 fun _ h => h)) ?_)
    rw [show crowdOf t = t from (hok t ht).2]
    simp
  · simp
theorem scDown : FnScope ["value", "told", "later"] ["value"] (defScope s_is_down) := ⟨rfl, rfl, rfl, by decide +kernel, rfl, by decide +kernel, by decide +kernel⟩
theorem f_is_down {j j3 : Nat} (B : Blt mg) (Cw : Cal P w K mg base "is_written" ["value"] j (pDeeds T)) (Cn : Cal P w K mg base "nexts_of" ["table"] j3 (pNexts T)) (hj : j ≤ k) (hj3 : j3 ≤ k) (F : FnP K "is_down" s_is_down f fd) : FnOk P w K mg base CX0 (k + 1) f fd ["value"] (pDeeds T) := by
  refine fn_ok F scDown len1 fun cdv A outer s H vs Q E ⟨x, _⟩ hr ⟨v, ws, ev, h1, h4⟩ hp hT k => ?_
  obtain ⟨hne, hl, hok, hch⟩ := id hp
  obtain rfl : ws = [] := h4
  subst ev
  have hne : x ≠ [] := hne
  have hl : x.length ≤ 1000 := hl
  have hok : ∀ t ∈ x, Ok t ∧ crowdOf t = t := hok
  have hch : Chain x := hch
  have hz : x.length ≤ sizeLine := Nat.le_of_lt (small1000 hl)
  refine s_cons (s_ret hT (r := pB) (P := is true) (v_and (bx := true) (bz := true) (v_cl Cw (hr.mono hj) (a_1 (v_v 0 h1)) hp fun _ h => h) fun _ => v_one (ev_is (v_all rfl B (v_lc (lc_p (f := fun _ => true) [("told", 1), ("later", 2)] 1 2 imB scDown.nd (blkOk_by (N := ["value", "told", "later"]) (sc := defScope s_is_down) (by decide +kernel)) (tg_pair rfl scDown.nd) (i_zip B imT imT (v_v 0 h1) (v_tail (v_v 0 h1) hne)) ?_ (fun _ _ => rfl) ?_) rfl scDown.nd)) ?_)) k)
  · rw [List.length_zip]
    show min x.length _ ≤ _
    omega
  · rintro ⟨t, t'⟩ ht H3 u u' e3 ru ru' _ ⟨s', H', C', cl, fp, rfl⟩
    refine v_c (c_is (c_inL (n := 2) encT 2 (by decide) eqv_T (un hr 65) (v_v 2 ru') (v_cl Cn (hr.mono hj3) (a_1 (v_v 1 ru)) (hok t (List.of_mem_zip ht).1).1 fun _ h => h) (fun _ _ _ => dpT) lay_T depth_T) (dec_mem (hch _ ht)))
  · simp
theorem scShowsTower : FnScope ["table", "value"] ["table", "value"] (defScope s_shows_to_tower) := ⟨rfl, rfl, rfl, by decide +kernel, rfl, by decide +kernel, by decide +kernel⟩
theorem f_shows_to_tower {j j2 j3 j4 : Nat} (Cnt : Cal P w K mg base "need_table" ["table"] j4 (pNeedTable T)) (Cd : Cal P w K mg base "is_down" ["value"] j (pDeeds T)) (Cc : Cal P w K mg base "crowd_of" ["table"] j2 (pCrowd T)) (Ct : Cal P w K mg base "tower_of" ["table"] j3 (pTower T)) (hj : j ≤ k) (hj2 : j2 ≤ k) (hj3 : j3 ≤ k) (hj4 : j4 ≤ k) (F : FnP K "shows_to_tower" s_shows_to_tower f fd) :
    FnOk P w K mg base CX0 (k + 1) f fd ["table", "value"] (pShowsTower T) := by
  refine fn_ok F scShowsTower len2 fun cdv A outer s H vs Q E ⟨t, x, _⟩ hr ⟨v, ws, ev, h1, v2, ws2, e2, h2, h4⟩ ⟨hok, hp⟩ hT k => ?_
  obtain rfl : ws2 = [] := h4
  subst ev e2
  have hne : x ≠ [] := hp.1
  obtain ⟨t0, l, rfl⟩ := List.exists_cons_of_ne_nil hne
  obtain ⟨t1, hl1⟩ : ∃ t1, (t0 :: l).getLast? = some t1 := by
    cases q : (t0 :: l).getLast? with
    | none => simp at q
    | some t1 => exact ⟨t1, rfl⟩
  refine s_cons (s_drop hT (r := pU) (P := fun _ => True) (v_cl Cnt (hr.mono hj4) (a_1 (v_v 0 h1)) hok fun _ h => h) fun _ _ H1 e1 _ _ => ?_)
  have x1 : (pTup pT).rel H1 v2 (t0 :: l) := (pTup pT).mono e1.1 h2
  have y1 : pT.rel H1 v t := pT.mono e1.1 h1
  refine s_cons (s_ret e1.2 (r := pB) (P := is (decide (t0 = crowdOf t) && decide (t1 = towerOf t))) (ev_is (v_and (bx := true) (bz := decide (t0 = crowdOf t) && decide (t1 = towerOf t)) (v_cl Cd (hr.mono hj) (a_1 (v_v 1 x1)) hp fun _ h => h) fun _ => v_and (v_c (c_eqT (un hr 64) (v_ixT (v_v 1 x1) (v_nat (n := 0)) rfl) (v_cl Cc (hr.mono hj2) (a_1 (v_v 0 y1)) hok fun _ h => h))) fun _ => v_one (v_c (c_eqT (un hr 64) (v_lastT (v_v 1 x1) hl1) (v_cl Ct (hr.mono hj3) (a_1 (v_v 0 y1)) hok fun _ h => h)))) (Bool.true_and _)) fun u z H2 e2 rl pz => k u z H2 (e1.trans e2) rl ⟨t0, t1, rfl, hl1, pz⟩)
end
end LT
/-! ## LtBfs -/
set_option Elab.async false
set_option linter.all false
set_option maxRecDepth 100000
set_option maxHeartbeats 4000000
namespace LT
open PySem PySem.W PySem.Spec PyProof.Rows L2 LamX

def oddsN (t : Tbl) : Nat := (oddsOf t).length
/-- n deeds lead from a to b -/
inductive Path : Nat → Tbl → Tbl → Prop
  | nil (t) : Path 0 t t
  | snoc {n a b c} : Path n a b → c ∈ nextsOf b → Path (n + 1) a c
def Rch (a b : Tbl) : Prop := ∃ n, Path n a b
/-- each deed lessens the pairs at odds; a fact of the game -/
def Less : Prop := ∀ g t u, OkW g t → u ∈ nextsOf t → oddsN u < oddsN t
theorem next_ok {g : Nat} {t u : Tbl} (h : OkW g t) (hu : u ∈ nextsOf t) : OkW g u := by
  unfold nextsOf at hu
  obtain ⟨p, hp, rfl⟩ := nexts_mem ((List.mergeSort_perm _ _).mem_iff.mp hu)
  obtain ⟨hab, hb⟩ := odds_mem (show (p.1, p.2) ∈ oddsOf t from hp)
  exact h.next (by omega) hb
theorem Path.ok {g n : Nat} {a b : Tbl} (p : Path n a b) (h : OkW g a) : OkW g b := by
  induction p with
  | nil => exact h
  | snoc p hc ih => exact next_ok (ih h) hc
theorem Path.odds (L : Less) {g n : Nat} {a b : Tbl} (p : Path n a b) (h : OkW g a) : n + oddsN b ≤ oddsN a := by
  induction p with
  | nil => omega
  | snoc p hc ih =>
    have := L _ _ _ (p.ok h) hc
    have := ih h
    omega
theorem Path.cons {n : Nat} {a b c : Tbl} (h : b ∈ nextsOf a) (p : Path n b c) : Path (n + 1) a c := by
  induction p with
  | nil => exact .snoc (.nil _) h
  | snoc p hc ih => exact .snoc (ih h) hc
theorem Path.uncons {n : Nat} {a c : Tbl} (p : Path (n + 1) a c) : ∃ b, b ∈ nextsOf a ∧ Path n b c := by
  generalize hm : n + 1 = m at p
  induction p generalizing n with
  | nil => omega
  | @snoc k a b c p hc ih =>
    cases k with
    | zero =>
      cases p
      obtain rfl : n = 0 := by omega
      exact ⟨c, hc, .nil _⟩
    | succ k =>
      obtain ⟨d, hd, q⟩ := ih (n := k) rfl
      obtain rfl : n = k + 1 := by omega
      exact ⟨d, hd, .snoc q hc⟩
/-- how many can be reached -/
def most : Nat → Nat
  | 0 => 1
  | n + 1 => 1 + (n + 1) * most n
theorem nodup_sub {α : Type} [DecidableEq α] : ∀ {l m : List α}, l.Nodup → (∀ x ∈ l, x ∈ m) → l.length ≤ m.length
  | [], _, _, _ => Nat.zero_le _
  | a :: l, m, h, s => by
    rw [List.nodup_cons] at h
    have ha := s a List.mem_cons_self
    have := nodup_sub (l := l) (m := m.erase a) h.2 fun x hx => by
      have hne : x ≠ a := fun z => h.1 (z ▸ hx)
      exact (List.mem_erase_of_ne hne).mpr (s x (List.mem_cons_of_mem _ hx))
    rw [List.length_erase_of_mem ha] at this
    have := List.length_pos_of_mem ha
    rw [List.length_cons]
    omega
theorem keys_len {α : Type} [DecidableEq α] : ∀ (l acc : List α), (l.foldl (fun acc a => if a ∈ acc then acc else acc ++ [a]) acc).length ≤ acc.length + l.length
  | [], acc => by simp
  | a :: l, acc => by
    rw [List.foldl_cons, List.length_cons]
    have := keys_len l (if a ∈ acc then acc else acc ++ [a])
    split at this
    · rename_i q
      rw [if_pos q]
      omega
    · rename_i q
      rw [if_neg q]
      rw [List.length_append, List.length_singleton] at this
      omega
theorem nexts_len (t : Tbl) : (nextsOf t).length ≤ oddsN t := by
  unfold nextsOf
  rw [List.length_mergeSort]
  have := keys_len ((oddsOf t).map (nextAt t)) []
  rw [List.length_map] at this
  simpa [keysOf, oddsN] using this
/-- all that can be reached, with repetitions -/
def reachL : Nat → Tbl → List Tbl
  | 0, t => [t]
  | n + 1, t => t :: (nextsOf t).flatMap (reachL n)
theorem reachL_mem : ∀ {m n : Nat} {a b : Tbl}, Path n a b → n ≤ m → b ∈ reachL m a
  | 0, n, a, b, p, h => by
    obtain rfl : n = 0 := by omega
    cases p
    exact List.mem_cons_self
  | m + 1, n, a, b, p, h => by
    cases n with
    | zero =>
      cases p
      exact List.mem_cons_self
    | succ n =>
      obtain ⟨c, hc, q⟩ := p.uncons
      exact List.mem_cons_of_mem _ (List.mem_flatMap.mpr ⟨c, hc, reachL_mem q (by omega)⟩)
theorem most_mono {m n : Nat} (h : m ≤ n) : most m ≤ most n := by
  induction h with
  | refl => exact Nat.le_refl _
  | @step n h ih =>
    refine Nat.le_trans ih ?_
    show most n ≤ 1 + (n + 1) * most n
    have := Nat.le_mul_of_pos_left (most n) (show 0 < n + 1 by omega)
    omega
theorem flat_len {α β : Type} {f : α → List β} {k : Nat} : ∀ {l : List α}, (∀ x ∈ l, (f x).length ≤ k) → (l.flatMap f).length ≤ l.length * k
  | [], _ => by simp
  | a :: l, h => by
    rw [List.flatMap_cons, List.length_append, List.length_cons, Nat.succ_mul]
    have := flat_len (l := l) fun x hx => h x (List.mem_cons_of_mem _ hx)
    have := h a List.mem_cons_self
    omega
theorem reachL_len (L : Less) {g : Nat} : ∀ {n : Nat} {t : Tbl}, OkW g t → oddsN t ≤ n → (reachL n t).length ≤ most (oddsN t)
  | 0, t, h, hn => by
    have : oddsN t = 0 := by omega
    rw [this]
    exact Nat.le_refl _
  | n + 1, t, h, hn => by
    show (t :: (nextsOf t).flatMap (reachL n)).length ≤ _
    rw [List.length_cons]
    cases ho : oddsN t with
    | zero =>
      have h0 := nexts_len t
      rw [ho] at h0
      have : nextsOf t = [] := List.length_eq_zero_iff.mp (by omega)
      rw [this]
      exact Nat.le_refl _
    | succ m =>
      have h1 := flat_len (f := reachL n) (k := most m) (l := nextsOf t) fun u hu => by
        have := L _ _ _ h hu
        exact Nat.le_trans (reachL_len L (next_ok h hu) (by omega)) (most_mono (by omega))
      have h2 := nexts_len t
      rw [ho] at h2
      show _ ≤ 1 + (m + 1) * most m
      have := Nat.mul_le_mul_right (most m) h2
      omega
theorem reach_count (L : Less) {g : Nat} {t : Tbl} (h : OkW g t) {l : List Tbl} (nd : l.Nodup) (hl : ∀ x ∈ l, Rch t x) : l.length ≤ most (oddsN t) := by
  refine Nat.le_trans (nodup_sub nd fun x hx => ?_) (reachL_len L h (Nat.le_refl _))
  obtain ⟨n, p⟩ := hl x hx
  exact reachL_mem p (by have := p.odds L h; omega)
theorem odds_six {g : Nat} {t : Tbl} (h : OkW g t) : oddsN t ≤ 6 := by
  have h2 := h.2.1
  have key : ∀ n, n ≤ 4 → ((List.range n).map fun i => n - (i + 1)).sum ≤ 6 := by decide
  unfold oddsN oddsOf
  rw [List.length_flatMap]
  refine Nat.le_trans ?_ (key t.length h2)
  have : ∀ l : List Nat, (l.map fun i => (oddsIn t i).length).sum ≤ (l.map fun i => t.length - (i + 1)).sum := by
    intro l
    induction l with
    | nil => exact Nat.le_refl _
    | cons a l ih =>
      rw [List.map_cons, List.map_cons, List.sum_cons, List.sum_cons]
      have : (oddsIn t a).length ≤ t.length - (a + 1) := by
        unfold oddsIn
        rw [List.length_map]
        refine Nat.le_trans (List.length_filter_le _ _) ?_
        rw [List.length_range']
        exact Nat.le_refl _
      omega
  exact this _
theorem reach_few (L : Less) {g : Nat} {t : Tbl} (h : OkW g t) {l : List Tbl} (nd : l.Nodup) (hl : ∀ x ∈ l, Rch t x) : l.length ≤ 1957 := by
  have := reach_count L h nd hl
  have := most_mono (odds_six h)
  have e : most 6 = 1957 := by decide
  omega
end LT
/-! ## LtSpr -/
set_option Elab.async false
set_option linter.all false
set_option maxRecDepth 100000
set_option maxHeartbeats 4000000
namespace LT
open PySem PySem.W PySem.Spec PyProof.Rows L2 LamX

abbrev FM := List (Tbl × (Int × Int))
theorem getA_some_iff {α β : Type} [DecidableEq α] {l : List (α × β)} {a : α} : a ∈ l.map (·.1) ↔ ∃ b, getA l a = some b := by
  constructor
  · intro h
    cases q : getA l a with
    | none => exact absurd h (getA_none.mp q)
    | some b => exact ⟨b, rfl⟩
  · rintro ⟨b, h⟩
    exact Classical.byContradiction fun z => by
      rw [getA_none.mpr z] at h
      cases h
/-- the first part of spread, within a round: d the round, dn what is in order, rim the round's crowds -/
structure SA (g : Nat) (c0 : Tbl) (d : Nat) (dn rim : List Tbl) (f : FM) (l : List (Tbl × Bool)) : Prop where
  ok : OkW g c0
  ndf : (f.map (·.1)).Nodup
  ndl : (l.map (·.1)).Nodup
  val : ∀ u a m, getA f u = some (a, m) → Rch c0 u ∧ m = 0 ∧ ∃ n : Nat, a = n ∧ n ≤ d + 1 ∧ n + oddsN u ≤ oddsN c0 ∧ Path n c0 u
  lat : ∀ u, u ∈ l.map (·.1) → getA f u = some (((d + 1 : Nat) : Int), 0)
  rimv : ∀ u ∈ rim, getA f u = some ((d : Int), 0)
  cov : ∀ u, u ∈ f.map (·.1) → u ∈ dn ∨ u ∈ rim ∨ u ∈ l.map (·.1)
  old : ∀ u ∈ dn, ∃ n : Nat, n ≤ d ∧ getA f u = some ((n : Int), 0)
  step : ∀ u ∈ dn, ∀ w ∈ nextsOf u, ∃ a b : Nat, getA f u = some ((a : Int), 0) ∧ getA f w = some ((b : Int), 0) ∧ b ≤ a + 1
  start : getA f c0 = some (0, 0)
section
variable {g : Nat} {c0 : Tbl} {d : Nat} {dn rim : List Tbl} {f : FM} {l : List (Tbl × Bool)}
theorem SA.first (h : OkW g c0) : SA g c0 0 [] [c0] [(c0, (0, 0))] [] := by
  have hg : ∀ u p, getA [(c0, ((0 : Int), (0 : Int)))] u = some p → u = c0 ∧ p = (0, 0) := fun u p q => by
    by_cases e : c0 = u
    · rw [getA_pos e] at q
      cases q
      exact ⟨e.symm, rfl⟩
    · rw [getA_neg e, getA_nil] at q
      cases q
  refine ⟨h, by simp, by simp, fun u a m q => ?_, by simp, fun u hu => ?_, fun u hu => ?_, by simp, by simp, getA_pos rfl⟩
  · obtain ⟨rfl, e⟩ := hg u _ q
    cases e
    exact ⟨⟨0, .nil _⟩, rfl, 0, rfl, by omega, by omega, .nil _⟩
  · rw [List.mem_singleton.mp hu]
    exact getA_pos rfl
  · have : u = c0 := by simpa using hu
    exact .inr (.inl (by rw [this]; exact List.mem_cons_self))
theorem SA.len (L : Less) (s : SA g c0 d dn rim f l) : f.length ≤ 1957 := by
  have := reach_few L s.ok s.ndf fun x hx => by
    obtain ⟨⟨a, m⟩, h⟩ := getA_some_iff.mp hx
    exact (s.val x a m h).1
  rwa [List.length_map] at this
theorem SA.lenl (L : Less) (s : SA g c0 d dn rim f l) : l.length ≤ 1957 := by
  have := reach_few L s.ok s.ndl fun x hx => (s.val x _ _ (s.lat x hx)).1
  rwa [List.length_map] at this
theorem SA.put (L : Less) (s : SA g c0 d dn rim f l) {here told : Tbl} (hh : here ∈ rim) (ht : told ∈ nextsOf here) (hn : getA f told = none) : SA g c0 d dn rim (putA f told (((d + 1 : Nat) : Int), 0)) (putA l told true) := by
  have hv := s.rimv here hh
  obtain ⟨_, _, m, e1, e2, e3, p⟩ := s.val here _ _ hv
  obtain rfl : m = d := by omega
  have hok : OkW g here := p.ok s.ok
  have ho := L g here told hok ht
  have keep : ∀ u b, getA f u = some b → getA (putA f told (((m + 1 : Nat) : Int), 0)) u = some b := fun u b h => by
    rw [getA_put, if_neg (fun z => by rw [z, hn] at h; cases h)]
    exact h
  refine ⟨s.ok, put_nodup s.ndf _ _, put_nodup s.ndl _ _, fun u a k q => ?_, fun u hu => ?_, fun u hu => keep _ _ (s.rimv u hu), fun u hu => ?_, fun u hu => ?_, fun u hu w hw => ?_, keep _ _ s.start⟩
  · rw [getA_put] at q
    by_cases e : u = told
    · rw [if_pos e] at q
      cases q
      subst e
      exact ⟨⟨m + 1, .snoc p ht⟩, rfl, m + 1, rfl, by omega, by omega, .snoc p ht⟩
    · rw [if_neg e] at q
      exact s.val u a k q
  · rw [getA_put]
    by_cases e : u = told
    · rw [if_pos e]
    · rw [if_neg e]
      refine s.lat u ?_
      rw [put_keys] at hu
      split at hu
      · exact hu
      · exact (List.mem_append.mp hu).elim id fun z => absurd (List.mem_singleton.mp z) e
  · rw [put_keys, if_neg (getA_none.mp hn)] at hu
    rcases List.mem_append.mp hu with hu | hu
    · rcases s.cov u hu with h | h | h
      · exact .inl h
      · exact .inr (.inl h)
      · refine .inr (.inr ?_)
        rw [put_keys]
        split
        · exact h
        · exact List.mem_append_left _ h
    · refine .inr (.inr ?_)
      rw [List.mem_singleton.mp hu, put_keys]
      split
      · rename_i z; exact z
      · exact List.mem_append_right _ List.mem_cons_self
  · obtain ⟨n, h1, h2⟩ := s.old u hu
    exact ⟨n, h1, keep _ _ h2⟩
  · obtain ⟨a, b, h1, h2, h3⟩ := s.step u hu w hw
    exact ⟨a, b, keep _ _ h1, keep _ _ h2, h3⟩
theorem SA.done (s : SA g c0 d dn rim f l) {here : Tbl} (hh : here ∈ rim) (hw : ∀ w ∈ nextsOf here, (getA f w).isSome = true) : SA g c0 d (dn ++ [here]) rim f l := by
  refine ⟨s.ok, s.ndf, s.ndl, s.val, s.lat, s.rimv, fun u hu => (s.cov u hu).imp (fun h => List.mem_append_left _ h) id, fun u hu => ?_, fun u hu w hw' => ?_, s.start⟩
  · rcases List.mem_append.mp hu with hu | hu
    · exact s.old u hu
    · rw [List.mem_singleton.mp hu]
      exact ⟨d, Nat.le_refl _, s.rimv here hh⟩
  · rcases List.mem_append.mp hu with hu | hu
    · exact s.step u hu w hw'
    · rw [List.mem_singleton.mp hu] at hw' ⊢
      have h1 := hw w hw'
      cases q : getA f w with
      | none => rw [q] at h1; cases h1
      | some p =>
        obtain ⟨a, m⟩ := p
        obtain ⟨_, rfl, n, rfl, h2, _⟩ := s.val w a m q
        exact ⟨d, n, s.rimv here hh, rfl, h2⟩
theorem SA.next (s : SA g c0 d dn rim f l) (hr : ∀ u ∈ rim, u ∈ dn) : SA g c0 (d + 1) dn (l.map (·.1)) f [] := by
  refine ⟨s.ok, s.ndf, by simp, fun u a m q => ?_, by simp, s.lat, fun u hu => ?_, fun u hu => ?_, s.step, s.start⟩
  · obtain ⟨h1, h2, n, h3, h4, h5⟩ := s.val u a m q
    exact ⟨h1, h2, n, h3, by omega, h5⟩
  · rcases s.cov u hu with h | h | h
    · exact .inl h
    · exact .inl (hr u h)
    · exact .inr (.inl h)
  · obtain ⟨n, h1, h2⟩ := s.old u hu
    exact ⟨n, by omega, h2⟩
theorem SA.apart (s : SA g c0 d dn rim f l) : ∀ u ∈ l.map (·.1), u ∉ dn := fun u hu hd => by
  obtain ⟨n, h1, h2⟩ := s.old u hd
  rw [s.lat u hu] at h2
  cases h2
  omega
/-- the rounds come to an end -/
theorem SA.low (s : SA g c0 d dn rim f l) (hr : rim ≠ []) : d ≤ oddsN c0 := by
  obtain ⟨u, r, rfl⟩ := List.exists_cons_of_ne_nil hr
  obtain ⟨_, _, n, h1, _, h2, _⟩ := s.val u _ _ (s.rimv u List.mem_cons_self)
  omega
/-- behind the rounds -/
theorem SA.all (s : SA g c0 d dn [] f []) : (∀ u, u ∈ f.map (·.1) ↔ u ∈ dn) ∧ (∀ u, Rch c0 u → u ∈ dn) ∧ ∀ u a m, getA f u = some (a, m) → m = 0 ∧ ∃ n : Nat, a = n ∧ n + oddsN u ≤ oddsN c0 ∧ Path n c0 u ∧ ∀ k, Path k c0 u → n ≤ k := by
  have h1 : ∀ u, u ∈ f.map (·.1) ↔ u ∈ dn := fun u => by
    constructor
    · intro h
      rcases s.cov u h with h | h | h
      · exact h
      · cases h
      · cases h
    · intro h
      obtain ⟨n, _, q⟩ := s.old u h
      exact getA_some_iff.mpr ⟨_, q⟩
  have h2 : ∀ k u, Path k c0 u → u ∈ dn ∧ ∃ n : Nat, getA f u = some ((n : Int), 0) ∧ n ≤ k := by
    intro k
    induction k with
    | zero =>
      intro u p
      cases p
      exact ⟨(h1 _).mp (getA_some_iff.mpr ⟨_, s.start⟩), 0, s.start, Nat.le_refl _⟩
    | succ k ih =>
      intro u p
      cases p with
      | snoc p hc =>
        obtain ⟨hd, n, q1, q2⟩ := ih _ p
        obtain ⟨a, b, e1, e2, e3⟩ := s.step _ hd u hc
        rw [q1] at e1
        cases e1
        exact ⟨(h1 u).mp (getA_some_iff.mpr ⟨_, e2⟩), b, e2, by omega⟩
  refine ⟨h1, fun u ⟨n, p⟩ => (h2 n u p).1, fun u a m q => ?_⟩
  obtain ⟨_, rfl, n, rfl, _, h3, hp⟩ := s.val u a m q
  refine ⟨rfl, n, rfl, h3, hp, fun k p => ?_⟩
  obtain ⟨_, b, e1, e2⟩ := h2 k u p
  rw [q] at e1
  cases e1
  exact e2
end

/-- the second part: f1 what the first has left, dn what is through -/
structure SB (g : Nat) (c0 : Tbl) (f1 f : FM) (dn : List Tbl) : Prop where
  nd : (f.map (·.1)).Nodup
  keys : f.map (·.1) = f1.map (·.1)
  val : ∀ u a m, getA f u = some (a, m) → (∃ m0, getA f1 u = some (a, m0)) ∧ ∃ k : Nat, m = k ∧ k + oddsN u ≤ oddsN c0
  up : ∀ v ∈ dn, ∀ w ∈ nextsOf v, ∀ a m b k, getA f v = some (a, m) → getA f w = some (b, k) → m + 1 ≤ k
/-- what spread gives -/
structure SpreadOk (g : Nat) (c0 : Tbl) (f : FM) : Prop where
  ok : OkW g c0
  nd : (f.map (·.1)).Nodup
  mem : ∀ u, u ∈ f.map (·.1) ↔ Rch c0 u
  val : ∀ u a m, getA f u = some (a, m) → ∃ x y : Nat, a = x ∧ m = y ∧ x + oddsN u ≤ oddsN c0 ∧ y + oddsN u ≤ oddsN c0 ∧ (∀ n, Path n c0 u → x ≤ n ∧ n ≤ y) ∧ Path x c0 u
section
variable {g : Nat} {c0 : Tbl} {d : Nat} {dn : List Tbl} {f f1 : FM}
theorem SB.first (s : SA g c0 d dn [] f []) : SB g c0 f f [] := by
  refine ⟨s.ndf, rfl, fun u a m q => ⟨⟨m, q⟩, ?_⟩, by simp⟩
  obtain ⟨_, rfl, n, _, _, h, _⟩ := s.val u a m q
  exact ⟨0, rfl, by omega⟩
theorem SB.put {L : Less} {dn0 : List Tbl} (s1 : SA g c0 d dn0 [] f1 []) (s : SB g c0 f1 f dn) {here told : Tbl} {a m b k : Int} (hd : ∀ v ∈ dn, oddsN here ≤ oddsN v) (hdk : ∀ v ∈ dn, Rch c0 v) (hh : Rch c0 here) (ht : told ∈ nextsOf here) (e1 : getA f here = some (a, m)) (e2 : getA f told = some (b, k)) :
    SB g c0 f1 (putA f told (b, if m + 1 > k then m + 1 else k)) dn := by
  obtain ⟨n, p⟩ := hh
  have hok : OkW g here := p.ok s1.ok
  have ho := L g here told hok ht
  have hk : told ∈ f.map (·.1) := getA_some_iff.mpr ⟨_, e2⟩
  refine ⟨put_nodup s.nd _ _, by rw [put_keys, if_pos hk]; exact s.keys, fun u a' m' q => ?_, fun v hv w hw a' m' b' k' q1 q2 => ?_⟩
  · rw [getA_put] at q
    by_cases e : u = told
    · rw [if_pos e] at q
      subst e
      cases q
      obtain ⟨q1, k2, q2, q3⟩ := s.val u _ _ e2
      obtain ⟨_, m2, q4, q5⟩ := s.val here _ _ e1
      refine ⟨q1, ?_⟩
      split
      · exact ⟨m2 + 1, by omega, by omega⟩
      · exact ⟨k2, q2, q3⟩
    · rw [if_neg e] at q
      exact s.val u a' m' q
  · have hv' := hd v hv
    have nv : v ≠ told := fun z => by rw [z] at hv'; omega
    rw [getA_put, if_neg nv] at q1
    rw [getA_put] at q2
    by_cases e : w = told
    · rw [if_pos e] at q2
      cases q2
      have := s.up v hv w hw a' m' _ _ q1 (by rw [e]; exact e2)
      split <;> omega
    · rw [if_neg e] at q2
      exact s.up v hv w hw a' m' b' k' q1 q2
theorem SB.done (s : SB g c0 f1 f dn) {here : Tbl} (h : ∀ w ∈ nextsOf here, ∀ a m b k, getA f here = some (a, m) → getA f w = some (b, k) → m + 1 ≤ k) : SB g c0 f1 f (dn ++ [here]) :=
  ⟨s.nd, s.keys, s.val, fun v hv w hw => (List.mem_append.mp hv).elim (fun z => s.up v z w hw) fun z => by
    rw [List.mem_singleton.mp z] at hw ⊢
    exact h w hw⟩
theorem SB.fin {dn0 : List Tbl} (s1 : SA g c0 d dn0 [] f1 []) (s : SB g c0 f1 f dn) (hp : ∀ u, u ∈ dn ↔ u ∈ dn0) : SpreadOk g c0 f := by
  obtain ⟨h1, h2, h3⟩ := s1.all
  have hm : ∀ u, u ∈ f.map (·.1) ↔ Rch c0 u := fun u => by
    rw [s.keys]
    exact ⟨fun h => by
      obtain ⟨⟨a, m⟩, q⟩ := getA_some_iff.mp h
      exact (s1.val u a m q).1, fun h => (h1 u).mpr (h2 u h)⟩
  have up : ∀ n u, Path n c0 u → ∀ a m, getA f u = some (a, m) → (n : Int) ≤ m := by
    intro n
    induction n with
    | zero =>
      intro u p a m q
      obtain ⟨_, k, rfl, _⟩ := s.val u a m q
      omega
    | succ n ih =>
      intro u p a m q
      cases p with
      | @snoc _ _ v _ p hc =>
        obtain ⟨⟨a', m'⟩, q'⟩ := getA_some_iff.mp ((hm v).mpr ⟨n, p⟩)
        have := ih v p a' m' q'
        have := s.up v ((hp v).mpr (h2 v ⟨n, p⟩)) u hc a' m' a m q' q
        omega
  refine ⟨s1.ok, s.nd, hm, fun u a m q => ?_⟩
  obtain ⟨⟨m0, q0⟩, k, rfl, hk⟩ := s.val u a m q
  obtain ⟨_, n, rfl, hn, hp', hl⟩ := h3 u a m0 q0
  exact ⟨n, k, rfl, rfl, hn, hk, fun j p => ⟨hl j p, by have := up j u p _ _ q; omega⟩, hp'⟩
end
end LT
/-! ## LtD5 -/
set_option Elab.async false
set_option linter.all false
set_option maxRecDepth 100000
set_option maxHeartbeats 8000000
namespace LT
open PySem PySem.W PySem.Spec PyProof.Rows L2 LamX

section
variable {α β : Type} {X : Cx} {T : List (Addr × Str)} {a b e : Expr} {r : Rp α} {s : Rp β} {σ : L2.St} {H H1 H2 : Hp} {pos p p2 p3 : Pos} {x : α × β} {i : Int} {M : List Addr} {d : Addr} {w : World}
/-- p[0], p[1] -/
theorem v_fst {jj : Nat} (ha : VE X T a (pPair r s) σ H (is x)) : VE X T (.Subscript a (.Constant (.int 0) jj p) pos) r σ H (is x.1) :=
  ve_of (pe_ix ix_tup pe_o pe_o (fun _ _ => rfl)) (ev_op ha (v_nat (X := X) (T := T) (n := 0)) fun v w ys m H1 e rx ry px py Q k => by
    obtain ⟨q, u, z, rfl, h1, h2, h3⟩ := rx
    rw [show ys = x from px] at h2
    exact ⟨q, [u, z], ((0 : Nat) : Int), u, rfl, by rw [show w = _ from ry, show m = 0 from py], sq_t h1, atI_nat rfl, k _ _ H1 e.here h2 rfl⟩)
theorem v_snd {jj : Nat} (ha : VE X T a (pPair r s) σ H (is x)) : VE X T (.Subscript a (.Constant (.int 1) jj p) pos) s σ H (is x.2) :=
  ve_of (pe_ix ix_tup pe_o pe_o (fun _ _ => rfl)) (ev_op ha (v_nat (X := X) (T := T) (n := 1)) fun v w ys m H1 e rx ry px py Q k => by
    obtain ⟨q, u, z, rfl, h1, h2, h3⟩ := rx
    rw [show ys = x from px] at h3
    exact ⟨q, [u, z], ((1 : Nat) : Int), z, rfl, by rw [show w = _ from ry, show m = 1 from py], sq_t h1, atI_nat rfl, k _ _ H1 e.here h3 rfl⟩)
theorem v_neg (ha : VE X T a pI σ H (is i)) : VE X T (.UnaryOp .USub a pos) pI σ H (is (-i)) := ve_of (pe_un un_neg pe_o) fun H1 e1 Q k => ha H1 e1 _ fun v z H2 e2 rv pz => ⟨i, by rw [show v = _ from rv, show z = i from pz], k _ _ H2 e2 rfl rfl⟩
theorem Ex.thenM (e : Ex T H H1) (m : ExM M T H1 H2) (f : ∀ p ∈ M, Fr0 H p) : Ex T H H2 := ⟨fun b o h n => m.1 b o (e.1 b o h n) n fun q => (f b q).ne h n rfl, m.2.2⟩
theorem imII : Imm (pPair pI pI) := imPair imI imI
theorem raw_ne_lst {w : World} {d : Addr} {ks : List (NestedKey × Addr × V)} {vs : List V} : rawD w d ks ≠ .lst vs := fun z => by unfold rawD at z; cases z
theorem dict_ne {α β : Type} [DecidableEq α] {k : KRp α} {r : Rp β} {kvs : List (α × β)} {q : Addr} {vs : List V} (h : dictAt w k r H d kvs) (hq : H q = some (.lst vs)) : q ≠ d := fun z => by
  obtain ⟨ks, h1, _⟩ := h
  rw [z, h1] at hq
  exact raw_ne_lst (Option.some.inj hq)
/-- a dict stays where others are changed -/
theorem dict_stay {α β : Type} [DecidableEq α] {k : KRp α} {r : Rp β} {kvs : List (α × β)} (ir : Imm r) (h : dictAt w k r H d kvs) (m : ExM M T H H1) (n : d ∉ M) : dictAt w k r H1 d kvs := by
  obtain ⟨o, ho, so⟩ := h.soft
  exact h.keep ir m.2.1 (by rw [ho]; exact m.get ho so n)
end
section
variable {P : Program} {w : World} {K : PySem.W.Frag} {mg : Str → Option Value} {base : Heap} {T : List (Addr × Str)} {f c Pt : Addr} {fd : FuncData} {k : Nat}
abbrev lamQ (x : Str) : Str := x ++ ".<locals>." ++ "<lambda>"
abbrev pSpread (w : World) (T : List (Addr × Str)) : Sp := SpG T (a1 pT) (fun y => Ok y.1) (pD w kT (pPair pI pI)) (fun y z => ∃ g, SpreadOk g (crowdOf y.1) z)
theorem scSpread : FnScope ["table", "found", "rim", "order", "later", "here", "told"] ["table"] (defScope s_spread) := ⟨rfl, rfl, rfl, by decide +kernel, rfl, by decide +kernel, by decide +kernel⟩
set_option maxHeartbeats 16000000 in
theorem f_spread {j j2 j3 : Nat} (L : Less) (B : Blt mg) (G : Glo mg "MOST_MET" 3000) (TB : TabB base mg c Pt) (hmT : (Pt, lamQ "spread") ∈ T) (hu : ∀ p ∈ T, p.1 = Pt → p.2 = lamQ "spread") (hcd : CodeAt K f c)
    (Cc : Cal P w K mg base "crowd_of" ["table"] j (pCrowd T)) (Cn : Cal P w K mg base "nexts_of" ["table"] j2 (pNexts T)) (Co : Cal P w K mg base "odds_of" ["table"] j3 (pOdds T)) (hj : j ≤ k) (hj2 : j2 ≤ k) (hj3 : j3 + 3 ≤ k) (F : FnP K "spread" s_spread f fd) :
    FnOk P w K mg base CX0 (k + 1) f fd ["table"] (pSpread w T) := by
  refine fn_okC F hcd scSpread len1 fun A outer s H vs Q E ⟨x, _⟩ hr ⟨v, ws, ev, h1, h4⟩ ⟨g, hok0⟩ hT k => ?_
  obtain rfl : ws = [] := h4
  subst ev
  have hok0 : OkW g x := hok0
  have hok : OkW g (crowdOf x) := hok0.crowd
  generalize hc0 : crowdOf x = c0 at hok
  refine s_cons (s_parF 1 2 hT rfl scSpread.nd (v_disp1 (k := kT) (r := pPair pI pI) (x := c0) (y := ((0 : Int), (0 : Int))) imII (un hr 9) (v_cl Cc (hr.mono hj) (a_1 (v_v 0 h1)) ⟨g, hok0⟩ fun z h => h.trans hc0) (v_pair v_int v_int)) (f_lst1 (r := pT) (x := c0) (v_cl Cc (hr.mono hj) (a_1 (v_v 0 h1)) ⟨g, hok0⟩ fun z h => h.trans hc0)) fun df dr f0 rim0 H1 e1 fdf fdr rf rr pf pr => ?_)
  obtain rfl : f0 = _ := pf
  obtain rfl : rim0 = _ := pr
  obtain ⟨_, e, hdf⟩ := rf
  cases e
  obtain ⟨_, vsr, e, hdr, hpr⟩ := rr
  cases e
  refine s_cons (s_setF 3 e1.2 (f_nil (r := pT)) scSpread.nd fun dq o0 H2 e2 fdq ro po => ?_)
  obtain rfl : o0 = _ := po
  obtain ⟨_, vso, e, hdo, hpo⟩ := ro
  cases e
  have hne : dr ≠ dq := fdq.ne hdr (fun _ z => by cases z)
  refine s_cons (s_while' rfl (s_while (T := T) (m0 := oddsN c0 + 1) (fun m σ' H' => ∃ df dr dq vsr vso f rim dn d o4 o5 o6, σ' = [some v, some (.ref df), some (.ref dr), some (.ref dq), o4, o5, o6] ∧ Ex T H H' ∧ Fr0 H df ∧ Fr0 H dq ∧ dr ≠ dq ∧ dictAt w kT (pPair pI pI) H' df f ∧ H' dr = some (.lst vsr) ∧ Paired (pT.rel H') vsr rim ∧
      H' dq = some (.lst vso) ∧ Paired (pT.rel H') vso dn ∧ SA g c0 d dn rim f [] ∧ (dn ++ rim).Nodup ∧ m = (if rim = [] then 0 else oddsN c0 + 1 - d)) ?_ ?_))
  · exact ⟨df, dr, dq, vsr, vso, _, _, [], 0, _, _, _, rfl, e1.trans e2, fdf, fdq.back e1.1, hne, hdf.ext e2.1, e2.get hdr (.lst _), paired_imp (fun _ _ => pT.mono e2.1) hpr, hdo, hpo, SA.first hok, by simp, by simp⟩
  clear hdf hdr hpr hdo hpo hne fdq fdf fdr e2 e1 H1 H2 df dr dq vsr vso
  rintro m σ' H' ⟨df, dr, dq, vsr, vso, f, rim, dn, d, o4, o5, o6, rfl, eH, fdf, fdq, hne, hdf, hdr, hpr, hdo, hpo, sa, nd, hm⟩
  have x' : pT.rel H' v x := pT.mono eH.1 h1
  refine ⟨!rim.isEmpty, t_c (c_neNil (n := 2) encT 2 (by decide) (un hr 64) (v_v 2 (show (pLst pT).rel H' (.ref dr) rim from ⟨dr, vsr, rfl, hdr, hpr⟩)) (fun _ _ _ => dpT) lay_T depth_T), eH.2, fun H1 e1 => ?_⟩
  have eH1 : Ex T H H1 := eH.trans e1
  have hdf1 := hdf.ext e1.1
  have hdr1 : H1 dr = some (.lst vsr) := e1.get hdr (.lst _)
  have hpr1 : Paired (pT.rel H1) vsr rim := paired_imp (fun _ _ => pT.mono e1.1) hpr
  have hdo1 : H1 dq = some (.lst vso) := e1.get hdo (.lst _)
  have hpo1 : Paired (pT.rel H1) vso dn := paired_imp (fun _ _ => pT.mono e1.1) hpo
  clear hdf hdr hpr hdo hpo x'
  cases hrim : rim.isEmpty with
  | true =>
    rw [Bool.not_true, if_neg Bool.false_ne_true]
    obtain rfl : rim = [] := List.isEmpty_iff.mp hrim
    obtain ⟨a1, a2, a3⟩ := sa.all
    have hdn : ∀ u ∈ dn, Rch c0 u := fun u hu => by
      obtain ⟨n, _, q⟩ := sa.old u hu
      exact (sa.val u _ _ q).1
    have hokd : ∀ u, Rch c0 u → OkW g u := fun u ⟨n, p⟩ => p.ok hok
    refine s_cons (s_forX (Pl := fun ys => ∃ z, is dn z ∧ ys = z.mergeSort fun a b => decide (-((oddsN a : Nat) : Int) ≤ -((oddsN b : Nat) : Int))) (O := LsO) imT e1.2 [df] (fun ys i σ'' H'' => ys.Perm dn ∧ (ys.Pairwise fun a b => oddsN b ≤ oddsN a) ∧ ∃ f2 o5 o6, σ'' = [some v, some (.ref df), some (.ref dr), some (.ref dq), o4, o5, o6] ∧ dictAt w kT (pPair pI pI) H'' df f2 ∧ SB g c0 f f2 (ys.take i)) rfl rfl (pg_name (i := 5) scSpread.nd rfl (.inl rfl)) (i_lst (EvF.ev (v_sortLam (N := ["told"]) (k := j3) (key := fun t => -((oddsN t : Nat) : Int)) (xs := fun z : List Tbl => z) imT rfl B TB rfl hmT hu (hr.mono hj3) ⟨rfl, rfl, rfl, by decide +kernel, rfl, by decide +kernel, by decide +kernel⟩ (v_v 3 (show (pLst pT).rel H1 (.ref dq) dn from ⟨dq, vso, rfl, hdo1, hpo1⟩)) (fun H v z rz _ => src_lst rz) ?_ (fun _ _ _ _ _ => rfl) (by decide +kernel) (fun _ => rfl)))) ?_ ?_ ?_ ?_ ?_)
    · rintro z pz y hy H2 u e2 ru _ ⟨A', s', H0, f', c', hR, rfl⟩
      rw [show z = dn from pz] at hy
      exact v_neg (ev_i (v_lenL B (v_cl Co hR (a_1 (v_v 0 ru)) ⟨g, hokd y (hdn y hy)⟩ fun _ h => h)))
    · rintro H2 p e2 ⟨a, vs, e⟩ hp
      cases e
      have q1 := dict_ne (hdf1.ext e2.1) hp
      simp [q1]
    · rintro ys H2 ⟨z, pz, rfl⟩ e2
      obtain rfl : z = dn := pz
      refine ⟨List.mergeSort_perm _ _, ?_, f, o5, o6, rfl, hdf1.ext e2.1, SB.first sa⟩
      have h1 := List.pairwise_mergeSort (le := fun a b => decide (-((oddsN a : Nat) : Int) ≤ -((oddsN b : Nat) : Int))) (fun a b c h1 h2 => by
        have := of_decide_eq_true h1
        have := of_decide_eq_true h2
        exact decide_eq_true (by omega)) (fun a b => by
        rcases Nat.le_total (oddsN a) (oddsN b) with h | h
        · simp; omega
        · simp; omega) z
      exact h1.imp fun h => by
        have := of_decide_eq_true h
        omega
    · rintro ys i σ1 H2 H3 _ ⟨q1, q2, f2, o5, o6, e, q3, q4⟩ e3
      exact ⟨q1, q2, f2, o5, o6, e, q3.ext e3.1, q4⟩
    · rintro ys i here u σ1 H2 _ hx m2 ⟨q1, q2, f2, o5, o6, rfl, q3, q4⟩ ru
      have hi : i < ys.length := (List.getElem?_eq_some_iff.mp hx).1
      have hey : here ∈ ys := List.mem_of_getElem? hx
      have hhR : Rch c0 here := hdn here (q1.mem_iff.mp hey)
      have htk : ∀ v ∈ ys.take i, oddsN here ≤ oddsN v ∧ Rch c0 v := fun v hv => by
        have hvy : v ∈ ys := List.mem_of_mem_take hv
        refine ⟨?_, hdn v (q1.mem_iff.mp hvy)⟩
        obtain ⟨n, hn, e⟩ := List.getElem_of_mem hv
        rw [List.length_take] at hn
        rw [List.getElem_take] at e
        have e2 : ys[i] = here := (List.getElem?_eq_some_iff.mp hx).2
        have := List.pairwise_iff_getElem.mp q2 n i (by omega) hi (by omega)
        rw [e, e2] at this
        exact this
      refine ⟨_, bnd_name, fun N' hN' => ?_⟩
      refine s_cons (s_forX imT m2.tabs [df] (fun zs jj σ'' H'' => zs = nextsOf here ∧ ∃ f2 o6, σ'' = [some v, some (.ref df), some (.ref dr), some (.ref dq), o4, some u, o6] ∧ dictAt w kT (pPair pI pI) H'' df f2 ∧ SB g c0 f f2 (ys.take i) ∧
        ∀ w ∈ zs.take jj, ∀ a m b k, getA f2 here = some (a, m) → getA f2 w = some (b, k) → m + 1 ≤ k) rfl rfl (pg_name (i := 6) scSpread.nd rfl (.inl rfl)) (i_lst (v_cl Cn (hr.mono hj2) (a_1 (v_v 5 ru)) ⟨g, hokd here hhR⟩ fun _ h => h)) ?_ ?_ ?_ ?_ ?_)
      · rintro H6 p e6 ⟨a, vs, e⟩ hp
        cases e
        have q1 := dict_ne (q3.ext e6.1) hp
        simp [q1]
      · rintro zs H6 pz e6
        exact ⟨pz, f2, o6, rfl, q3.ext e6.1, q4, by simp⟩
      · rintro zs jj σ1 H6 H7 pz ⟨q, f2, o6, e, r1, r2, r3⟩ e7
        exact ⟨q, f2, o6, e, r1.ext e7.1, r2, r3⟩
      · rintro zs jj told t σ1 H6 pz hjx m6 ⟨rfl, f2, o6, rfl, r1, r2, r3⟩ rt
        have ht : told ∈ nextsOf here := List.mem_of_getElem? hjx
        have hkey : ∀ u, Rch c0 u → ∃ p, getA f2 u = some p := fun u hu => getA_some_iff.mp (by rw [r2.keys]; exact (a1 u).mpr (a2 u hu))
        obtain ⟨⟨ha, hm'⟩, hgh⟩ := hkey here hhR
        obtain ⟨⟨ta, tm⟩, hgt⟩ := hkey told (by obtain ⟨n, p⟩ := hhR; exact ⟨n + 1, .snoc p ht⟩)
        refine ⟨_, bnd_name, fun N'' hN'' => ?_⟩
        have y6 : pT.rel H6 u here := imT m6.2.1 ru
        have D6 : (pD w kT (pPair pI pI)).rel H6 (.ref df) f2 := ⟨df, rfl, r1⟩
        have lf : f2.length ≤ 1957 := by
          have := congrArg List.length r2.keys
          rw [List.length_map, List.length_map] at this
          rw [this]
          exact sa.len L
        refine s_cons (s_put (k := kT) (r := pPair pI pI) (kvs := f2) (d := df) (x := told) imII m6.tabs (un hr 9) (Pv := is (ta, if hm' + 1 > tm then hm' + 1 else tm)) (v_pair (v_fst (v_getD (k := kT) (r := pPair pI pI) (un hr 9) (v_v 1 D6) (v_v 6 rt) hgt)) (v_max2 rfl B (v_snd (v_getD (k := kT) (r := pPair pI pI) (un hr 9) (v_v 1 D6) (v_v 6 rt) hgt)) (v_add (v_snd (v_getD (k := kT) (r := pPair pI pI) (un hr 9) (v_v 1 D6) (v_v 5 y6) hgh)) (v_int (i := 1))))) (v_v 1 D6) (o_var (ix := 1)) r1 (v_v 6 rt) (Nat.lt_of_le_of_lt lf (by decide)) fun p H8 H9 pp e8 m9 hd9 => ?_)
        obtain rfl : p = _ := pp
        have nht : here ≠ told := fun z => by
          have := L g here told (hokd here hhR) ht
          rw [z] at this
          omega
        refine s_nil (hN'' _ _ (e8.toM.trans m9) ⟨rfl, _, _, rfl, hd9, r2.put (L := L) sa (fun v hv => (htk v hv).1) (fun v hv => (htk v hv).2) hhR ht hgh hgt, ?_⟩)
        rw [List.take_add_one, hjx]
        intro w hw a m b kk g1 g2
        rw [getA_put, if_neg nht, hgh] at g1
        cases g1
        rw [getA_put] at g2
        by_cases e : w = told
        · rw [if_pos e] at g2
          cases g2
          split <;> omega
        · rw [if_neg e] at g2
          rcases List.mem_append.mp hw with hw | hw
          · exact r3 w hw _ _ _ _ hgh g2
          · exact absurd (by simpa using hw) e
      · rintro zs σ1 H6 pz m6 ⟨rfl, f2, o6, rfl, r1, r2, r3⟩
        rw [List.take_length] at r3
        refine s_nil (hN' _ _ m6 ⟨q1, q2, f2, _, o6, rfl, r1, ?_⟩)
        rw [List.take_add_one, hx, Option.toList_some]
        exact r2.done r3
    · rintro ys σ1 H2 _ m2 ⟨q1, q2, f2, o5, o6, rfl, q3, q4⟩
      rw [List.take_length] at q4
      have eH2 : Ex T H H2 := eH1.thenM m2 (by
        intro p hp
        rw [List.mem_singleton.mp hp]
        exact fdf)
      refine s_cons (s_ret m2.tabs (r := pD w kT (pPair pI pI)) (P := is f2) (v_v 1 ⟨df, rfl, q3⟩) fun u z H3 e3 rl pz => k u z H3 (eH2.trans e3) rl ⟨g, ?_⟩)
      rw [show z = f2 from pz]
      show SpreadOk g (crowdOf x) f2
      rw [hc0]
      exact q4.fin sa fun u => q1.mem_iff
  | false =>
    rw [Bool.not_false, if_pos rfl]
    intro N hN
    have hrne : rim ≠ [] := fun z => by rw [z] at hrim; cases hrim
    have hdl := sa.low hrne
    rw [if_neg hrne] at hm
    refine s_cons (s_setF 4 e1.2 (f_dnew (k := kT) (r := pB)) scSpread.nd fun dl l0 H2 e2 fdl rl pl => ?_)
    obtain rfl : l0 = _ := pl
    obtain ⟨_, e, hdl0⟩ := rl
    cases e
    have ndf : df ≠ dl := by
      obtain ⟨o, ho, so⟩ := hdf1.soft
      exact fdl.ne ho so.ntbl
    have ndr : dr ≠ dl := fdl.ne hdr1 (fun _ z => by cases z)
    have ndq : dq ≠ dl := fdl.ne hdo1 (fun _ z => by cases z)
    have ndrf : dr ≠ df := dict_ne hdf1 hdr1
    have ndqf : dq ≠ df := dict_ne hdf1 hdo1
    have eH2 : Ex T H H2 := eH1.trans e2
    have fdlH : Fr0 H dl := fdl.back eH1.1
    have hdf2 := hdf1.ext e2.1
    have hdr2 : H2 dr = some (.lst vsr) := e2.get hdr1 (.lst _)
    have hpr2 : Paired (pT.rel H2) vsr rim := paired_imp (fun _ _ => pT.mono e2.1) hpr1
    have hdo2 : H2 dq = some (.lst vso) := e2.get hdo1 (.lst _)
    have hpo2 : Paired (pT.rel H2) vso dn := paired_imp (fun _ _ => pT.mono e2.1) hpo1
    have okr : ∀ u, Rch c0 u → OkW g u := fun u ⟨n, p⟩ => p.ok hok
    refine s_cons (s_forX imT e2.2 [df, dq, dl] (fun xs i σ'' H'' => xs = rim ∧ ∃ f l vso' o5 o6, σ'' = [some v, some (.ref df), some (.ref dr), some (.ref dq), some (.ref dl), o5, o6] ∧ dictAt w kT (pPair pI pI) H'' df f ∧ dictAt w kT pB H'' dl l ∧
      H'' dq = some (.lst vso') ∧ Paired (pT.rel H'') vso' (dn ++ rim.take i) ∧ SA g c0 d (dn ++ rim.take i) rim f l) rfl rfl (pg_name (i := 5) scSpread.nd rfl (.inl rfl)) (i_lstv (d := dr) (vs := vsr) (o_var (ix := 2)) hdr2 hpr2) ?_ ?_ ?_ ?_ ?_)
    · rintro H3 p e3 po hp3
      have e : p = (dr, HO.lst vsr) := Option.some.inj po
      rw [e]
      simp [ndr, ndrf, hne]
    · rintro xs H3 px e3
      refine ⟨px, f, [], vso, o5, o6, rfl, hdf2.ext e3.1, hdl0.ext e3.1, e3.get hdo2 (.lst _), ?_, ?_⟩
      · rw [List.take_zero, List.append_nil]
        exact paired_imp (fun _ _ => pT.mono e3.1) hpo2
      · rw [List.take_zero, List.append_nil]
        exact sa
    · rintro xs i σ1 H3 H4 px ⟨q, f, l, vso', o5, o6, e, z1, z2, z3, z4, z5⟩ e4
      exact ⟨q, f, l, vso', o5, o6, e, z1.ext e4.1, z2.ext e4.1, e4.get z3 (.lst _), paired_imp (fun _ _ => pT.mono e4.1) z4, z5⟩
    · rintro xs i here u σ1 H3 px hx m3 ⟨rfl, f, l, vso', o5, o6, rfl, z1, z2, z3, z4, z5⟩ ru
      have hh : here ∈ xs := List.mem_of_getElem? hx
      have hi : i < xs.length := (List.getElem?_eq_some_iff.mp hx).1
      refine ⟨_, bnd_name, fun N' hN' => ?_⟩
      have hlen : vso'.length < sizeLine := by
        rw [z4.length]
        have h1 : (dn ++ xs.take i).length ≤ (dn ++ xs).length := by
          rw [List.length_append, List.length_append, List.length_take]
          omega
        have h2 := reach_few L hok nd fun y hy => by
          rcases List.mem_append.mp hy with hy | hy
          · obtain ⟨n, _, q⟩ := sa.old y hy
            exact (sa.val y _ _ q).1
          · exact (sa.val y _ _ (sa.rimv y hy)).1
        exact Nat.lt_of_le_of_lt (Nat.le_trans h1 h2) (by decide)
      refine s_cons (s_app (d := dq) m3.tabs (o_var (ix := 3)) z3 (v_v 5 ru) hlen fun u' y H4 H5 py e4 ru' m5 hq4 e5 => ?_)
      obtain rfl : y = here := py
      subst e5
      have w1 := dict_stay imII (z1.ext e4.1) m5 (by simp [Ne.symm ndqf])
      have w2 := dict_stay imB (z2.ext e4.1) m5 (by simp [Ne.symm ndq])
      have w3 : (L2.upd H4 dq (.lst (vso' ++ [u']))) dq = some (.lst (vso' ++ [u'])) := upd_same
      have w4 : Paired (pT.rel (L2.upd H4 dq (.lst (vso' ++ [u'])))) (vso' ++ [u']) (dn ++ xs.take (i + 1)) := by
        rw [List.take_add_one, hx, Option.toList_some, ← List.append_assoc]
        exact Paired.app (paired_imp (fun _ _ q => imT m5.2.1 (pT.mono e4.1 q)) z4) (.cons (imT m5.2.1 ru') .nil)
      have w5 : pT.rel (L2.upd H4 dq (.lst (vso' ++ [u']))) u y := imT m5.2.1 (pT.mono e4.1 ru)
      have hoky : OkW g y := okr y (sa.val y _ _ (sa.rimv y hh)).1
      generalize hH5 : L2.upd H4 dq (.lst (vso' ++ [u'])) = H5 at m5 w1 w2 w3 w4 w5
      refine s_cons (s_forX imT m5.tabs [df, dl] (fun ys jj σ'' H'' => ys = nextsOf y ∧ ∃ f l o6, σ'' = [some v, some (.ref df), some (.ref dr), some (.ref dq), some (.ref dl), some u, o6] ∧ dictAt w kT (pPair pI pI) H'' df f ∧ dictAt w kT pB H'' dl l ∧
        SA g c0 d (dn ++ xs.take i) xs f l ∧ ∀ w ∈ ys.take jj, (getA f w).isSome = true) rfl rfl (pg_name (i := 6) scSpread.nd rfl (.inl rfl)) (i_lst (v_cl Cn (hr.mono hj2) (a_1 (v_v 5 w5)) ⟨g, hoky⟩ fun _ h => h)) ?_ ?_ ?_ ?_ ?_)
      · rintro H6 p e6 ⟨a, vs, e⟩ hp
        cases e
        have q1 := dict_ne (w1.ext e6.1) hp
        have q2 := dict_ne (w2.ext e6.1) hp
        simp [q1, q2]
      · rintro ys H6 py e6
        exact ⟨py, f, l, o6, rfl, w1.ext e6.1, w2.ext e6.1, z5, by simp⟩
      · rintro ys jj σ1 H6 H7 py ⟨q, f, l, o6, e, q1, q2, q3, q4⟩ e7
        exact ⟨q, f, l, o6, e, q1.ext e7.1, q2.ext e7.1, q3, q4⟩
      · rintro ys jj told t σ1 H6 py hjx m6 ⟨rfl, f, l, o6, rfl, q1, q2, q3, q4⟩ rt
        have ht : told ∈ nextsOf y := List.mem_of_getElem? hjx
        refine ⟨_, bnd_name, fun N'' hN'' => ?_⟩
        have y6 : pT.rel H6 u y := imT m6.2.1 w5
        cases hg : getA f told with
        | some p =>
          refine s_cons (s_if m6.tabs (bx := false) (t_c (c_is (c_notInD (k := kT) (r := pPair pI pI) (un hr 9) (v_v 6 rt) (v_v 1 ⟨df, rfl, q1⟩)) (by rw [hg]; rfl))) (fun h => by cases h) fun _ H7 e7 => s_nil (s_nil (hN'' _ _ e7.toM ⟨rfl, f, l, _, rfl, q1.ext e7.1, q2.ext e7.1, q3, ?_⟩)))
          rw [List.take_add_one, hjx]
          intro w hw
          rcases List.mem_append.mp hw with hw | hw
          · exact q4 w hw
          · have : w = told := by simpa using hw
            rw [this, hg]
            rfl
        | none =>
          refine s_cons (s_if m6.tabs (bx := true) (t_c (c_is (c_notInD (k := kT) (r := pPair pI pI) (un hr 9) (v_v 6 rt) (v_v 1 ⟨df, rfl, q1⟩)) (by rw [hg]; rfl))) (fun _ H7 e7 => ?_) fun h => by cases h)
          have a1 := q1.ext e7.1
          have a2 := q2.ext e7.1
          have t7 : pT.rel H7 t told := pT.mono e7.1 rt
          have y7 : pT.rel H7 u y := pT.mono e7.1 y6
          have lf := q3.len L
          have ll := q3.lenl L
          refine s_cons (s_put (k := kT) (r := pPair pI pI) (kvs := f) (d := df) (x := told) imII e7.2 (un hr 9) (Pv := is (((d + 1 : Nat) : Int), (0 : Int))) (v_pair (ev_is (v_add (v_fst (v_getD (k := kT) (r := pPair pI pI) (un hr 9) (v_v 1 ⟨df, rfl, a1⟩) (v_v 5 y7) (q3.rimv y hh))) (v_int (i := 1))) (by simp)) v_int) (v_v 1 ⟨df, rfl, a1⟩) (o_var (ix := 1)) a1 (v_v 6 t7) (Nat.lt_of_le_of_lt lf (by decide)) fun p H8 H9 pp e8 m9 hd9 => ?_)
          obtain rfl : p = _ := pp
          have b2 := dict_stay imB (a2.ext e8.1) m9 (by simp [Ne.symm ndf])
          have t9 : pT.rel H9 t told := imT m9.2.1 (pT.mono e8.1 t7)
          refine s_cons (s_put (k := kT) (r := pB) (kvs := l) (d := dl) (x := told) imB m9.tabs (un hr 9) (Pv := is true) v_bl (v_v 4 ⟨dl, rfl, b2⟩) (o_var (ix := 4)) b2 (v_v 6 t9) (Nat.lt_of_le_of_lt ll (by decide)) fun p H10 H11 pp e10 m11 hd11 => ?_)
          obtain rfl : p = _ := pp
          have c1 := dict_stay imII (hd9.ext e10.1) m11 (by simp [ndf])
          have mm : ExM [df, dl] T H6 H11 := (e7.toM.trans (e8.toM.trans (m9.sub (by simp)))).trans (e10.toM.trans (m11.sub (by simp)))
          refine s_nil (s_nil (hN'' _ _ mm ⟨rfl, _, _, _, rfl, c1, hd11, q3.put L hh ht hg, ?_⟩))
          rw [List.take_add_one, hjx]
          intro w hw
          rw [getA_put]
          split
          · rfl
          · rename_i hne'
            rcases List.mem_append.mp hw with hw | hw
            · exact q4 w hw
            · exact absurd (by simpa using hw) hne'
      · rintro ys σ1 H6 py m6 ⟨rfl, f, l, o6, rfl, q1, q2, q3, q4⟩
        rw [List.take_length] at q4
        refine s_nil (hN' _ _ ((e4.toM.trans (m5.sub (by simp))).trans (m6.sub (by simp))) ⟨rfl, f, l, _, _, o6, rfl, q1, q2, m6.get w3 (.lst _) (by simp [ndqf, ndq]), paired_imp (fun _ _ => imT m6.2.1) w4, ?_⟩)
        rw [List.take_add_one, hx, Option.toList_some, ← List.append_assoc]
        exact q3.done hh q4
    · rintro xs σ1 H3 px m3 ⟨rfl, f, l, vso', o5, o6, rfl, z1, z2, z3, z4, z5⟩
      rw [List.take_length] at z4 z5
      have eH3 : Ex T H H3 := eH2.thenM m3 (by
        intro p hp
        rcases (show p = df ∨ p = dq ∨ p = dl by simpa using hp) with rfl | rfl | rfl
        · exact fdf
        · exact fdq
        · exact fdlH)
      refine s_cons (s_setF 2 m3.tabs (f_listD (k := kT) (r := pB) rfl B (v_v 4 ⟨dl, rfl, z2⟩)) scSpread.nd fun dr' rim' H4 e4 fdr' rr pr => ?_)
      obtain rfl : rim' = _ := pr
      obtain ⟨_, vsr', e, hdr', hpr'⟩ := rr
      cases e
      have lf := z5.len L
      refine s_cons (s_if e4.2 (bx := false) (t_c (c_is (c_gt (ev_i (v_lenD (k := kT) (r := pPair pI pI) B (v_v 1 ⟨df, rfl, z1.ext e4.1⟩))) (v_gl G)) (decide_eq_false (by omega)))) (fun h => by cases h) fun _ H5 e5 => s_nil (s_nil ?_))
      have hap := z5.apart
      refine hN _ _ _ ?_ ⟨df, dr', dq, vsr', vso', f, l.map (·.1), dn ++ xs, d + 1, _, _, _, rfl, (eH3.trans e4).trans e5, fdf, fdq, (fun z => (fdr'.ne z3 (fun _ z => by cases z)) z.symm), (z1.ext e4.1).ext e5.1, e5.get hdr' (.lst _), paired_imp (fun _ _ => pT.mono e5.1) hpr', e5.get (e4.get z3 (.lst _)) (.lst _), paired_imp (fun _ _ => pT.mono (e4.trans e5).1) z4, z5.next fun u hu => List.mem_append_right _ hu, ?_, rfl⟩
      · rw [hm]
        split <;> omega
      · rw [List.nodup_append]
        exact ⟨nd, z5.ndl, fun a ha b hb e => hap b hb (e ▸ ha)⟩
end
end LT
/-! ## LtD6 -/
set_option Elab.async false
set_option linter.all false
set_option maxRecDepth 100000
set_option maxHeartbeats 8000000
namespace LT
open PySem PySem.W PySem.Spec PyProof.Rows L2 LamX

section
variable {α β : Type} [DecidableEq α] {X : Cx} {T : List (Addr × Str)} {o e : Expr} {k : KRp α} {r : Rp β} {σ : L2.St} {H : Hp} {x : α} {y : β} {Pk : List (α × β) → Prop} {apos cpos pos : Pos}
theorem v_get1P (hu : X.A.units + 9 < cLine) (ho : VE X T o (pD X.w k r) σ H Pk) (hi : VE X T e k.p σ H (is x)) (m : M1 X o "get" apos e cpos := by exact ⟨rfl, rfl, rfl, rfl⟩) : VE X T (.Call (.Attribute o "get" apos) [e] [] cpos) (pOpt r) σ H (fun z => ∃ kvs, Pk kvs ∧ z = getA kvs x) :=
  ve_of (pe_get1N (k := k) (r := r) hu pe_o pe_o m) fun H1 e1 Q kk => ho H1 e1 _ fun v kv H2 e2 ⟨d, ev, hd⟩ pd => ⟨d, kv, ev, hd, hi H2 (e1.trans e2) _ fun u x1 H3 e3 ru px =>
    ⟨x, hd.ext e3.1, by rw [← show x1 = x from px]; exact ru, fun v g1 g2 => kk v _ H3 (e2.trans e3) ⟨g1, g2⟩ ⟨kv, pd, rfl⟩⟩⟩
theorem v_getDP {Pv : β → Prop} (hu : X.A.units + 9 < cLine) (ho : VE X T o (pD X.w k r) σ H Pk) (hi : VE X T e k.p σ H (is x)) (g : ∀ kvs, Pk kvs → ∃ y, getA kvs x = some y ∧ Pv y) (hs : NoSl e := by intro _ _; rfl) : VE X T (.Subscript o e pos) r σ H Pv :=
  ve_of (pe_getN (k := k) (r := r) hu pe_o pe_o hs) fun H1 e1 Q kk => ho H1 e1 _ fun v kv H2 e2 ⟨d, ev, hd⟩ pd => hi H2 (e1.trans e2) _ fun u x1 H3 e3 ru px => by
    obtain ⟨y, gy, py⟩ := g kv pd
    exact ⟨d, kv, x, y, ev, hd.ext e3.1, by rw [← show x1 = x from px]; exact ru, gy, fun v hv => kk v y H3 (e2.trans e3) hv py⟩
end
section
variable {P : Program} {w : World} {K : PySem.W.Frag} {mg : Str → Option Value} {base : Heap} {T : List (Addr × Str)} {f c Pt : Addr} {fd : FuncData} {k : Nat}
def Like (a b : Tbl) : Prop := (∃ g, OkW g a ∧ OkW g b) ∧ a.length = b.length
abbrev pLike (T : List (Addr × Str)) : Sp := SpG T (a2 pT pT) (fun y => Like y.1 y.2.1) pU (fun _ _ => True)
theorem scLike : FnScope ["one", "other"] ["one", "other"] (defScope s_need_like) := ⟨rfl, rfl, rfl, by decide +kernel, rfl, by decide +kernel, by decide +kernel⟩
theorem f_need_like {j : Nat} (B : Blt mg) (Cn : Cal P w K mg base "need_table" ["table"] j (pNeedTable T)) (hj : j ≤ k) (F : FnP K "need_like" s_need_like f fd) : FnOk P w K mg base CX0 (k + 1) f fd ["one", "other"] (pLike T) := by
  refine fn_ok F scLike len2 fun cdv A outer s H vs Q E ⟨x, y, _⟩ hr ⟨v, ws, ev, h1, v2, ws2, e2, h2, h4⟩ ⟨⟨g, hx, hy⟩, hl⟩ hT k => ?_
  obtain rfl : ws2 = [] := h4
  subst ev e2
  have hx : OkW g x := hx
  have hy : OkW g y := hy
  have hl : x.length = y.length := hl
  obtain ⟨rx, hrx, _, _, lx⟩ := hx.row hx.pos
  obtain ⟨ry, hry, _, _, ly⟩ := hy.row hy.pos
  refine s_cons (s_drop hT (r := pU) (P := fun _ => True) (v_cl Cn (hr.mono hj) (a_1 (v_v 0 h1)) ⟨g, hx⟩ fun _ h => h) fun _ _ H1 e1 _ _ => ?_)
  refine s_cons (s_drop e1.2 (r := pU) (P := fun _ => True) (v_cl Cn (hr.mono hj) (a_1 (v_v 1 (pT.mono e1.1 h2))) ⟨g, hy⟩ fun _ h => h) fun _ _ H2 e2 _ _ => ?_)
  have x2 : pT.rel H2 v x := pT.mono (e1.trans e2).1 h1
  have y2 : pT.rel H2 v2 y := pT.mono (e1.trans e2).1 h2
  refine s_cons (s_if e2.2 (bx := false) (t_w (w_or (bx := false) (bz := false) (t_c (c_is (c_neN (v_lenT B (v_v 0 x2)) (v_lenT B (v_v 1 y2))) ?_)) fun _ => w_or1 (t_c (c_is (c_neN (v_lenT B (v_ixT (v_v 0 x2) (v_nat (n := 0)) hrx)) (v_lenT B (v_ixT (v_v 1 y2) (v_nat (n := 0)) hry))) ?_)))) (fun h => by cases h) fun _ H3 e3 => s_nil (s_nil (k .non () H3 ((e1.trans e2).trans e3) rfl trivial)))
  · show (!decide (x.length = y.length)) = false
    rw [decide_eq_true hl]
    rfl
  · rw [decide_eq_true (lx.trans ly.symm)]
    rfl
/-- l lies below all ways, l deeds can still be made -/
abbrev pLeast (T : List (Addr × Str)) : Sp := SpG T (a2 pT pT) (fun y => Like y.1 y.2.1 ∧ Rch (crowdOf y.1) (crowdOf y.2.1)) pN (fun y l => l + oddsN (crowdOf y.2.1) ≤ oddsN (crowdOf y.1) ∧ (∀ n, Path n (crowdOf y.1) (crowdOf y.2.1) → l ≤ n) ∧ Path l (crowdOf y.1) (crowdOf y.2.1))
abbrev pMost (T : List (Addr × Str)) : Sp := SpG T (a2 pT pT) (fun y => Like y.1 y.2.1 ∧ Rch (crowdOf y.1) (crowdOf y.2.1)) pN (fun y l => l + oddsN (crowdOf y.2.1) ≤ oddsN (crowdOf y.1) ∧ ∀ n, Path n (crowdOf y.1) (crowdOf y.2.1) → n ≤ l)
theorem scLeast : FnScope ["one", "other", "found"] ["one", "other"] (defScope s_least_deeds) := ⟨rfl, rfl, rfl, by decide +kernel, rfl, by decide +kernel, by decide +kernel⟩
theorem f_least {j j2 j3 : Nat} (Cl : Cal P w K mg base "need_like" ["one", "other"] j (pLike T)) (Cs : Cal P w K mg base "spread" ["table"] j2 (pSpread w T)) (Cc : Cal P w K mg base "crowd_of" ["table"] j3 (pCrowd T)) (hj : j ≤ k) (hj2 : j2 ≤ k) (hj3 : j3 ≤ k) (F : FnP K "least_deeds" s_least_deeds f fd) :
    FnOk P w K mg base CX0 (k + 1) f fd ["one", "other"] (pLeast T) := by
  refine fn_ok F scLeast len2 fun cdv A outer s H vs Q E ⟨x, y, _⟩ hr ⟨v, ws, ev, h1, v2, ws2, e2, h2, h4⟩ ⟨hlk, hrc⟩ hT k => ?_
  obtain ⟨⟨g, hx, hy⟩, hl⟩ := id hlk
  obtain rfl : ws2 = [] := h4
  subst ev e2
  refine s_cons (s_drop hT (r := pU) (P := fun _ => True) (v_cl Cl (hr.mono hj) (a_2 (v_v 0 h1) (v_v 1 h2)) hlk fun _ h => h) fun _ _ H1 e1 _ _ => ?_)
  refine s_cons (s_set 2 e1.2 (v_get1P (k := kT) (r := pPair pI pI) (un hr 9) (v_cl Cs (hr.mono hj2) (a_1 (v_v 0 (pT.mono e1.1 h1))) ⟨g, hx⟩ fun _ h => h) (v_cl Cc (hr.mono hj3) (a_1 (v_v 1 (pT.mono e1.1 h2))) ⟨g, hy⟩ fun _ h => h)) scLeast.nd fun u z H2 e2 rz pz => ?_)
  obtain ⟨kvs, ⟨g', so⟩, ez⟩ := pz
  obtain ⟨⟨a, m⟩, hg⟩ := getA_some_iff.mp ((so.mem _).mpr hrc)
  obtain ⟨l, n, rfl, rfl, b1, b2, b3, b4⟩ := so.val _ a m hg
  have hg : getA kvs (crowdOf y) = some ((l : Int), (n : Int)) := hg
  rw [show z = _ from ez, hg] at rz
  have rz : (pPair pI pI).rel H2 u ((l : Int), (n : Int)) := rz.1 _ rfl
  refine s_cons (s_ret e2.2 (r := pN) (P := is l) (v_if (bx := false) (t_c (c_isN (r := pPair pI pI) (P := is ((l : Int), (n : Int))) (v_v 2 rz) fun H v x h _ => by obtain ⟨a, b, c, e, _⟩ := h; rw [e]; rfl)) (fun h => by cases h) fun _ => ev_n (v_fst (v_v 2 rz))) fun u' z' H3 e3 rl pz' => k u' z' H3 ((e1.trans e2).trans e3) rl ?_)
  rw [show z' = l from pz']
  exact ⟨b1, fun n p => (b3 n p).1, b4⟩
theorem scMost : FnScope ["one", "other", "found"] ["one", "other"] (defScope s_most_deeds) := ⟨rfl, rfl, rfl, by decide +kernel, rfl, by decide +kernel, by decide +kernel⟩
theorem f_most {j j2 j3 : Nat} (Cl : Cal P w K mg base "need_like" ["one", "other"] j (pLike T)) (Cs : Cal P w K mg base "spread" ["table"] j2 (pSpread w T)) (Cc : Cal P w K mg base "crowd_of" ["table"] j3 (pCrowd T)) (hj : j ≤ k) (hj2 : j2 ≤ k) (hj3 : j3 ≤ k) (F : FnP K "most_deeds" s_most_deeds f fd) :
    FnOk P w K mg base CX0 (k + 1) f fd ["one", "other"] (pMost T) := by
  refine fn_ok F scMost len2 fun cdv A outer s H vs Q E ⟨x, y, _⟩ hr ⟨v, ws, ev, h1, v2, ws2, e2, h2, h4⟩ ⟨hlk, hrc⟩ hT k => ?_
  obtain ⟨⟨g, hx, hy⟩, hl⟩ := id hlk
  obtain rfl : ws2 = [] := h4
  subst ev e2
  refine s_cons (s_drop hT (r := pU) (P := fun _ => True) (v_cl Cl (hr.mono hj) (a_2 (v_v 0 h1) (v_v 1 h2)) hlk fun _ h => h) fun _ _ H1 e1 _ _ => ?_)
  refine s_cons (s_set 2 e1.2 (v_get1P (k := kT) (r := pPair pI pI) (un hr 9) (v_cl Cs (hr.mono hj2) (a_1 (v_v 0 (pT.mono e1.1 h1))) ⟨g, hx⟩ fun _ h => h) (v_cl Cc (hr.mono hj3) (a_1 (v_v 1 (pT.mono e1.1 h2))) ⟨g, hy⟩ fun _ h => h)) scMost.nd fun u z H2 e2 rz pz => ?_)
  obtain ⟨kvs, ⟨g', so⟩, ez⟩ := pz
  obtain ⟨⟨a, m⟩, hg⟩ := getA_some_iff.mp ((so.mem _).mpr hrc)
  obtain ⟨l, n, rfl, rfl, b1, b2, b3, b4⟩ := so.val _ a m hg
  have hg : getA kvs (crowdOf y) = some ((l : Int), (n : Int)) := hg
  rw [show z = _ from ez, hg] at rz
  have rz : (pPair pI pI).rel H2 u ((l : Int), (n : Int)) := rz.1 _ rfl
  refine s_cons (s_ret e2.2 (r := pN) (P := is n) (v_if (bx := false) (t_c (c_isN (r := pPair pI pI) (P := is ((l : Int), (n : Int))) (v_v 2 rz) fun H v x h _ => by obtain ⟨a, b, c, e, _⟩ := h; rw [e]; rfl)) (fun h => by cases h) fun _ => ev_n (v_snd (v_v 2 rz))) fun u' z' H3 e3 rl pz' => k u' z' H3 ((e1.trans e2).trans e3) rl ?_)
  rw [show z' = n from pz']
  exact ⟨b2, fun n p => (b3 n p).2⟩
end
end LT
/-! ## LtWorth -/
set_option Elab.async false
set_option linter.all false
set_option maxRecDepth 100000
set_option maxHeartbeats 4000000
namespace LT
open PySem PySem.W PySem.Spec PyProof.Rows L2 LamX

/-! ### worths, lengths -/
/-- the least number not among xs -/
def mexFrom (xs : List Nat) : Nat → Nat → Nat
  | 0, n => n
  | m + 1, n => if n ∈ xs then mexFrom xs m (n + 1) else n
def mex (xs : List Nat) : Nat := mexFrom xs xs.length 0
theorem mexFrom_ok (xs : List Nat) : ∀ m n, (∀ i, i < n → i ∈ xs) → (∀ i, i < mexFrom xs m n → i ∈ xs) ∧ (mexFrom xs m n ∉ xs ∨ mexFrom xs m n = n + m)
  | 0, n, h => ⟨h, .inr rfl⟩
  | m + 1, n, h => by
    unfold mexFrom
    by_cases q : n ∈ xs
    · rw [if_pos q]
      obtain ⟨h1, h2⟩ := mexFrom_ok xs m (n + 1) fun i hi => by
        rcases Nat.lt_or_ge i n with z | z
        · exact h i z
        · obtain rfl : i = n := by omega
          exact q
      exact ⟨h1, h2.imp id fun z => by omega⟩
    · rw [if_neg q]
      exact ⟨h, .inl q⟩
theorem mex_ok (xs : List Nat) : (∀ i, i < mex xs → i ∈ xs) ∧ mex xs ∉ xs := by
  obtain ⟨h1, h2⟩ := mexFrom_ok xs xs.length 0 (by simp)
  refine ⟨h1, h2.elim id fun h => ?_⟩
  intro hm
  have h3 : (List.range (xs.length + 1)).length ≤ xs.length := nodup_sub List.nodup_range fun i hi => by
    have hi := List.mem_range.mp hi
    rcases Nat.lt_or_ge i xs.length with z | z
    · exact h1 i (by show i < mexFrom xs xs.length 0; omega)
    · obtain rfl : i = mex xs := by show i = mexFrom xs xs.length 0; omega
      exact hm
  rw [List.length_range] at h3
  omega
theorem mex_uniq {xs : List Nat} {n : Nat} (h1 : ∀ i, i < n → i ∈ xs) (h2 : n ∉ xs) : n = mex xs := by
  obtain ⟨m1, m2⟩ := mex_ok xs
  rcases Nat.lt_trichotomy n (mex xs) with z | z | z
  · exact absurd (m1 n z) h2
  · exact z
  · exact absurd (h1 _ z) m2
theorem mex_congr {xs ys : List Nat} (h : ∀ i, i ∈ xs ↔ i ∈ ys) : mex xs = mex ys := mex_uniq (fun i hi => (h i).mp ((mex_ok xs).1 i hi)) fun z => (mex_ok xs).2 ((h _).mpr z)
/-- recursion over the deeds: by the number of pairs at odds -/
def downF {β : Type} (F : (Tbl → β) → Tbl → β) (z : β) : Nat → Tbl → β
  | 0, t => F (fun _ => z) t
  | n + 1, t => F (downF F z n) t
def down {β : Type} (F : (Tbl → β) → Tbl → β) (z : β) (t : Tbl) : β := downF F z (oddsN t) t
theorem downF_eq {β : Type} {F : (Tbl → β) → Tbl → β} {z : β} (hF : ∀ f g t, (∀ u ∈ nextsOf t, f u = g u) → F f t = F g t) (L : Less) {g : Nat} : ∀ {n m : Nat} {t : Tbl}, OkW g t → oddsN t ≤ n → oddsN t ≤ m → downF F z n t = downF F z m t
  | 0, 0, t, _, _, _ => rfl
  | 0, m + 1, t, h, h1, h2 => by
    have h0 := nexts_len t
    have e : nextsOf t = [] := List.length_eq_zero_iff.mp (by omega)
    exact hF _ _ t fun u hu => by rw [e] at hu; cases hu
  | n + 1, 0, t, h, h1, h2 => by
    have h0 := nexts_len t
    have e : nextsOf t = [] := List.length_eq_zero_iff.mp (by omega)
    exact hF _ _ t fun u hu => by rw [e] at hu; cases hu
  | n + 1, m + 1, t, h, h1, h2 => hF _ _ t fun u hu => by
    have := L g t u h hu
    exact downF_eq hF L (next_ok h hu) (by omega) (by omega)
theorem down_eq {β : Type} {F : (Tbl → β) → Tbl → β} {z : β} (hF : ∀ f g t, (∀ u ∈ nextsOf t, f u = g u) → F f t = F g t) (L : Less) {g : Nat} {t : Tbl} (h : OkW g t) : down F z t = F (down F z) t := by
  unfold down
  cases ho : oddsN t with
  | zero =>
    have h0 := nexts_len t
    have e : nextsOf t = [] := List.length_eq_zero_iff.mp (by omega)
    exact hF _ _ t fun u hu => by rw [e] at hu; cases hu
  | succ n =>
    refine hF _ _ t fun u hu => ?_
    have := L g t u h hu
    exact downF_eq hF L (next_ok h hu) (by omega) (Nat.le_refl _)
def worthF (f : Tbl → Nat) (t : Tbl) : Nat := mex ((nextsOf t).map f)
def worth : Tbl → Nat := down worthF 0
theorem worth_eq (L : Less) {g : Nat} {t : Tbl} (h : OkW g t) : worth t = mex ((nextsOf t).map worth) := down_eq (F := worthF) (fun f g t q => by
  unfold worthF
  rw [List.map_congr_left q]) L h
/-- the least, the greatest of a list (0 for none) -/
def minL (xs : List Nat) : Nat := xs.foldl min (xs.headD 0)
def maxL (xs : List Nat) : Nat := xs.foldl max 0
def lenF (f : Tbl → Nat) (t : Tbl) : Nat := if nextsOf t = [] then 0 else if 0 < worth t then 1 + minL (((nextsOf t).filter fun u => decide (worth u = 0)).map f) else 1 + maxL ((nextsOf t).map f)
def glen : Tbl → Nat := down lenF 0
theorem glen_eq (L : Less) {g : Nat} {t : Tbl} (h : OkW g t) : glen t = lenF glen t := down_eq (F := lenF) (fun f g t q => by
  unfold lenF
  rw [List.map_congr_left q, List.map_congr_left (l := (nextsOf t).filter fun u => decide (worth u = 0)) fun u hu => q u (List.mem_filter.mp hu).1]) L h
theorem foldl_min : ∀ (xs : List Nat) (a : Nat), (∀ x ∈ xs, xs.foldl min a ≤ x) ∧ xs.foldl min a ≤ a ∧ (xs.foldl min a = a ∨ xs.foldl min a ∈ xs)
  | [], a => ⟨by simp, Nat.le_refl _, .inl rfl⟩
  | x :: xs, a => by
    rw [List.foldl_cons]
    obtain ⟨h1, h2, h3⟩ := foldl_min xs (min a x)
    refine ⟨fun y hy => ?_, by omega, ?_⟩
    · rcases List.mem_cons.mp hy with rfl | hy
      · omega
      · exact h1 y hy
    · rcases h3 with h3 | h3
      · rcases Nat.le_total a x with z | z
        · exact .inl (by omega)
        · exact .inr (by rw [h3, Nat.min_eq_right z]; exact List.mem_cons_self)
      · exact .inr (List.mem_cons_of_mem _ h3)
theorem minL_ok {xs : List Nat} (h : xs ≠ []) : minL xs ∈ xs ∧ ∀ x ∈ xs, minL xs ≤ x := by
  obtain ⟨a, l, rfl⟩ := List.exists_cons_of_ne_nil h
  obtain ⟨h1, h2, h3⟩ := foldl_min (a :: l) a
  refine ⟨?_, h1⟩
  rcases h3 with h3 | h3
  · unfold minL
    show (a :: l).foldl min a ∈ _
    rw [h3]
    exact List.mem_cons_self
  · exact h3
theorem foldl_max : ∀ (xs : List Nat) (a : Nat), (∀ x ∈ xs, x ≤ xs.foldl max a) ∧ a ≤ xs.foldl max a ∧ (xs.foldl max a = a ∨ xs.foldl max a ∈ xs)
  | [], a => ⟨by simp, Nat.le_refl _, .inl rfl⟩
  | x :: xs, a => by
    rw [List.foldl_cons]
    obtain ⟨h1, h2, h3⟩ := foldl_max xs (max a x)
    refine ⟨fun y hy => ?_, by omega, ?_⟩
    · rcases List.mem_cons.mp hy with rfl | hy
      · omega
      · exact h1 y hy
    · rcases h3 with h3 | h3
      · rcases Nat.le_total x a with z | z
        · exact .inl (by omega)
        · exact .inr (by rw [h3, Nat.max_eq_right z]; exact List.mem_cons_self)
      · exact .inr (List.mem_cons_of_mem _ h3)
theorem maxL_ok {xs : List Nat} (h : xs ≠ []) : maxL xs ∈ xs ∧ ∀ x ∈ xs, x ≤ maxL xs := by
  obtain ⟨a, l, rfl⟩ := List.exists_cons_of_ne_nil h
  obtain ⟨h1, h2, h3⟩ := foldl_max (a :: l) 0
  refine ⟨?_, h1⟩
  rcases h3 with h3 | h3
  · have := h1 a List.mem_cons_self
    have e : a = 0 := by omega
    unfold maxL
    rw [h3, e]
    exact List.mem_cons_self
  · exact h3
/-- a dict of all that can be reached, with F's values -/
structure DictOk {β : Type} (g : Nat) (c0 : Tbl) (F : Tbl → β) (f : List (Tbl × β)) : Prop where
  ok : OkW g c0
  nd : (f.map (·.1)).Nodup
  mem : ∀ u, u ∈ f.map (·.1) ↔ Rch c0 u
  val : ∀ u, Rch c0 u → getA f u = some (F u)
/-- .. under way: dn the crowds that are through -/
structure DictTo {β : Type} (g : Nat) (c0 : Tbl) (F : Tbl → β) (f : List (Tbl × β)) (dn : List Tbl) : Prop where
  ok : OkW g c0
  nd : (f.map (·.1)).Nodup
  mem : ∀ u, u ∈ f.map (·.1) ↔ u ∈ dn
  val : ∀ u ∈ dn, getA f u = some (F u)
theorem DictTo.first {β : Type} {g : Nat} {c0 : Tbl} {F : Tbl → β} (h : OkW g c0) : DictTo g c0 F [] [] := ⟨h, by simp, by simp, by simp⟩
theorem DictTo.put {β : Type} {g : Nat} {c0 : Tbl} {F : Tbl → β} {f : List (Tbl × β)} {dn : List Tbl} (s : DictTo g c0 F f dn) (t : Tbl) : DictTo g c0 F (putA f t (F t)) (dn ++ [t]) := by
  refine ⟨s.ok, put_nodup s.nd _ _, fun u => ?_, fun u hu => ?_⟩
  · rw [put_keys]
    split
    · rename_i q
      rw [s.mem]
      refine ⟨fun h => List.mem_append_left _ h, fun h => (List.mem_append.mp h).elim id fun z => ?_⟩
      rw [List.mem_singleton.mp z]
      exact (s.mem t).mp q
    · rw [List.mem_append, List.mem_append, s.mem]
  · rw [getA_put]
    by_cases e : u = t
    · rw [if_pos e, e]
    · rw [if_neg e]
      exact s.val u ((List.mem_append.mp hu).elim id fun z => absurd (List.mem_singleton.mp z) e)
theorem DictTo.fin {β : Type} {g : Nat} {c0 : Tbl} {F : Tbl → β} {f : List (Tbl × β)} {dn : List Tbl} (s : DictTo g c0 F f dn) (h : ∀ u, u ∈ dn ↔ Rch c0 u) : DictOk g c0 F f := ⟨s.ok, s.nd, fun u => (s.mem u).trans (h u), fun u hu => s.val u ((h u).mpr hu)⟩
/-- the crowds sorted by their pairs at odds: what follows a crowd lies ahead of it -/
theorem up_sorted (L : Less) {g : Nat} {c0 : Tbl} (hc : OkW g c0) {ys : List Tbl} (hm : ∀ u, u ∈ ys ↔ Rch c0 u) (hs : ys.Pairwise fun a b => oddsN a ≤ oddsN b) {i : Nat} {t : Tbl} (hi : ys[i]? = some t) : OkW g t ∧ Rch c0 t ∧ ∀ u ∈ nextsOf t, u ∈ ys.take i := by
  have ht : t ∈ ys := List.mem_of_getElem? hi
  obtain ⟨n, p⟩ := (hm t).mp ht
  have hok : OkW g t := p.ok hc
  refine ⟨hok, ⟨n, p⟩, fun u hu => ?_⟩
  have hy : u ∈ ys := (hm u).mpr ⟨n + 1, .snoc p hu⟩
  obtain ⟨j, hj, e⟩ := List.getElem_of_mem hy
  have hlt := L g t u hok hu
  obtain ⟨hi2, e2⟩ := List.getElem?_eq_some_iff.mp hi
  have hji : j < i := by
    rcases Nat.lt_trichotomy j i with z | z | z
    · exact z
    · subst z
      rw [e2] at e
      rw [e] at hlt
      omega
    · have := List.pairwise_iff_getElem.mp hs i j hi2 hj z
      rw [e, e2] at this
      omega
  rw [← e]
  exact List.mem_take_iff_getElem.mpr ⟨j, by omega, rfl⟩
end LT
/-! ## LtSortUp -/
set_option Elab.async false
set_option linter.all false
set_option maxRecDepth 100000
set_option maxHeartbeats 8000000
namespace LT
open PySem PySem.W PySem.Spec PyProof.Rows L2 LamX

def keyUp (t : Tbl) : Int := ((oddsN t : Nat) : Int)
theorem sort_up (z : List Tbl) : (z.mergeSort fun a b => decide (keyUp a ≤ keyUp b)).Pairwise fun a b => oddsN a ≤ oddsN b := by
  have h1 := List.pairwise_mergeSort (le := fun a b => decide (keyUp a ≤ keyUp b)) (fun a b c h1 h2 => by
    have := of_decide_eq_true h1
    have := of_decide_eq_true h2
    exact decide_eq_true (by omega)) (fun a b => by
    rcases Int.le_total (keyUp a) (keyUp b) with h | h
    · rw [decide_eq_true h, Bool.true_or]
    · rw [decide_eq_true h, Bool.or_true]) z
  exact h1.imp fun h => by
    have h := of_decide_eq_true h
    unfold keyUp at h
    omega
abbrev lamSc : Scope := { kind := .function, names := [("told", .local), ("len", .globalImplicit), ("odds_of", .globalImplicit)], isGenerator := false, isCoroutine := false }
theorem scLam : FnScope ["told"] ["told"] lamSc := ⟨rfl, rfl, rfl, by decide +kernel, rfl, by decide +kernel, by decide +kernel⟩
section
variable {β : Type} {r : Rp β} {X : Cx} {T : List (Addr × Str)} {e : Expr} {σ : L2.St} {H : Hp} {pos p lpos kpos q1 q2 q3 q4 q5 q6 : Pos} {c Pt : Addr} {k : Nat} {Pa : List (Tbl × β) → Prop}
theorem v_sortUp (hc : X.calm = true) (B : Blt X.mg) (TB : TabB X.base X.mg c Pt) (hcode : X.env.code = .ref c) (hmT : (Pt, X.env.qual ++ "<lambda>") ∈ T) (hu : ∀ p ∈ T, p.1 = Pt → p.2 = X.env.qual ++ "<lambda>") (hr : Room (k + 3) X.A)
    (Co : Cal X.prog X.w X.K X.mg X.base "odds_of" ["table"] k (pOdds T)) (ha : VE X T e (pD X.w kT r) σ H Pa) (hok : ∀ z, Pa z → ∀ y ∈ z.map (·.1), Ok y) (hg : Gl X "sorted" := by rfl)
    (na : starEach [e] X.env = (false, eval e X.env) :: starEach [] X.env := by rfl) (he : backTo pos (starEach [e] X.env) = (false, eval e X.env) :: backTo pos (starEach [] X.env) := by rfl) (hpl : (backTo pos (starEach [e] X.env)).any (·.1) = false := by rfl) :
    VF X T (.Call (.Name "sorted" p) [e] [⟨some "key", .Lambda { posonlyargs := [], args := [{ arg := "told", annotation := none, pos := q6 }], vararg := none, kwonlyargs := [], kw_defaults := [], kwarg := none, defaults := [] } (.Call (.Name "len" q1) [.Call (.Name "odds_of" q2) [.Name "told" q3] [] q4] [] q5) lamSc lpos, kpos⟩] pos) (pLst pT) σ H
      (fun ys => ∃ z, Pa z ∧ ys = (z.map (·.1)).mergeSort fun a b => decide (keyUp a ≤ keyUp b)) :=
  v_sortLam (X := X) (q := pD X.w kT r) (Pa := Pa) (N := ["told"]) (k := k) (key := keyUp) (xs := fun z : List (Tbl × β) => z.map (·.1)) imT hc B TB hcode hmT hu hr scLam ha (fun H v z rz _ => src_dic (k := kT) (r := r) rz)
    (fun z pz y hy H2 u e2 ru Y hY => by
      obtain ⟨A', s', H0, f', c', hR, rfl⟩ := hY
      exact ev_i (v_lenL B (v_cl Co hR (a_1 (v_v 0 ru)) (hok z pz y hy) fun _ h => h)))
    (fun _ _ _ _ _ => rfl) (by decide +kernel) (fun _ => rfl) rfl hg (fun _ => rfl) na he hpl
end
end LT
/-! ## LtSetDc -/
set_option Elab.async false
set_option linter.all false
set_option maxRecDepth 100000
set_option maxHeartbeats 8000000
namespace LT
open PySem PySem.W PySem.Spec PyProof.Rows L2 LamX

theorem sw_trueD {kx vx : Expr} {gs : List Comprehension} {scope : Scope} {pos py : Pos} {y : Str} {l : Nat} {env : Env} (hk : env.scope.kind = .function) (hy : env.scope.names.lookup y = some .local) (hl : (py.line == pos.line) = true)
    (ha : (scope.names.any fun (n, k) => n == y && (k == .local || k == .cell)) = false) : swapsWith (.DictComp kx vx gs scope pos) (some (.Name y py)) l env = pure true := by
  have ky : env.kindOf y = some .local := hy
  have hb : env.blockKind = .function := by unfold Env.blockKind; rw [hk]; rfl
  unfold swapsWith
  simp only [hb, ky, ha, Expr.pos, hl]
  rfl
section
variable {X : Cx}
/-- name = {k: v for ..}, the name a local -/
theorem ps_setDc {i : Nat} {y : Str} {py : Pos} {kx vx tg iter : Expr} {ifs : List Expr} {scope : Scope} {own : List (Str × Nat)} {pos spos : Pos} {wi : TI} {g : TG} {tt : TT} {tk tv : TE} (hc : X.calm = true) (hN : X.N.Nodup) (hy : X.N[i]? = some y) (hyl : X.env.scope.names.lookup y = some .local)
    (hsw : swapsWith (.DictComp kx vx [⟨tg, iter, ifs, 0⟩] scope pos) (some (.Name y py)) spos.line X.env = pure true) (hi : PI X tg iter wi) (ok : BlkOk X.N X.env.scope scope own)
    (hg : TgS X scope tg g) (ht : ∀ (s : Shared) (H : Hp) (C : Addr) (cl : List (Str × Addr)) (fp : List Addr), PTs (X.blk s H scope (compEnvC scope cl C X.env) fp) ifs tt)
    (hk : ∀ (s : Shared) (H : Hp) (C : Addr) (cl : List (Str × Addr)) (fp : List Addr), PE (X.blk s H scope (compEnvC scope cl C X.env) fp) kx tk)
    (he : ∀ (s : Shared) (H : Hp) (C : Addr) (cl : List (Str × Addr)) (fp : List Addr), PE (X.blk s H scope (compEnvC scope cl C X.env) fp) vx tv) (hs : ∀ x, foldedSetIterable iter X.env x = pure x := by intro _; rfl) :
    PS X (.Assign [.Name y py] (.DictComp kx vx [⟨tg, iter, ifs, 0⟩] scope pos) spos) (tAsg (tDc wi g tt tk tv (own.map (·.2))) (gName i)) := by
  refine ⟨fun pins s σ H D I h => ?_⟩
  rw [exec_Assign_Name_used _ _ _ _ hsw]
  refine wpAny_bind (wpAny_standAt (wpAny_bind ?_))
  show wpAny _ X.A (do let _ ← comprehension (.DictComp kx vx [⟨tg, iter, ifs, 0⟩] scope pos) scope X.env (firstIterPos [⟨tg, iter, ifs, 0⟩] pos) newDict false (eval iter X.env) (some (assign (.Name y py) X.env))) _ _ s
  have h : tDc wi g tt tk tv (own.map (·.2)) σ H (fun x H1 => gName i x σ H1 D.nx) := h
  refine wpAny_bind (thn (dc_core (Qf := fun _ s' => SP X pins D .next s') hc hN I hi ok hg ht hk he hs h fun L C s' m H' I' q hn f => ?_) fun _ s' hq => wpAny_pure (wpAny_pure hq))
  show wpAny _ _ (assign (.Name y py) X.env (.ref L)) _ _ _
  refine wpAny_assign_Name (store_ok2 (v := V.ref L) I' hN hy (.inl hyl) rfl (fun s2 I2 ⟨a, sb, ha⟩ => ?_) (.inr hyl))
  obtain ⟨f0, f1, f2, f3, f4, f5⟩ := f
  have haC : C ≠ a := by
    rcases ha with z | z
    · rw [z]; exact f1
    · exact fun e => f4 y a z e.symm
  exact ⟨m, hn.sameBut sb haC, fun h'' sb2 => ⟨_, H', I2.turned (t' := s2.toks) (fun b o hb e => (sb2.2 b hb).trans e) f0 f1 f3 f4 f5, q⟩⟩
end
section
variable {γ : Type} {X : Cx} {T : List (Addr × Str)} {q : Rp γ} {σ : L2.St} {H : Hp} {kx vx tg iter : Expr} {scope : Scope} {pos p spos py : Pos} {D : Ends}
end
end LT
/-! ## LtD7 -/
set_option Elab.async false
set_option linter.all false
set_option maxRecDepth 100000
set_option maxHeartbeats 8000000
namespace LT
open PySem PySem.W PySem.Spec PyProof.Rows L2 LamX

/-! ### {number: True ..}: a set of numbers -/
def siRel (H : Hp) (v : V) (xs : List Nat) : Prop := ∃ d kvs, v = .ref d ∧ H d = some (.dK kvs) ∧ ∀ n : Nat, (valV kvs (Sum.inl (n : Int))).isSome = decide (n ∈ xs)
def pSI : Rp (List Nat) := ⟨siRel, fun e h => by
  obtain ⟨d, kvs, h1, h2, h3⟩ := h
  exact ⟨d, kvs, h1, e _ _ h2 (fun _ z => by cases z), h3⟩⟩
section
variable {γ : Type} {X : Cx} {T : List (Addr × Str)} {q : Rp γ} {σ : L2.St} {H : Hp} {a b kx vx tg iter : Expr} {scope : Scope} {own : List (Str × Nat)} {pos p : Pos} {wi : TI} {g : TG} {tk tv : TE} {n : Nat} {xs : List Nat}
theorem c_inSI (hu : X.A.units + 1 < cLine) (ha : VE X T a pN σ H (is n)) (hb : VE X T b pSI σ H (is xs)) (hm : behindInMarks .In b = false := by first | exact nobehind _ (by decide) (by decide) | rfl | with_unfolding_all rfl) : VT X T (.Compare a [.In] [b] pos) σ H (decide (n ∈ xs)) :=
  vt_of (pt_cmp (pc_din hu pe_o pe_o) hm) fun H1 e1 Q k => ha H1 e1 _ fun v m H2 e2 rv pm => hb H2 (e1.trans e2) _ fun u ys H3 e3 ⟨d, kvs, ev, h1, h2⟩ py => by
    have hv : v = .int (n : Int) := by rw [show v = _ from rv, show m = n from pm]
    refine ⟨d, valV kvs (Sum.inl (n : Int)), ev, .inl ⟨kvs, Sum.inl (n : Int), .inl h1, hv, rfl⟩, _, rfl, ?_⟩
    rw [h2 n, show ys = xs from py]
    exact k H3 (e2.trans e3)
theorem ev_dcI {xs : List γ} {kf : γ → Nat} {vs : List Nat} {O : Option (Addr × HO) → Prop} (hi : Iv T q wi σ H (is xs) O) (hz : xs.length ≤ sizeLine)
    (hb : ∀ x, x ∈ xs → ∀ H1 v, Ex T H H1 → q.rel H1 v x → ∃ σ2, Bnd g v (wipe σ vs) H1 σ2 ∧ wipe σ2 vs = wipe σ vs ∧ Ev T pN tk σ2 H1 (is (kf x)) ∧ Ev T pB tv σ2 H1 (is true)) :
    Ev T pSI (tDc wi g tYes tk tv vs) σ H (is (xs.map kf)) := fun H1 e Q kk => hi H1 e _ fun J H2 xs' o px _ e2 so it D hD => by
  obtain rfl : xs' = xs := px
  have t2 : Tabs T H2 := e2.2
  have fr : Fr0 H2 D := Fr0.of_none hD
  refine ⟨fun i m H' => m = xs'.length - i ∧ i ≤ xs'.length ∧ Ex T H2 H' ∧ ∃ kvs, H' D = some (.dK kvs) ∧ kvs.length ≤ i ∧ ∀ n : Nat, (valV kvs (Sum.inl (n : Int))).isSome = decide (n ∈ (xs'.take i).map kf), ⟨_, rfl, Nat.zero_le _, Ex.new t2 hD, [], upd_same, Nat.le_refl _, fun n => rfl⟩, ?_⟩
  rintro i m H' ⟨rfl, hi', e', kvs, hp, hl, hv⟩
  obtain ⟨g1, g2⟩ := it H' (gd_ext so e'.1) e'.2 i
  by_cases hlt : i < xs'.length
  · obtain ⟨go, yl⟩ := g1 hlt
    refine .inr ⟨go, fun H'' => (Ex T H2 H'' ∧ ∃ kvs, H'' D = some (.dK kvs) ∧ kvs.length ≤ i + 1 ∧ ∀ n : Nat, (valV kvs (Sum.inl (n : Int))).isSome = decide (n ∈ (xs'.take (i + 1)).map kf)), fun H'' q => ⟨xs'.length - (i + 1), by omega, rfl, hlt, q⟩, fun v H4 hy => ?_⟩
    obtain ⟨e4, x, hx, rx⟩ := yl v H4 hy
    have e04 : Ex T H H4 := (e.trans e2).trans (e'.trans e4)
    obtain ⟨σ2, hbn, hw, htk, htv⟩ := hb x (List.mem_of_getElem? hx) H4 v e04 rx
    refine hbn _ ⟨hw, (et_yes (T := T) (σ := σ2) (H := H4)) H4 e4.here _ fun Hy ey => ?_⟩
    rw [if_pos rfl]
    refine htk Hy ey _ fun y a H5 e5 ry pa => htv H5 (ey.trans e5) _ fun z b H6 e6 rz pb => ?_
    have e36 : Ex T H' H6 := e4.trans (ey.trans (e5.trans e6))
    have h6 : H6 D = some (.dK kvs) := e36.get hp (.dK _)
    refine ⟨kvs, Sum.inl ((kf x : Nat) : Int), by rw [show y = _ from ry, show a = kf x from pa]; rfl, h6, by omega, (e'.trans e36).mut fr h6 (.dK _), _, upd_same, ?_, fun n => ?_⟩
    · have := length_putK kvs (Sum.inl ((kf x : Nat) : Int)) z
      omega
    · rw [valV_put, List.take_add_one, hx, Option.toList_some, List.map_append, List.map_cons, List.map_nil]
      by_cases hn : n = kf x
      · rw [if_pos (by rw [hn])]
        simp [hn]
      · rw [if_neg (fun z => hn (by have := Sum.inl.inj z; omega)), hv n]
        simp [hn]
  · have ei : i = xs'.length := by omega
    subst ei
    refine .inl ⟨g2 (Nat.le_refl _), ?_⟩
    rw [List.take_length] at hv
    exact kk _ _ H' (e2.trans e') ⟨D, kvs, rfl, hp, hv⟩ rfl
theorem v_dcI {xs : List γ} {kf : γ → Nat} {y : Str} {O : Option (Addr × HO) → Prop} (own : List (Str × Nat)) (j : Nat) (hc : X.calm = true) (hN : X.N.Nodup) (ok : BlkOk X.N X.env.scope scope own) (hg : TgS X scope (.Name y p) (gName j)) (hi : VI X T (.Name y p) iter q σ H (is xs) O) (hz : xs.length ≤ sizeLine)
    (hw : ∀ v, wipe ((wipe σ (own.map (·.2))).set j (some v)) (own.map (·.2)) = wipe σ (own.map (·.2)))
    (hb : ∀ x, x ∈ xs → ∀ H1 v, Ex T H H1 → q.rel H1 v x → ∀ Y, IsBlk X scope Y → VE Y T kx pN ((wipe σ (own.map (·.2))).set j (some v)) H1 (is (kf x)) ∧ VE Y T vx pB ((wipe σ (own.map (·.2))).set j (some v)) H1 (is true))
    (hs : ∀ x, foldedSetIterable iter X.env x = pure x := by intro _; rfl) : VE X T (.DictComp kx vx [⟨.Name y p, iter, [], 0⟩] scope pos) pSI σ H (is (xs.map kf)) :=
  ve_of (pe_dc hc hN pi_o ok hg (fun _ _ _ _ _ => pts_nil) (tk := oEB X scope kx) (tv := oEB X scope vx) (fun s H C cl fp => ⟨fun pins s1 σ H Q I z => z _ ⟨s, _, C, cl, fp, rfl⟩ pins s1 I⟩) (fun s H C cl fp => ⟨fun pins s1 σ H Q I z => z _ ⟨s, _, C, cl, fp, rfl⟩ pins s1 I⟩) hs)
    (ev_dcI hi hz fun x hx H1 v e1 rl => ⟨_, bnd_name, hw v, ev_blk fun Y hY => (hb x hx H1 v e1 rl Y hY).1, ev_blk fun Y hY => (hb x hx H1 v e1 rl Y hY).2⟩)
theorem s_setDcI {xs : List γ} {kf : γ → Nat} {y z : Str} {O : Option (Addr × HO) → Prop} {D : Ends} {spos py : Pos} (i : Nat) (own : List (Str × Nat)) (j : Nat) (hT : Tabs T H) (hc : X.calm = true) (hN : X.N.Nodup) (ok : BlkOk X.N X.env.scope scope own) (hg : TgS X scope (.Name y p) (gName j)) (hi : VI X T (.Name y p) iter q σ H (is xs) O) (hz : xs.length ≤ sizeLine)
    (hw : ∀ v, wipe ((wipe σ (own.map (·.2))).set j (some v)) (own.map (·.2)) = wipe σ (own.map (·.2)))
    (hb : ∀ x, x ∈ xs → ∀ H1 v, Ex T H H1 → q.rel H1 v x → ∀ Y, IsBlk X scope Y → VE Y T kx pN ((wipe σ (own.map (·.2))).set j (some v)) H1 (is (kf x)) ∧ VE Y T vx pB ((wipe σ (own.map (·.2))).set j (some v)) H1 (is true))
    (k : ∀ v H1, Ex T H H1 → pSI.rel H1 v (xs.map kf) → D.nx (σ.set i (some v)) H1)
    (hsw : swapsWith (.DictComp kx vx [⟨.Name y p, iter, [], 0⟩] scope pos) (some (.Name z py)) spos.line X.env = pure true) (hy : X.N[i]? = some z := by rfl) (hyl : X.env.scope.names.lookup z = some .local := by rfl)
    (hs : ∀ x, foldedSetIterable iter X.env x = pure x := by intro _; rfl) : oS X (.Assign [.Name z py] (.DictComp kx vx [⟨.Name y p, iter, [], 0⟩] scope pos) spos) D σ H :=
  oS_of (ps_setDc hc hN hy hyl hsw pi_o ok hg (fun _ _ _ _ _ => pts_nil) (tk := oEB X scope kx) (tv := oEB X scope vx) (fun s H C cl fp => ⟨fun pins s1 σ H Q I z => z _ ⟨s, _, C, cl, fp, rfl⟩ pins s1 I⟩) (fun s H C cl fp => ⟨fun pins s1 σ H Q I z => z _ ⟨s, _, C, cl, fp, rfl⟩ pins s1 I⟩) hs)
    (ev_dcI hi hz (fun x hx H1 v e1 rl => ⟨_, bnd_name, hw v, ev_blk fun Y hY => (hb x hx H1 v e1 rl Y hY).1, ev_blk fun Y hY => (hb x hx H1 v e1 rl Y hY).2⟩) H (Ex.refl hT) _ fun v z H1 e1 rz pz => k v H1 e1 (by rw [← show z = xs.map kf from pz]; exact rz))
end
section
variable {P : Program} {w : World} {K : PySem.W.Frag} {mg : Str → Option Value} {base : Heap} {T : List (Addr × Str)} {f c Pt : Addr} {fd : FuncData} {k : Nat}
abbrev pWorths (w : World) (T : List (Addr × Str)) : Sp := SpG T (a1 pT) (fun y => Ok y.1) (pD w kT pN) (fun y z => ∃ g, DictOk g (crowdOf y.1) worth z)
theorem scWorths : FnScope ["table", "found", "here", "some", "told", "later"] ["table"] (defScope s_worths_of) := ⟨rfl, rfl, rfl, by decide +kernel, rfl, by decide +kernel, by decide +kernel⟩
set_option maxHeartbeats 16000000 in
theorem f_worths {j j2 j3 : Nat} (L : Less) (B : Blt mg) (TB : TabB base mg c Pt) (hmT : (Pt, lamQ "worths_of") ∈ T) (hu : ∀ p ∈ T, p.1 = Pt → p.2 = lamQ "worths_of") (hcd : CodeAt K f c)
    (Cs : Cal P w K mg base "spread" ["table"] j (pSpread w T)) (Cn : Cal P w K mg base "nexts_of" ["table"] j2 (pNexts T)) (Co : Cal P w K mg base "odds_of" ["table"] j3 (pOdds T)) (hj : j ≤ k) (hj2 : j2 ≤ k) (hj3 : j3 + 3 ≤ k) (F : FnP K "worths_of" s_worths_of f fd) :
    FnOk P w K mg base CX0 (k + 1) f fd ["table"] (pWorths w T) := by
  refine fn_okC F hcd scWorths len1 fun A outer s H vs Q E ⟨x, _⟩ hr ⟨v, ws, ev, h1, h4⟩ ⟨g, hok0⟩ hT k => ?_
  obtain rfl : ws = [] := h4
  subst ev
  have hok0 : OkW g x := hok0
  have hok : OkW g (crowdOf x) := hok0.crowd
  generalize hc0 : crowdOf x = c0 at hok
  refine s_cons (s_setF 1 hT (f_dnew (k := kT) (r := pN)) scWorths.nd fun df f0 H1 e1 fdf rf pf => ?_)
  obtain rfl : f0 = _ := pf
  obtain ⟨_, e, hdf⟩ := rf
  cases e
  have okr : ∀ u, Rch c0 u → OkW g u := fun u ⟨n, p⟩ => p.ok hok
  refine s_cons (s_forX (Pl := fun ys => ∃ z : FM, (∃ g, SpreadOk g c0 z) ∧ ys = (z.map (·.1)).mergeSort fun a b => decide (keyUp a ≤ keyUp b)) (O := LsO) imT e1.2 [df] (fun ys i σ'' H'' => (∀ u, u ∈ ys ↔ Rch c0 u) ∧ (ys.Pairwise fun a b => oddsN a ≤ oddsN b) ∧ ∃ f o2 o3 o4 o5, σ'' = [some v, some (.ref df), o2, o3, o4, o5] ∧ dictAt w kT pN H'' df f ∧ DictTo g c0 worth f (ys.take i)) rfl rfl (pg_name (i := 2) scWorths.nd rfl (.inl rfl)) (i_lst (EvF.ev ?hsrc)) ?_ ?_ ?_ ?_ ?_)
  case hsrc =>
    refine v_sortUp rfl B TB rfl hmT hu (hr.mono hj3) Co (v_cl Cs (hr.mono hj) (a_1 (v_v 0 (pT.mono e1.1 h1))) ⟨g, hok0⟩ fun z h => by rw [← hc0]; exact h) ?_
    rintro z ⟨g', so⟩ y hy
    exact ⟨g, okr y ((so.mem y).mp hy)⟩
  · rintro H2 p e2 ⟨a, vs, e⟩ hp
    cases e
    have q1 := dict_ne (hdf.ext e2.1) hp
    simp [q1]
  · rintro ys H2 ⟨z, ⟨g', so⟩, rfl⟩ e2
    exact ⟨fun u => (List.mergeSort_perm _ _).mem_iff.trans (so.mem u), sort_up _, [], none, none, none, none, rfl, hdf.ext e2.1, DictTo.first hok⟩
  · rintro ys i σ1 H2 H3 _ ⟨q1, q2, f2, o2, o3, o4, o5, e, q3, q4⟩ e3
    exact ⟨q1, q2, f2, o2, o3, o4, o5, e, q3.ext e3.1, q4⟩
  · rintro ys i here u σ1 H2 _ hx m2 ⟨q1, q2, f2, o2, o3, o4, o5, rfl, q3, q4⟩ ru
    obtain ⟨hoh, hRh, hnx⟩ := up_sorted L hok q1 q2 hx
    refine ⟨_, bnd_name, fun N' hN' => ?_⟩
    have hnl : (nextsOf here).length ≤ 6 := Nat.le_trans (nexts_len here) (odds_six hoh)
    refine s_cons (s_setDcI (kf := worth) 3 [("later", 5)] 5 m2.tabs rfl scWorths.nd (blkOk_by (N := ["table", "found", "here", "some", "told", "later"]) (sc := defScope s_worths_of) (by decide +kernel)) (tg_name scWorths.nd) (i_lst (v_cl Cn (hr.mono hj2) (a_1 (v_v 2 ru)) ⟨g, hoh⟩ fun _ h => h)) (Nat.le_of_lt (small1000 (show (nextsOf here).length ≤ 1000 by omega))) (fun _ => rfl) ?_ ?_ (sw_trueD rfl rfl rfl (by decide +kernel)))
    · rintro y hy H3 u' e3 ru' _ ⟨s', H', C', cl, fp, rfl⟩
      exact ⟨v_getD (k := kT) (r := pN) (un hr 9) (v_v 1 ⟨df, rfl, q3.ext e3.1⟩) (v_v 5 ru') (q4.val y (hnx y hy)), v_bl⟩
    intro vs0 H3 e3 rs
    refine s_cons (s_set 4 e3.2 (r := pN) (P := is 0) (v_nat (n := 0)) scWorths.nd fun v0 n0 H4 e4 rn pn => ?_)
    obtain rfl : n0 = 0 := pn
    obtain rfl : v0 = _ := rn
    obtain ⟨mx1, mx2⟩ := mex_ok ((nextsOf here).map worth)
    refine s_cons (s_while' rfl (s_while (T := T) (m0 := mex ((nextsOf here).map worth)) (fun m σ' H' => ∃ n : Nat, σ' = [some v, some (.ref df), some u, some vs0, some (.int (n : Int)), o5] ∧ Ex T H4 H' ∧ n + m = mex ((nextsOf here).map worth)) ⟨0, rfl, e4.here, by omega⟩ ?_))
    rintro m σ' H' ⟨n, rfl, e5, hm⟩
    refine ⟨decide (n ∈ (nextsOf here).map worth), c_inSI (un hr 1) (v_v 4 (show pN.rel H' _ n from rfl)) (v_v 3 (pSI.mono (e4.trans e5).1 rs)), e5.2, fun H6 e6 => ?_⟩
    by_cases hin : n ∈ (nextsOf here).map worth
    · rw [if_pos (decide_eq_true hin)]
      intro N'' hN''
      have hlt : n < mex ((nextsOf here).map worth) := by
        rcases Nat.lt_or_ge n (mex ((nextsOf here).map worth)) with z | z
        · exact z
        · exact absurd (show mex ((nextsOf here).map worth) ∈ (nextsOf here).map worth by rw [show mex ((nextsOf here).map worth) = n by omega]; exact hin) mx2
      exact s_cons (s_aug (i := 4) (n := n) (m := 1) e6.2 rfl (v_nat (n := 1)) scWorths.nd fun H7 e7 => s_nil (hN'' (m - 1) _ _ (by omega) ⟨n + 1, rfl, e5.trans (e6.trans e7), by omega⟩))
    · rw [if_neg (by simp [hin])]
      have hn : n = worth here := by
        rw [worth_eq L hoh]
        exact mex_uniq (fun i hi => mx1 i (by omega)) hin
      have e26 : Ex T H2 H6 := e3.trans (e4.trans (e5.trans e6))
      have lf : f2.length ≤ 1957 := by
        have := reach_few L hok q4.nd fun y hy => (q1 y).mp (List.mem_of_mem_take ((q4.mem y).mp hy))
        rwa [List.length_map] at this
      have q36 := q3.ext e26.1
      refine s_cons (s_put (k := kT) (r := pN) (kvs := f2) (d := df) (x := here) imN e6.2 (un hr 9) (Pv := is (worth here)) (ev_is (v_v 4 (show pN.rel H6 _ n from rfl)) hn) (v_v 1 ⟨df, rfl, q36⟩) (o_var (ix := 1)) q36 (v_v 2 (pT.mono e26.1 ru)) (Nat.lt_of_le_of_lt lf (by decide)) fun p H8 H9 pp e8 m9 hd9 => ?_)
      obtain rfl : p = _ := pp
      refine s_nil (hN' _ _ ((e26.trans e8).toM.trans m9) ⟨q1, q2, _, _, _, _, _, rfl, hd9, ?_⟩)
      rw [List.take_add_one, hx, Option.toList_some]
      exact q4.put here
  · rintro ys σ1 H2 _ m2 ⟨q1, q2, f2, o2, o3, o4, o5, rfl, q3, q4⟩
    rw [List.take_length] at q4
    have eH2 : Ex T H H2 := e1.thenM m2 (by
      intro p hp
      rw [List.mem_singleton.mp hp]
      exact fdf)
    refine s_cons (s_ret m2.tabs (r := pD w kT pN) (P := is f2) (v_v 1 ⟨df, rfl, q3⟩) fun u z H3 e3 rl pz => k u z H3 (eH2.trans e3) rl ⟨g, ?_⟩)
    rw [show z = f2 from pz]
    show DictOk g (crowdOf x) worth f2
    rw [hc0]
    exact q4.fin q1
end
end LT
/-! ## LtD8 -/
set_option Elab.async false
set_option linter.all false
set_option maxRecDepth 100000
set_option maxHeartbeats 8000000
namespace LT
open PySem PySem.W PySem.Spec PyProof.Rows L2 LamX

/-- a table and its crowd go on to the same crowds; a fact of the game -/
def NextC : Prop := ∀ g t, OkW g t → nextsOf (crowdOf t) = nextsOf t
section
variable {α β : Type} {X : Cx} {T : List (Addr × Str)} {a b : Expr} {r : Rp α} {s : Rp β} {σ : L2.St} {H : Hp} {P : α → Prop} {Pb : β → Prop} {pos : Pos} {D : Ends}
/-- a, b = e, a new thing; the names cells -/
theorem s_asg2F {z w : Str} {px py pt pt2 : Pos} {kt k2 : Nat} (i j : Nat) (hT : Tabs T H) (hc : X.calm = true) (hN : X.N.Nodup) (ha : VE X T a r σ H P) (hb : VF X T b s σ H Pb)
    (k : ∀ u q x y H1 Hm, Ex T H H1 → Fr0 H q → r.rel H1 u x → s.rel H1 (.ref q) y → P x → Pb y → r.rel Hm u x → Fr0 Hm q → D.nx ((σ.set i (some u)).set j (some (.ref q))) H1)
    (hi : X.N[i]? = some z := by rfl) (hj : X.N[j]? = some w := by rfl) (hx : Loc X.env.scope z := by first | exact Or.inl rfl | exact Or.inr rfl) (hy : Loc X.env.scope w := by first | exact Or.inl rfl | exact Or.inr rfl)
    (hf : X.fn z = true ∨ X.env.scope.names.lookup z = some .local := by first | exact .inl rfl | exact .inr rfl) (hf' : X.fn w = true ∨ X.env.scope.names.lookup w = some .local := by first | exact .inl rfl | exact .inr rfl)
    (hs : swapsWithSole [.Tuple [.Name z px, .Name w py] kt pt] (.Tuple [a, b] k2 pt2) pos.line X.env = pure false := by rfl) (hw : swappedStores [.Tuple [.Name z px, .Name w py] kt pt] (.Tuple [a, b] k2 pt2) X.env = pure none := by rfl)
    (h1 : (assignEach [.Tuple [.Name z px, .Name w py] kt pt] X.env).map (·.2) = [assign (.Tuple [.Name z px, .Name w py] kt pt) X.env] := by rfl)
    (s1 : starEach [a, b] X.env = (false, eval a X.env) :: starEach [b] X.env := by rfl) (s2 : starEach [b] X.env = (false, eval b X.env) :: starEach [] X.env := by rfl)
    (t1 : (assignEach [.Name z px, .Name w py] X.env).map (·.2) = assign (.Name z px) X.env :: (assignEach [.Name w py] X.env).map (·.2) := by rfl) (t2 : (assignEach [.Name w py] X.env).map (·.2) = assign (.Name w py) X.env :: (assignEach [] X.env).map (·.2) := by rfl)
    (t3 : (assignEach [.Name z px, .Name w py] X.env).length = 2 := by rfl) (t4 : (assignEach [.Name z px, .Name w py] X.env).findIdx? (·.1) = none := by rfl) :
    oS X (.Assign [.Tuple [.Name z px, .Name w py] kt pt] (.Tuple [a, b] k2 pt2) pos) D σ H :=
  oS_of (ps_asg (pe_tup (pa_cons pe_o (pa_cons pe_o pa_nil s2) s1)) (pg_tup hc (pgs_cons (pg_name (i := i) hN hi hx hf) (pgs_cons (pg_name (i := j) hN hj hy hf') pgs_nil t2) t1) t3 t4) hs hw h1)
    (ha H (Ex.refl hT) _ fun u x H1 e1 ru px => hb H1 e1 _ fun q y H2 e2 fq rq py => ⟨by show 2 ≤ sizeLine; decide, fun p hp => ⟨p, [u, .ref q], rfl, sq_t upd_same, rfl, u, [.ref q], rfl, .ref q, [], rfl, rfl,
      k u q x y _ H1 ((e1.trans e2).trans (Ex.new e2.2 hp)) (fq.back e1.1) (r.mono (extn_new hp) (r.mono e2.1 ru)) (s.mono (extn_new hp) rq) px py ru fq⟩⟩)
end
section
variable {P : Program} {w : World} {K : PySem.W.Frag} {mg : Str → Option Value} {base : Heap} {T : List (Addr × Str)} {f c Pt : Addr} {fd : FuncData} {k : Nat}
theorem rch0 (t : Tbl) : Rch t t := ⟨0, .nil t⟩
abbrev pWorth (T : List (Addr × Str)) : Sp := SpG T (a1 pT) (fun y => Ok y.1) pN (fun y z => z = worth (crowdOf y.1))
abbrev pFirst (T : List (Addr × Str)) : Sp := SpG T (a1 pT) (fun y => Ok y.1) pB (fun y z => z = decide (0 < worth (crowdOf y.1)))
abbrev pWinning (T : List (Addr × Str)) : Sp := SpG T (a1 pT) (fun y => Ok y.1) (pLst pT) (fun y z => z = (nextsOf y.1).filter fun u => decide (worth u = 0))
abbrev pBoth (T : List (Addr × Str)) : Sp := SpG T (a2 pT pT) (fun y => Ok y.1 ∧ Ok y.2.1) pB (fun y z => z = !decide (worth (crowdOf y.1) = worth (crowdOf y.2.1)))
theorem scWorth : FnScope ["table"] ["table"] (defScope s_worth) := ⟨rfl, rfl, rfl, by decide +kernel, rfl, by decide +kernel, by decide +kernel⟩
theorem f_worth {j j2 j3 : Nat} (Cn : Cal P w K mg base "need_table" ["table"] j (pNeedTable T)) (Cw : Cal P w K mg base "worths_of" ["table"] j2 (pWorths w T)) (Cc : Cal P w K mg base "crowd_of" ["table"] j3 (pCrowd T)) (hj : j ≤ k) (hj2 : j2 ≤ k) (hj3 : j3 ≤ k) (F : FnP K "worth" s_worth f fd) : FnOk P w K mg base CX0 (k + 1) f fd ["table"] (pWorth T) := by
  refine fn_ok F scWorth len1 fun cdv A outer s H vs Q E ⟨x, _⟩ hr ⟨v, ws, ev, h1, h4⟩ hok hT k => ?_
  obtain rfl : ws = [] := h4
  subst ev
  refine s_cons (s_drop hT (r := pU) (P := fun _ => True) (v_cl Cn (hr.mono hj) (a_1 (v_v 0 h1)) hok fun _ h => h) fun _ _ H1 e1 _ _ => ?_)
  have x1 : pT.rel H1 v x := pT.mono e1.1 h1
  exact s_cons (s_ret e1.2 (r := pN) (P := is (worth (crowdOf x))) (v_getDP (k := kT) (r := pN) (un hr 9) (v_cl Cw (hr.mono hj2) (a_1 (v_v 0 x1)) hok fun _ h => h) (v_cl Cc (hr.mono hj3) (a_1 (v_v 0 x1)) hok fun _ h => h) fun kvs ⟨g, d⟩ => ⟨_, d.val _ (rch0 _), rfl⟩) fun u z H2 e2 rl pz => k u z H2 (e1.trans e2) rl pz)
theorem scFirst : FnScope ["table"] ["table"] (defScope s_first_wins) := ⟨rfl, rfl, rfl, by decide +kernel, rfl, by decide +kernel, by decide +kernel⟩
theorem f_first_wins {j j2 j3 : Nat} (Cn : Cal P w K mg base "need_table" ["table"] j (pNeedTable T)) (Cw : Cal P w K mg base "worths_of" ["table"] j2 (pWorths w T)) (Cc : Cal P w K mg base "crowd_of" ["table"] j3 (pCrowd T)) (hj : j ≤ k) (hj2 : j2 ≤ k) (hj3 : j3 ≤ k) (F : FnP K "first_wins" s_first_wins f fd) : FnOk P w K mg base CX0 (k + 1) f fd ["table"] (pFirst T) := by
  refine fn_ok F scFirst len1 fun cdv A outer s H vs Q E ⟨x, _⟩ hr ⟨v, ws, ev, h1, h4⟩ hok hT k => ?_
  obtain rfl : ws = [] := h4
  subst ev
  refine s_cons (s_drop hT (r := pU) (P := fun _ => True) (v_cl Cn (hr.mono hj) (a_1 (v_v 0 h1)) hok fun _ h => h) fun _ _ H1 e1 _ _ => ?_)
  have x1 : pT.rel H1 v x := pT.mono e1.1 h1
  exact s_cons (s_ret e1.2 (r := pB) (P := is (decide (0 < worth (crowdOf x)))) (v_c (c_gtN (n := 0) (m := worth (crowdOf x)) (v_getDP (k := kT) (r := pN) (un hr 9) (v_cl Cw (hr.mono hj2) (a_1 (v_v 0 x1)) hok fun _ h => h) (v_cl Cc (hr.mono hj3) (a_1 (v_v 0 x1)) hok fun _ h => h) fun kvs ⟨g, d⟩ => ⟨_, d.val _ (rch0 _), rfl⟩) (v_nat (n := 0)))) fun u z H2 e2 rl pz => k u z H2 (e1.trans e2) rl pz)
theorem scBoth : FnScope ["one", "other"] ["one", "other"] (defScope s_both_games) := ⟨rfl, rfl, rfl, by decide +kernel, rfl, by decide +kernel, by decide +kernel⟩
theorem f_both {j j2 : Nat} (Cn : Cal P w K mg base "need_table" ["table"] j (pNeedTable T)) (Cw : Cal P w K mg base "worth" ["table"] j2 (pWorth T)) (hj : j ≤ k) (hj2 : j2 ≤ k) (F : FnP K "both_games" s_both_games f fd) : FnOk P w K mg base CX0 (k + 1) f fd ["one", "other"] (pBoth T) := by
  refine fn_ok F scBoth len2 fun cdv A outer s H vs Q E ⟨x, y, _⟩ hr ⟨v, ws, ev, h1, v2, ws2, e2, h2, h4⟩ ⟨hx, hy⟩ hT k => ?_
  obtain rfl : ws2 = [] := h4
  subst ev e2
  refine s_cons (s_drop hT (r := pU) (P := fun _ => True) (v_cl Cn (hr.mono hj) (a_1 (v_v 0 h1)) hx fun _ h => h) fun _ _ H1 e1 _ _ => ?_)
  refine s_cons (s_drop e1.2 (r := pU) (P := fun _ => True) (v_cl Cn (hr.mono hj) (a_1 (v_v 1 (pT.mono e1.1 h2))) hy fun _ h => h) fun _ _ H2 e2 _ _ => ?_)
  exact s_cons (s_ret e2.2 (r := pB) (P := is (!decide (worth (crowdOf x) = worth (crowdOf y)))) (v_c (c_neN (v_cl Cw (hr.mono hj2) (a_1 (v_v 0 (pT.mono (e1.trans e2).1 h1))) hx fun _ h => h) (v_cl Cw (hr.mono hj2) (a_1 (v_v 1 (pT.mono (e1.trans e2).1 h2))) hy fun _ h => h))) fun u z H3 e3 rl pz => k u z H3 ((e1.trans e2).trans e3) rl pz)
theorem scWinning : FnScope ["table", "known", "told"] ["table"] (defScope s_winning_next) := ⟨rfl, rfl, rfl, by decide +kernel, rfl, by decide +kernel, by decide +kernel⟩
theorem f_winning {j j2 j3 : Nat} (NC : NextC) (Cn : Cal P w K mg base "need_table" ["table"] j (pNeedTable T)) (Cw : Cal P w K mg base "worths_of" ["table"] j2 (pWorths w T)) (Cx : Cal P w K mg base "nexts_of" ["table"] j3 (pNexts T)) (hj : j ≤ k) (hj2 : j2 ≤ k) (hj3 : j3 ≤ k) (F : FnP K "winning_next" s_winning_next f fd) :
    FnOk P w K mg base CX0 (k + 1) f fd ["table"] (pWinning T) := by
  refine fn_ok F scWinning len1 fun cdv A outer s H vs Q E ⟨x, _⟩ hr ⟨v, ws, ev, h1, h4⟩ hok hT k => ?_
  obtain ⟨g, hg⟩ := id hok
  obtain rfl : ws = [] := h4
  subst ev
  have hg : OkW g x := hg
  refine s_cons (s_drop hT (r := pU) (P := fun _ => True) (v_cl Cn (hr.mono hj) (a_1 (v_v 0 h1)) hok fun _ h => h) fun _ _ H1 e1 _ _ => ?_)
  refine s_cons (s_set 1 e1.2 (r := pD w kT pN) (P := fun z => ∃ g, DictOk g (crowdOf x) worth z) (v_cl Cw (hr.mono hj2) (a_1 (v_v 0 (pT.mono e1.1 h1))) hok fun _ h => h) scWinning.nd fun u kvs H2 e2 rk ⟨g', d⟩ => ?_)
  have x2 : pT.rel H2 v x := pT.mono (e1.trans e2).1 h1
  refine s_cons (s_ret e2.2 (r := pLst pT) (P := is ((nextsOf x).filter fun u => decide (worth u = 0))) (ev_is (v_lc (lc_nif (f := fun u : Tbl => u) (t := fun u => decide (worth u = 0)) [("told", 2)] 2 imT scWinning.nd (blkOk_by (N := ["table", "known", "told"]) (sc := defScope s_winning_next) (by decide +kernel)) (tg_name scWinning.nd) (i_lst (v_cl Cx (hr.mono hj3) (a_1 (v_v 0 x2)) hok fun _ h => h)) ?_ (fun _ => rfl) ?_) rfl scWinning.nd) (List.map_id _)) fun u z H3 e3 rl pz => k u z H3 ((e1.trans e2).trans e3) rl pz)
  · exact Nat.le_of_lt (small1000 (Nat.le_trans (nexts_len x) (Nat.le_trans (odds_six hg) (by decide))))
  · rintro y hy H3 u3 e3 ru3 _ ⟨s', H', C', cl, fp, rfl⟩
    have hy' : y ∈ nextsOf (crowdOf x) := by rw [NC g x hg]; exact hy
    exact ⟨t_c (c_eqN (n := 0) (v_getD (k := kT) (r := pN) (un hr 9) (v_v 1 ((pD w kT pN).mono e3.1 rk)) (v_v 2 ru3) (d.val y ⟨1, .snoc (.nil _) hy'⟩)) (v_nat (n := 0))), fun _ => v_v 2 ru3⟩
end
end LT
/-! ## LtD9 -/
set_option Elab.async false
set_option linter.all false
set_option maxRecDepth 100000
set_option maxHeartbeats 8000000
namespace LT
open PySem PySem.W PySem.Spec PyProof.Rows L2 LamX

theorem min_uniq {xs : List Nat} {m : Int} (h0 : xs ≠ []) (h1 : m ∈ xs.map fun n : Nat => (n : Int)) (h2 : ∀ y, y ∈ (xs.map fun n : Nat => (n : Int)) → m ≤ y) : m = ((minL xs : Nat) : Int) := by
  obtain ⟨a1, a2⟩ := minL_ok h0
  obtain ⟨n, hn, rfl⟩ := List.mem_map.mp h1
  have := a2 n hn
  have := h2 _ (List.mem_map_of_mem a1)
  omega
theorem max_uniq {xs : List Nat} {m : Int} (h0 : xs ≠ []) (h1 : m ∈ xs.map fun n : Nat => (n : Int)) (h2 : ∀ y, y ∈ (xs.map fun n : Nat => (n : Int)) → y ≤ m) : m = ((maxL xs : Nat) : Int) := by
  obtain ⟨a1, a2⟩ := maxL_ok h0
  obtain ⟨n, hn, rfl⟩ := List.mem_map.mp h1
  have := a2 n hn
  have := h2 _ (List.mem_map_of_mem a1)
  omega
theorem zero_next (L : Less) {g : Nat} {t : Tbl} (h : OkW g t) (hw : 0 < worth t) : ((nextsOf t).filter fun u => decide (worth u = 0)) ≠ [] := by
  rw [worth_eq L h] at hw
  obtain ⟨u, hu, e⟩ := List.mem_map.mp ((mex_ok ((nextsOf t).map worth)).1 0 hw)
  exact List.ne_nil_of_mem (List.mem_filter.mpr ⟨hu, decide_eq_true e⟩)
section
variable {P : Program} {w : World} {K : PySem.W.Frag} {mg : Str → Option Value} {base : Heap} {T : List (Addr × Str)} {f c Pt : Addr} {fd : FuncData} {k : Nat}
abbrev pLengths (w : World) (T : List (Addr × Str)) : Sp := SpG T (a1 pT) (fun y => Ok y.1) (pD w kT pN) (fun y z => ∃ g, DictOk g (crowdOf y.1) glen z)
abbrev pGame (T : List (Addr × Str)) : Sp := SpG T (a1 pT) (fun y => Ok y.1) pN (fun y z => z = glen (crowdOf y.1))
theorem scLengths : FnScope ["table", "known", "found", "here", "nexts", "later"] ["table"] (defScope s_lengths_of) := ⟨rfl, rfl, rfl, by decide +kernel, rfl, by decide +kernel, by decide +kernel⟩
set_option maxHeartbeats 16000000 in
theorem f_lengths {j j2 j3 : Nat} (L : Less) (B : Blt mg) (TB : TabB base mg c Pt) (hmT : (Pt, lamQ "lengths_of") ∈ T) (hu : ∀ p ∈ T, p.1 = Pt → p.2 = lamQ "lengths_of") (hcd : CodeAt K f c)
    (Cs : Cal P w K mg base "worths_of" ["table"] j (pWorths w T)) (Cn : Cal P w K mg base "nexts_of" ["table"] j2 (pNexts T)) (Co : Cal P w K mg base "odds_of" ["table"] j3 (pOdds T)) (hj : j ≤ k) (hj2 : j2 ≤ k) (hj3 : j3 + 3 ≤ k) (F : FnP K "lengths_of" s_lengths_of f fd) :
    FnOk P w K mg base CX0 (k + 1) f fd ["table"] (pLengths w T) := by
  refine fn_okC F hcd scLengths len1 fun A outer s H vs Q E ⟨x, _⟩ hr ⟨v, ws, ev, h1, h4⟩ ⟨g, hok0⟩ hT k => ?_
  obtain rfl : ws = [] := h4
  subst ev
  have hok0 : OkW g x := hok0
  have hok : OkW g (crowdOf x) := hok0.crowd
  generalize hc0 : crowdOf x = c0 at hok
  refine s_cons (s_asg2F (r := pD w kT pN) (s := pD w kT pN) (P := fun z => ∃ g, DictOk g c0 worth z) 1 2 hT rfl scLengths.nd (v_cl Cs (hr.mono hj) (a_1 (v_v 0 h1)) ⟨g, hok0⟩ fun z h => by rw [← hc0]; exact h) (f_dnew (k := kT) (r := pN)) fun vk df kv f0 H1 Hm e1 fdf rk rf ⟨g', dk⟩ pf rkm fdm => ?_)
  obtain rfl : f0 = _ := pf
  obtain ⟨_, e, hdf⟩ := rf
  cases e
  obtain ⟨dkn, rfl, hdk⟩ := rk
  have ndk : dkn ≠ df := by
    obtain ⟨d', e, hd'⟩ := rkm
    cases e
    obtain ⟨o, ho, so⟩ := hd'.soft
    exact fdm.ne ho so.ntbl
  have okr : ∀ u, Rch c0 u → OkW g u := fun u ⟨n, p⟩ => p.ok hok
  refine s_cons (s_forX (Pl := fun ys => ∃ z : List (Tbl × Nat), is kv z ∧ ys = (z.map (·.1)).mergeSort fun a b => decide (keyUp a ≤ keyUp b)) (O := LsO) imT e1.2 [df] (fun ys i σ'' H'' => (∀ u, u ∈ ys ↔ Rch c0 u) ∧ (ys.Pairwise fun a b => oddsN a ≤ oddsN b) ∧ ∃ f o3 o4 o5, σ'' = [some v, some (.ref dkn), some (.ref df), o3, o4, o5] ∧ dictAt w kT pN H'' df f ∧ dictAt w kT pN H'' dkn kv ∧ DictTo g c0 glen f (ys.take i)) rfl rfl (pg_name (i := 3) scLengths.nd rfl (.inl rfl)) (i_lst (EvF.ev ?hsrc)) ?_ ?_ ?_ ?_ ?_)
  case hsrc =>
    refine v_sortUp rfl B TB rfl hmT hu (hr.mono hj3) Co (v_v 1 (show (pD w kT pN).rel H1 (.ref dkn) kv from ⟨dkn, rfl, hdk⟩)) ?_
    rintro z pz y hy
    rw [show z = kv from pz] at hy
    exact ⟨g, okr y ((dk.mem y).mp hy)⟩
  · rintro H2 p e2 ⟨a, vs, e⟩ hp
    cases e
    have q1 := dict_ne (hdf.ext e2.1) hp
    simp [q1]
  · rintro ys H2 ⟨z, pz, rfl⟩ e2
    obtain rfl : z = kv := pz
    exact ⟨fun u => (List.mergeSort_perm _ _).mem_iff.trans (dk.mem u), sort_up _, [], none, none, none, rfl, hdf.ext e2.1, hdk.ext e2.1, DictTo.first hok⟩
  · rintro ys i σ1 H2 H3 _ ⟨q1, q2, f2, o3, o4, o5, e, q3, q3', q4⟩ e3
    exact ⟨q1, q2, f2, o3, o4, o5, e, q3.ext e3.1, q3'.ext e3.1, q4⟩
  · rintro ys i here u σ1 H2 _ hx m2 ⟨q1, q2, f2, o3, o4, o5, rfl, q3, qk, q4⟩ ru
    obtain ⟨hoh, hRh, hnx⟩ := up_sorted L hok q1 q2 hx
    refine ⟨_, bnd_name, fun N' hN' => ?_⟩
    have hnl : (nextsOf here).length ≤ 6 := Nat.le_trans (nexts_len here) (odds_six hoh)
    have lf : f2.length ≤ 1957 := by
      have := reach_few L hok q4.nd fun y hy => (q1 y).mp (List.mem_of_mem_take ((q4.mem y).mp hy))
      rwa [List.length_map] at this
    refine s_cons (s_set 4 m2.tabs (r := pLst pT) (P := is (nextsOf here)) (v_cl Cn (hr.mono hj2) (a_1 (v_v 3 ru)) ⟨g, hoh⟩ fun _ h => h) scLengths.nd fun vn z H3 e3 rn pz => ?_)
    obtain rfl : z = _ := pz
    have u3 := pT.mono e3.1 ru
    have q33 := q3.ext e3.1
    have qk3 := qk.ext e3.1
    have hge : glen here = lenF glen here := glen_eq L hoh
    unfold lenF at hge
    -- the end of each way
    have fin : ∀ (H4 H5 : Hp) (o : Option V), ExM [df] T H3 H5 → dictAt w kT pN H5 df (putA f2 here (glen here)) → N' [some v, some (.ref dkn), some (.ref df), some u, some vn, o5] H5 := fun H4 H5 o m5 hd5 =>
      hN' _ _ (e3.toM.trans m5) ⟨q1, q2, _, _, _, _, rfl, hd5, dict_stay imN qk3 m5 (by simp [ndk]), by rw [List.take_add_one, hx, Option.toList_some]; exact q4.put here⟩
    by_cases hne : nextsOf here = []
    · rw [if_pos hne] at hge
      refine s_cons (s_if e3.2 (bx := true) (t_c (c_is (c_eqNil (n := 2) encT 2 (by decide) (un hr 64) (v_v 4 rn) (fun _ _ _ => dpT) lay_T depth_T) (by rw [hne]; rfl))) (fun _ H4 e4 => ?_) fun h => by cases h)
      have q34 := q33.ext e4.1
      exact s_cons (s_put (k := kT) (r := pN) (kvs := f2) (d := df) (x := here) imN e4.2 (un hr 9) (Pv := is (glen here)) (ev_is (v_nat (n := 0)) hge.symm) (v_v 2 ⟨df, rfl, q34⟩) (o_var (ix := 2)) q34 (v_v 3 (pT.mono e4.1 u3)) (Nat.lt_of_le_of_lt lf (by decide)) fun p H8 H9 pp e8 m9 hd9 => by
        obtain rfl : p = _ := pp
        exact s_nil (s_nil (fin H8 H9 none ((e4.trans e8).toM.trans m9) hd9)))
    · rw [if_neg hne] at hge
      refine s_cons (s_if e3.2 (bx := false) (t_c (c_is (c_eqNil (n := 2) encT 2 (by decide) (un hr 64) (v_v 4 rn) (fun _ _ _ => dpT) lay_T depth_T) (by simpa using hne))) (fun h => by cases h) fun _ H4 e4 => ?_)
      have q34 := q33.ext e4.1
      have qk4 := qk3.ext e4.1
      have u4 := pT.mono e4.1 u3
      have n4 := (pLst pT).mono e4.1 rn
      by_cases hw : 0 < worth here
      · rw [if_pos hw] at hge
        refine s_cons (s_if e4.2 (bx := true) (t_c (c_is (c_gtN (n := 0) (v_getD (k := kT) (r := pN) (un hr 9) (v_v 1 ⟨dkn, rfl, qk4⟩) (v_v 3 u4) (dk.val here hRh)) (v_nat (n := 0))) (decide_eq_true hw))) (fun _ H5 e5 => ?_) fun h => by cases h)
        have q35 := q34.ext e5.1
        have qk5 := qk4.ext e5.1
        have n5 := (pLst pT).mono e5.1 n4
        refine s_cons (s_put (k := kT) (r := pN) (kvs := f2) (d := df) (x := here) imN e5.2 (un hr 9) (Pv := is (glen here)) (ev_n (ev_is (v_add (v_int (i := 1)) ((v_minL (xs := (((nextsOf here).filter fun u => decide (worth u = 0)).map glen).map fun n : Nat => (n : Int)) rfl B (ev_is (v_lc (lc_nif (f := fun u : Tbl => ((glen u : Nat) : Int)) (t := fun u => decide (worth u = 0)) [("later", 5)] 5 imI scLengths.nd (blkOk_by (N := ["table", "known", "found", "here", "nexts", "later"]) (sc := defScope s_lengths_of) (by decide +kernel)) (tg_name scLengths.nd) (i_lst (v_v 4 n5)) (Nat.le_of_lt (small1000 (show (nextsOf here).length ≤ 1000 by omega))) (fun _ => rfl) ?_) rfl scLengths.nd) (by rw [List.map_map]; rfl)) ?_).imp fun m ⟨m1, m2⟩ => min_uniq (by simpa using zero_next L hoh hw) m1 m2)) ?_)) (v_v 2 ⟨df, rfl, q35⟩) (o_var (ix := 2)) q35 (v_v 3 (pT.mono e5.1 u4)) (Nat.lt_of_le_of_lt lf (by decide)) fun p H8 H9 pp e8 m9 hd9 => by
          obtain rfl : p = _ := pp
          exact s_nil (s_nil (s_nil (fin H8 H9 none ((e4.trans (e5.trans e8)).toM.trans m9) hd9))))
        · rintro y hy H6 u6 e6 ru6 _ ⟨s', H', C', cl, fp, rfl⟩
          have hyR : Rch c0 y := by obtain ⟨n, p⟩ := hRh; exact ⟨n + 1, .snoc p hy⟩
          exact ⟨t_c (c_eqN (n := 0) (v_getD (k := kT) (r := pN) (un hr 9) (v_v 1 ⟨dkn, rfl, qk5.ext e6.1⟩) (v_v 5 ru6) (dk.val y hyR)) (v_nat (n := 0))), fun _ => ev_i (v_getD (k := kT) (r := pN) (un hr 9) (v_v 2 ⟨df, rfl, q35.ext e6.1⟩) (v_v 5 ru6) (q4.val y (hnx y hy)))⟩
        · rw [List.length_map, List.length_map]
          exact List.length_pos_iff.mpr (zero_next L hoh hw)
        · rw [hge]
          omega
      · rw [if_neg hw] at hge
        refine s_cons (s_if e4.2 (bx := false) (t_c (c_is (c_gtN (n := 0) (v_getD (k := kT) (r := pN) (un hr 9) (v_v 1 ⟨dkn, rfl, qk4⟩) (v_v 3 u4) (dk.val here hRh)) (v_nat (n := 0))) (decide_eq_false hw))) (fun h => by cases h) fun _ H5 e5 => ?_)
        have q35 := q34.ext e5.1
        have n5 := (pLst pT).mono e5.1 n4
        refine s_cons (s_put (k := kT) (r := pN) (kvs := f2) (d := df) (x := here) imN e5.2 (un hr 9) (Pv := is (glen here)) (ev_n (ev_is (v_add (v_int (i := 1)) ((v_maxL (xs := ((nextsOf here).map glen).map fun n : Nat => (n : Int)) rfl B (ev_is (v_lc (lc_n (f := fun u : Tbl => ((glen u : Nat) : Int)) [("later", 5)] 5 imI scLengths.nd (blkOk_by (N := ["table", "known", "found", "here", "nexts", "later"]) (sc := defScope s_lengths_of) (by decide +kernel)) (tg_name scLengths.nd) (i_lst (v_v 4 n5)) (Nat.le_of_lt (small1000 (show (nextsOf here).length ≤ 1000 by omega))) (fun _ => rfl) ?_) rfl scLengths.nd) (by rw [List.map_map]; rfl)) ?_).imp fun m ⟨m1, m2⟩ => max_uniq (by simpa using hne) m1 m2)) ?_)) (v_v 2 ⟨df, rfl, q35⟩) (o_var (ix := 2)) q35 (v_v 3 (pT.mono e5.1 u4)) (Nat.lt_of_le_of_lt lf (by decide)) fun p H8 H9 pp e8 m9 hd9 => by
          obtain rfl : p = _ := pp
          exact s_nil (s_nil (s_nil (fin H8 H9 none ((e4.trans (e5.trans e8)).toM.trans m9) hd9))))
        · rintro y hy H6 u6 e6 ru6 _ ⟨s', H', C', cl, fp, rfl⟩
          exact ev_i (v_getD (k := kT) (r := pN) (un hr 9) (v_v 2 ⟨df, rfl, q35.ext e6.1⟩) (v_v 5 ru6) (q4.val y (hnx y hy)))
        · rw [List.length_map, List.length_map]
          exact List.length_pos_iff.mpr hne
        · rw [hge]
          omega
  · rintro ys σ1 H2 _ m2 ⟨q1, q2, f2, o3, o4, o5, rfl, q3, qk, q4⟩
    rw [List.take_length] at q4
    have eH2 : Ex T H H2 := e1.thenM m2 (by
      intro p hp
      rw [List.mem_singleton.mp hp]
      exact fdf)
    refine s_cons (s_ret m2.tabs (r := pD w kT pN) (P := is f2) (v_v 2 ⟨df, rfl, q3⟩) fun u z H3 e3 rl pz => k u z H3 (eH2.trans e3) rl ⟨g, ?_⟩)
    rw [show z = f2 from pz]
    show DictOk g (crowdOf x) glen f2
    rw [hc0]
    exact q4.fin q1
end
end LT
/-! ## LtD10 -/
set_option Elab.async false
set_option linter.all false
set_option maxRecDepth 100000
set_option maxHeartbeats 8000000
namespace LT
open PySem PySem.W PySem.Spec PyProof.Rows L2 LamX

section
variable {α β γ : Type} {X : Cx} {T : List (Addr × Str)} {a b c : Expr} {r : Rp α} {s : Rp β} {q : Rp γ} {σ : L2.St} {H : Hp} {P : α → Prop} {Pb : β → Prop} {Pc : γ → Prop} {pos : Pos} {D : Ends}
/-- a, b, c = e, e', a new thing -/
theorem s_asg3F {z w y : Str} {px py pz pt pt2 : Pos} {kt k2 : Nat} (i j l : Nat) (hT : Tabs T H) (hc : X.calm = true) (hN : X.N.Nodup) (ha : VE X T a r σ H P) (hb : VE X T b s σ H Pb) (hcc : VF X T c q σ H Pc)
    (k : ∀ u v d x y z H1 Hm, Ex T H H1 → Fr0 H d → r.rel H1 u x → s.rel H1 v y → q.rel H1 (.ref d) z → P x → Pb y → Pc z → r.rel Hm u x → s.rel Hm v y → Fr0 Hm d → D.nx (((σ.set i (some u)).set j (some v)).set l (some (.ref d))) H1)
    (hi : X.N[i]? = some z := by rfl) (hj : X.N[j]? = some w := by rfl) (hl : X.N[l]? = some y := by rfl) (hx : Loc X.env.scope z := by first | exact Or.inl rfl | exact Or.inr rfl) (hy : Loc X.env.scope w := by first | exact Or.inl rfl | exact Or.inr rfl) (hz : Loc X.env.scope y := by first | exact Or.inl rfl | exact Or.inr rfl)
    (hf : X.fn z = true ∨ X.env.scope.names.lookup z = some .local := by first | exact .inl rfl | exact .inr rfl) (hf' : X.fn w = true ∨ X.env.scope.names.lookup w = some .local := by first | exact .inl rfl | exact .inr rfl) (hf'' : X.fn y = true ∨ X.env.scope.names.lookup y = some .local := by first | exact .inl rfl | exact .inr rfl)
    (hs : swapsWithSole [.Tuple [.Name z px, .Name w py, .Name y pz] kt pt] (.Tuple [a, b, c] k2 pt2) pos.line X.env = pure false := by rfl) (hw : swappedStores [.Tuple [.Name z px, .Name w py, .Name y pz] kt pt] (.Tuple [a, b, c] k2 pt2) X.env = pure none := by rfl)
    (h1 : (assignEach [.Tuple [.Name z px, .Name w py, .Name y pz] kt pt] X.env).map (·.2) = [assign (.Tuple [.Name z px, .Name w py, .Name y pz] kt pt) X.env] := by rfl)
    (s1 : starEach [a, b, c] X.env = (false, eval a X.env) :: starEach [b, c] X.env := by rfl) (s2 : starEach [b, c] X.env = (false, eval b X.env) :: starEach [c] X.env := by rfl) (s3 : starEach [c] X.env = (false, eval c X.env) :: starEach [] X.env := by rfl)
    (t1 : (assignEach [.Name z px, .Name w py, .Name y pz] X.env).map (·.2) = assign (.Name z px) X.env :: (assignEach [.Name w py, .Name y pz] X.env).map (·.2) := by rfl) (t2 : (assignEach [.Name w py, .Name y pz] X.env).map (·.2) = assign (.Name w py) X.env :: (assignEach [.Name y pz] X.env).map (·.2) := by rfl)
    (t2' : (assignEach [.Name y pz] X.env).map (·.2) = assign (.Name y pz) X.env :: (assignEach [] X.env).map (·.2) := by rfl)
    (t3 : (assignEach [.Name z px, .Name w py, .Name y pz] X.env).length = 3 := by rfl) (t4 : (assignEach [.Name z px, .Name w py, .Name y pz] X.env).findIdx? (·.1) = none := by rfl) :
    oS X (.Assign [.Tuple [.Name z px, .Name w py, .Name y pz] kt pt] (.Tuple [a, b, c] k2 pt2) pos) D σ H :=
  oS_of (ps_asg (pe_tup (pa_cons pe_o (pa_cons pe_o (pa_cons pe_o pa_nil s3) s2) s1)) (pg_tup hc (pgs_cons (pg_name (i := i) hN hi hx hf) (pgs_cons (pg_name (i := j) hN hj hy hf') (pgs_cons (pg_name (i := l) hN hl hz hf'') pgs_nil t2') t2) t1) t3 t4) hs hw h1)
    (ha H (Ex.refl hT) _ fun u x H1 e1 ru px => hb H1 e1 _ fun v y H2 e2 rv py => hcc H2 (e1.trans e2) _ fun d z H3 e3 fd rd pz => ⟨by show 3 ≤ sizeLine; decide, fun p hp => ⟨p, [u, v, .ref d], rfl, sq_t upd_same, rfl, u, [v, .ref d], rfl, v, [.ref d], rfl, .ref d, [], rfl, rfl,
      k u v d x y z _ H2 (((e1.trans e2).trans e3).trans (Ex.new e3.2 hp)) (fd.back (e1.trans e2).1) (r.mono (extn_new hp) (r.mono (e2.trans e3).1 ru)) (s.mono (extn_new hp) (s.mono e3.1 rv)) (q.mono (extn_new hp) rd) px py pz (r.mono e2.1 ru) rv fd⟩⟩)
end
/-- each deed of a play: one shorter, and where the first wins the other is left with worth 0 -/
def Good (a b : Tbl) : Prop := b ∈ nextsOf a ∧ glen b + 1 = glen a ∧ (0 < worth a → worth b = 0)
/-- a play under way: its last crowd is t -/
structure PlayTo (g : Nat) (c0 : Tbl) (xs : List Tbl) (t : Tbl) : Prop where
  ok : OkW g c0
  head : xs.head? = some c0
  last : xs.getLast? = some t
  mem : ∀ u ∈ xs, Rch c0 u
  step : ∀ p ∈ xs.zip xs.tail, Good p.1 p.2
  len : xs.length + glen t = glen c0 + 1
theorem zip_tail_snoc {α : Type} : ∀ {xs : List α} {t u : α}, xs.getLast? = some t → (xs ++ [u]).zip (xs ++ [u]).tail = xs.zip xs.tail ++ [(t, u)]
  | [], _, _, h => by simp at h
  | [a], t, u, h => by
    simp at h
    subst h
    rfl
  | a :: b :: l, t, u, h => by
    have ih := zip_tail_snoc (xs := b :: l) (t := t) (u := u) (by simpa using h)
    simp only [List.cons_append, List.tail_cons, List.zip_cons_cons] at ih ⊢
    rw [ih]
theorem PlayTo.snoc {g : Nat} {c0 : Tbl} {xs : List Tbl} {t u : Tbl} (s : PlayTo g c0 xs t) (h : Good t u) : PlayTo g c0 (xs ++ [u]) u := by
  have ht : t ∈ xs := List.mem_of_getLast? s.last
  refine ⟨s.ok, ?_, by simp, fun y hy => ?_, fun p hp => ?_, ?_⟩
  · rw [List.head?_append, s.head]
    rfl
  · rcases List.mem_append.mp hy with hy | hy
    · exact s.mem y hy
    · rw [List.mem_singleton.mp hy]
      obtain ⟨n, p⟩ := s.mem t ht
      exact ⟨n + 1, .snoc p h.1⟩
  · rw [zip_tail_snoc s.last] at hp
    rcases List.mem_append.mp hp with hp | hp
    · exact s.step p hp
    · rw [List.mem_singleton.mp hp]
      exact h
  · rw [List.length_append, List.length_singleton]
    have := s.len
    have := h.2.1
    omega
section
variable {P : Program} {w : World} {K : PySem.W.Frag} {mg : Str → Option Value} {base : Heap} {T : List (Addr × Str)} {f c Pt : Addr} {fd : FuncData} {k : Nat}
theorem scGame : FnScope ["table"] ["table"] (defScope s_game_length) := ⟨rfl, rfl, rfl, by decide +kernel, rfl, by decide +kernel, by decide +kernel⟩
theorem f_game {j j2 j3 : Nat} (Cn : Cal P w K mg base "need_table" ["table"] j (pNeedTable T)) (Cw : Cal P w K mg base "lengths_of" ["table"] j2 (pLengths w T)) (Cc : Cal P w K mg base "crowd_of" ["table"] j3 (pCrowd T)) (hj : j ≤ k) (hj2 : j2 ≤ k) (hj3 : j3 ≤ k) (F : FnP K "game_length" s_game_length f fd) : FnOk P w K mg base CX0 (k + 1) f fd ["table"] (pGame T) := by
  refine fn_ok F scGame len1 fun cdv A outer s H vs Q E ⟨x, _⟩ hr ⟨v, ws, ev, h1, h4⟩ hok hT k => ?_
  obtain rfl : ws = [] := h4
  subst ev
  refine s_cons (s_drop hT (r := pU) (P := fun _ => True) (v_cl Cn (hr.mono hj) (a_1 (v_v 0 h1)) hok fun _ h => h) fun _ _ H1 e1 _ _ => ?_)
  have x1 : pT.rel H1 v x := pT.mono e1.1 h1
  exact s_cons (s_ret e1.2 (r := pN) (P := is (glen (crowdOf x))) (v_getDP (k := kT) (r := pN) (un hr 9) (v_cl Cw (hr.mono hj2) (a_1 (v_v 0 x1)) hok fun _ h => h) (v_cl Cc (hr.mono hj3) (a_1 (v_v 0 x1)) hok fun _ h => h) fun kvs ⟨g, d⟩ => ⟨_, d.val _ (rch0 _), rfl⟩) fun u z H2 e2 rl pz => k u z H2 (e1.trans e2) rl pz)
end
end LT
/-! ## LtD11 -/
set_option Elab.async false
set_option linter.all false
set_option maxRecDepth 100000
set_option maxHeartbeats 8000000
namespace LT
open PySem PySem.W PySem.Spec PyProof.Rows L2 LamX

/-- where the length is above 0 there is a good deed -/
theorem good_next (L : Less) {g : Nat} {t : Tbl} (h : OkW g t) (hl : 0 < glen t) : ∃ u, u ∈ nextsOf t ∧ glen u + 1 = glen t ∧ (0 < worth t → worth u = 0) := by
  have hg := glen_eq L h
  unfold lenF at hg
  by_cases hn : nextsOf t = []
  · rw [if_pos hn] at hg
    omega
  · rw [if_neg hn] at hg
    by_cases hw : 0 < worth t
    · rw [if_pos hw] at hg
      obtain ⟨h1, _⟩ := minL_ok (xs := ((nextsOf t).filter fun u => decide (worth u = 0)).map glen) (by simpa using zero_next L h hw)
      obtain ⟨u, hu, e⟩ := List.mem_map.mp h1
      obtain ⟨hu1, hu2⟩ := List.mem_filter.mp hu
      exact ⟨u, hu1, by omega, fun _ => of_decide_eq_true hu2⟩
    · rw [if_neg hw] at hg
      obtain ⟨h1, _⟩ := maxL_ok (xs := (nextsOf t).map glen) (by simpa using hn)
      obtain ⟨u, hu, e⟩ := List.mem_map.mp h1
      exact ⟨u, hu, by omega, fun z => absurd z hw⟩
theorem glen_odds (L : Less) {g : Nat} : ∀ (n : Nat) {t : Tbl}, OkW g t → oddsN t ≤ n → glen t ≤ oddsN t := by
  intro n
  induction n with
  | zero =>
    intro t h hn
    have h0 := nexts_len t
    have e : nextsOf t = [] := List.length_eq_zero_iff.mp (by omega)
    have hg := glen_eq L h
    unfold lenF at hg
    rw [if_pos e] at hg
    omega
  | succ n ih =>
    intro t h hn
    rcases Nat.eq_zero_or_pos (glen t) with z | z
    · omega
    · obtain ⟨u, hu, e, _⟩ := good_next L h z
      have hl := L g t u h hu
      have := ih (next_ok h hu) (by omega)
      omega
theorem glen_le (L : Less) {g : Nat} {t : Tbl} (h : OkW g t) : glen t ≤ 6 := Nat.le_trans (glen_odds L _ h (Nat.le_refl _)) (odds_six h)
theorem good_first {t : Tbl} {ns : List Tbl} (hs : ∀ u ∈ ns, u ∈ nextsOf t ∧ (0 < worth t → worth u = 0)) (he : ∃ u ∈ ns, glen u + 1 = glen t) : ∃ u, ((ns.filter fun u => decide (glen u = glen t - 1)).map fun u => u)[0]? = some u ∧ Good t u := by
  obtain ⟨v, hv, e⟩ := he
  rw [List.map_id']
  have hne : (ns.filter fun u => decide (glen u = glen t - 1)) ≠ [] := List.ne_nil_of_mem (List.mem_filter.mpr ⟨hv, decide_eq_true (by omega)⟩)
  obtain ⟨a, l, ha⟩ := List.exists_cons_of_ne_nil hne
  have hm : a ∈ ns.filter fun u => decide (glen u = glen t - 1) := by rw [ha]; exact List.mem_cons_self
  obtain ⟨h1, h2⟩ := List.mem_filter.mp hm
  have h2 := of_decide_eq_true h2
  exact ⟨a, by rw [ha]; rfl, (hs a h1).1, by omega, (hs a h1).2⟩
section
variable {P : Program} {w : World} {K : PySem.W.Frag} {mg : Str → Option Value} {base : Heap} {T : List (Addr × Str)} {f c Pt : Addr} {fd : FuncData} {k : Nat}
abbrev pPlay (T : List (Addr × Str)) : Sp := SpG T (a1 pT) (fun y => Ok y.1) (pTup pT) (fun y z => ∃ g t, PlayTo g (crowdOf y.1) z t ∧ glen t = 0)
theorem scBest : FnScope ["table", "known", "far", "found", "here", "nexts", "later"] ["table"] (defScope s_best_play) := ⟨rfl, rfl, rfl, by decide +kernel, rfl, by decide +kernel, by decide +kernel⟩
set_option maxHeartbeats 16000000 in
theorem f_best {j j2 j3 j4 j5 : Nat} (L : Less) (B : Blt mg) (Cn : Cal P w K mg base "need_table" ["table"] j (pNeedTable T)) (Cw : Cal P w K mg base "worths_of" ["table"] j2 (pWorths w T)) (Cl : Cal P w K mg base "lengths_of" ["table"] j3 (pLengths w T)) (Cc : Cal P w K mg base "crowd_of" ["table"] j4 (pCrowd T)) (Cx : Cal P w K mg base "nexts_of" ["table"] j5 (pNexts T))
    (hj : j ≤ k) (hj2 : j2 ≤ k) (hj3 : j3 ≤ k) (hj4 : j4 ≤ k) (hj5 : j5 ≤ k) (F : FnP K "best_play" s_best_play f fd) : FnOk P w K mg base CX0 (k + 1) f fd ["table"] (pPlay T) := by
  refine fn_ok F scBest len1 fun cdv A outer s H vs Q E ⟨x, _⟩ hr ⟨v, ws, ev, h1, h4⟩ ⟨g, hok0⟩ hT k => ?_
  obtain rfl : ws = [] := h4
  subst ev
  have hok0 : OkW g x := hok0
  have hok : OkW g (crowdOf x) := hok0.crowd
  generalize hc0 : crowdOf x = c0 at hok
  refine s_cons (s_drop hT (r := pU) (P := fun _ => True) (v_cl Cn (hr.mono hj) (a_1 (v_v 0 h1)) ⟨g, hok0⟩ fun _ h => h) fun _ _ H0 e0 _ _ => ?_)
  have x0 : pT.rel H0 v x := pT.mono e0.1 h1
  refine s_cons (s_asg3F (r := pD w kT pN) (s := pD w kT pN) (q := pLst pT) (P := fun z => ∃ g, DictOk g c0 worth z) (Pb := fun z => ∃ g, DictOk g c0 glen z) (Pc := is [c0]) 1 2 3 e0.2 rfl scBest.nd (v_cl Cw (hr.mono hj2) (a_1 (v_v 0 x0)) ⟨g, hok0⟩ fun z h => by rw [← hc0]; exact h) (v_cl Cl (hr.mono hj3) (a_1 (v_v 0 x0)) ⟨g, hok0⟩ fun z h => by rw [← hc0]; exact h) (f_lst1 (r := pT) (x := c0) (v_cl Cc (hr.mono hj4) (a_1 (v_v 0 x0)) ⟨g, hok0⟩ fun z h => h.trans hc0)) fun vk vf dq kw kl l0 H1 Hm e1 fdq rk rf rq ⟨g1, dw⟩ ⟨g2, dl⟩ pl rkm rfm fqm => ?_)
  obtain rfl : l0 = _ := pl
  obtain ⟨_, vs0, e, hdq, hpq⟩ := rq
  cases e
  obtain ⟨ak, rfl, hdk⟩ := rk
  obtain ⟨af, rfl, hdf⟩ := rf
  have nk : ak ≠ dq := by
    obtain ⟨d', e, hd'⟩ := rkm
    cases e
    obtain ⟨o, ho, so⟩ := hd'.soft
    exact fqm.ne ho so.ntbl
  have nf : af ≠ dq := by
    obtain ⟨d', e, hd'⟩ := rfm
    cases e
    obtain ⟨o, ho, so⟩ := hd'.soft
    exact fqm.ne ho so.ntbl
  have okr : ∀ u, Rch c0 u → OkW g u := fun u ⟨n, p⟩ => p.ok hok
  have fdH : Fr0 H dq := fdq.back e0.1
  refine s_cons (s_while' rfl (s_while (T := T) (m0 := glen c0) (fun m σ' H' => ∃ vs xs t o4 o5 o6, σ' = [some v, some (.ref ak), some (.ref af), some (.ref dq), o4, o5, o6] ∧ Ex T H H' ∧ dictAt w kT pN H' ak kw ∧ dictAt w kT pN H' af kl ∧ H' dq = some (.lst vs) ∧ Paired (pT.rel H') vs xs ∧ PlayTo g c0 xs t ∧ m = glen t) ?_ ?_))
  · exact ⟨vs0, [c0], c0, none, none, none, rfl, e0.trans e1, hdk, hdf, hdq, hpq, ⟨hok, rfl, rfl, fun u hu => by rw [List.mem_singleton.mp hu]; exact rch0 c0, by simp, by simp; omega⟩, rfl⟩
  clear hdk hdf hdq hpq
  rintro m σ' H' ⟨vs, xs, t, o4, o5, o6, rfl, eH, hdk, hdf, hdq, hpq, hp, rfl⟩
  have hRt : Rch c0 t := hp.mem t (List.mem_of_getLast? hp.last)
  have hokt := okr t hRt
  refine ⟨decide (0 < glen t), t_c (c_gtN (n := 0) (v_getD (k := kT) (r := pN) (un hr 9) (v_v 2 ⟨af, rfl, hdf⟩) (v_lastL (v_v 3 (show (pLst pT).rel H' (.ref dq) xs from ⟨dq, vs, rfl, hdq, hpq⟩)) hp.last) (dl.val t hRt)) (v_nat (n := 0))), eH.2, fun H2 e2 => ?_⟩
  have hdk2 := hdk.ext e2.1
  have hdf2 := hdf.ext e2.1
  have hdq2 : H2 dq = some (.lst vs) := e2.get hdq (.lst _)
  have hpq2 : Paired (pT.rel H2) vs xs := paired_imp (fun _ _ => pT.mono e2.1) hpq
  by_cases hgl : 0 < glen t
  · rw [if_pos (decide_eq_true hgl)]
    intro N hN
    refine s_cons (s_set 4 e2.2 (r := pT) (P := is t) (v_lastL (v_v 3 (show (pLst pT).rel H2 (.ref dq) xs from ⟨dq, vs, rfl, hdq2, hpq2⟩)) hp.last) scBest.nd fun vt t' H3 e3 rt pt => ?_)
    obtain rfl : t' = t := pt
    refine s_cons (s_set 5 e3.2 (r := pLst pT) (P := is (nextsOf t')) (v_cl Cx (hr.mono hj5) (a_1 (v_v 4 rt)) ⟨g, hokt⟩ fun _ h => h) scBest.nd fun vn z H4 e4 rn pz => ?_)
    obtain rfl : z = _ := pz
    have hnl : (nextsOf t').length ≤ 1000 := Nat.le_trans (nexts_len t') (Nat.le_trans (odds_six hokt) (by decide))
    have hRn : ∀ u ∈ nextsOf t', Rch c0 u := fun u hu => by obtain ⟨n, p⟩ := hRt; exact ⟨n + 1, .snoc p hu⟩
    by_cases hw : 0 < worth t'
    · refine s_cons (s_if e4.2 (bx := true) (t_c (c_is (c_gtN (n := 0) (v_getD (k := kT) (r := pN) (un hr 9) (v_v 1 ⟨ak, rfl, hdk2.ext (e3.trans e4).1⟩) (v_v 4 (pT.mono e4.1 rt)) (dw.val t' hRt)) (v_nat (n := 0))) (decide_eq_true hw))) (fun _ H5 e5 => ?_) fun h => by cases h)
      refine s_cons (s_setLc 5 e5.2 (lc_nif (f := fun u : Tbl => u) (t := fun u => decide (worth u = 0)) [("later", 6)] 6 imT scBest.nd (blkOk_by (N := ["table", "known", "far", "found", "here", "nexts", "later"]) (sc := defScope s_best_play) (by decide +kernel)) (tg_name scBest.nd) (i_lst (v_v 5 ((pLst pT).mono e5.1 rn))) (Nat.le_of_lt (small1000 hnl)) (fun _ => rfl) ?_) rfl scBest.nd ?_ (sw_true rfl rfl rfl (by decide +kernel)))
      · rintro y hy H6 u6 e6 ru6 _ ⟨s', H', C', cl, fp, rfl⟩
        exact ⟨t_c (c_eqN (n := 0) (v_getD (k := kT) (r := pN) (un hr 9) (v_v 1 ⟨ak, rfl, (hdk2.ext (e3.trans (e4.trans e5)).1).ext e6.1⟩) (v_v 6 ru6) (dw.val y (hRn y hy))) (v_nat (n := 0))), fun _ => v_v 6 ru6⟩
      intro vm z H8 e8 rm pm
      rw [List.map_id'] at pm
      obtain rfl : z = _ := pm
      have e58 := e5.trans e8
      have hs : ∀ u ∈ (nextsOf t').filter (fun u => decide (worth u = 0)), u ∈ nextsOf t' ∧ (0 < worth t' → worth u = 0) := fun u hu => by
        obtain ⟨a, b⟩ := List.mem_filter.mp hu
        exact ⟨a, fun _ => of_decide_eq_true b⟩
      have he : ∃ u ∈ (nextsOf t').filter (fun u => decide (worth u = 0)), glen u + 1 = glen t' := by
        obtain ⟨u, a, b, c⟩ := good_next L hokt hgl
        exact ⟨u, List.mem_filter.mpr ⟨a, decide_eq_true (c hw)⟩, b⟩
      refine s_nil ?_
      obtain ⟨nx, hnx, hgood⟩ := good_first (t := t') (ns := (nextsOf t').filter fun u => decide (worth u = 0)) hs he
      have k5 := hdk2.ext (e3.trans (e4.trans e58)).1
      have f5 := hdf2.ext (e3.trans (e4.trans e58)).1
      have q5 : H8 dq = some (.lst vs) := (e3.trans (e4.trans e58)).get hdq2 (.lst _)
      have p5 : Paired (pT.rel H8) vs xs := paired_imp (fun _ _ => pT.mono (e3.trans (e4.trans e58)).1) hpq2
      have t5 : pT.rel H8 vt t' := pT.mono (e4.trans e58).1 rt
      have hvl : vs.length < sizeLine := by
        rw [p5.length]
        have := hp.len
        have h9 := glen_le L hok
        exact Nat.lt_of_le_of_lt (show xs.length ≤ 7 by omega) (by decide)
      refine s_cons (s_app (d := dq) (Pv := is nx) e58.2 (o_var (ix := 3)) q5 (v_ixL (v_lc (lc_nif (f := fun u : Tbl => u) (t := fun u => decide (glen u = glen t' - 1)) [("later", 6)] 6 imT scBest.nd (blkOk_by (N := ["table", "known", "far", "found", "here", "nexts", "later"]) (sc := defScope s_best_play) (by decide +kernel)) (tg_name scBest.nd) (i_lst (v_v 5 rm)) (Nat.le_of_lt (small1000 (Nat.le_trans (List.length_filter_le _ _) hnl))) (fun _ => rfl) ?_) rfl scBest.nd) (v_nat (n := 0)) hnx) hvl fun u' y H6 H7 py e6 ru' m7 hq6 e7 => ?_)
      · rintro y hy H6 u6 e6 ru6 _ ⟨s', H', C', cl, fp, rfl⟩
        have hyn := (hs y hy).1
        exact ⟨t_c (c_eqN (v_getD (k := kT) (r := pN) (un hr 9) (v_v 2 ⟨af, rfl, f5.ext e6.1⟩) (v_v 6 ru6) (dl.val y (hRn y hyn))) (v_subN (v_getD (k := kT) (r := pN) (un hr 9) (v_v 2 ⟨af, rfl, f5.ext e6.1⟩) (v_v 4 (pT.mono e6.1 t5)) (dl.val t' hRt)) (v_nat (n := 1)) hgl)), fun _ => v_v 6 ru6⟩
      obtain rfl : y = nx := py
      subst e7
      have eH6 : Ex T H H6 := (eH.trans e2).trans ((e3.trans (e4.trans e58)).trans e6)
      exact s_nil (hN (glen y) _ _ (by have := hgood.2.1; omega) ⟨_, _, y, _, _, _, rfl, eH6.thenM m7 (by
        intro p hp
        rw [List.mem_singleton.mp hp]
        exact fdH), dict_stay imN (k5.ext e6.1) m7 (by simp [nk]), dict_stay imN (f5.ext e6.1) m7 (by simp [nf]), upd_same, Paired.app (paired_imp (fun _ _ q => imT m7.2.1 (pT.mono e6.1 q)) p5) (.cons (imT m7.2.1 ru') .nil), hp.snoc hgood, rfl⟩)
    · refine s_cons (s_if e4.2 (bx := false) (t_c (c_is (c_gtN (n := 0) (v_getD (k := kT) (r := pN) (un hr 9) (v_v 1 ⟨ak, rfl, hdk2.ext (e3.trans e4).1⟩) (v_v 4 (pT.mono e4.1 rt)) (dw.val t' hRt)) (v_nat (n := 0))) (decide_eq_false hw))) (fun h => by cases h) fun _ H5 e5 => s_nil ?_)
      have hs : ∀ u ∈ nextsOf t', u ∈ nextsOf t' ∧ (0 < worth t' → worth u = 0) := fun u hu => ⟨hu, fun z => absurd z hw⟩
      have he : ∃ u ∈ nextsOf t', glen u + 1 = glen t' := by
        obtain ⟨u, a, b, c⟩ := good_next L hokt hgl
        exact ⟨u, a, b⟩
      have rn5 := (pLst pT).mono e5.1 rn
      obtain ⟨nx, hnx, hgood⟩ := good_first (t := t') (ns := nextsOf t') hs he
      have k5 := hdk2.ext (e3.trans (e4.trans e5)).1
      have f5 := hdf2.ext (e3.trans (e4.trans e5)).1
      have q5 : H5 dq = some (.lst vs) := (e3.trans (e4.trans e5)).get hdq2 (.lst _)
      have p5 : Paired (pT.rel H5) vs xs := paired_imp (fun _ _ => pT.mono (e3.trans (e4.trans e5)).1) hpq2
      have t5 : pT.rel H5 vt t' := pT.mono (e4.trans e5).1 rt
      have hvl : vs.length < sizeLine := by
        rw [p5.length]
        have := hp.len
        have h9 := glen_le L hok
        exact Nat.lt_of_le_of_lt (show xs.length ≤ 7 by omega) (by decide)
      refine s_cons (s_app (d := dq) (Pv := is nx) e5.2 (o_var (ix := 3)) q5 (v_ixL (v_lc (lc_nif (f := fun u : Tbl => u) (t := fun u => decide (glen u = glen t' - 1)) [("later", 6)] 6 imT scBest.nd (blkOk_by (N := ["table", "known", "far", "found", "here", "nexts", "later"]) (sc := defScope s_best_play) (by decide +kernel)) (tg_name scBest.nd) (i_lst (v_v 5 rn5)) (Nat.le_of_lt (small1000 hnl)) (fun _ => rfl) ?_) rfl scBest.nd) (v_nat (n := 0)) hnx) hvl fun u' y H6 H7 py e6 ru' m7 hq6 e7 => ?_)
      · rintro y hy H6 u6 e6 ru6 _ ⟨s', H', C', cl, fp, rfl⟩
        have hyn := (hs y hy).1
        exact ⟨t_c (c_eqN (v_getD (k := kT) (r := pN) (un hr 9) (v_v 2 ⟨af, rfl, f5.ext e6.1⟩) (v_v 6 ru6) (dl.val y (hRn y hyn))) (v_subN (v_getD (k := kT) (r := pN) (un hr 9) (v_v 2 ⟨af, rfl, f5.ext e6.1⟩) (v_v 4 (pT.mono e6.1 t5)) (dl.val t' hRt)) (v_nat (n := 1)) hgl)), fun _ => v_v 6 ru6⟩
      obtain rfl : y = nx := py
      subst e7
      have eH6 : Ex T H H6 := (eH.trans e2).trans ((e3.trans (e4.trans e5)).trans e6)
      exact s_nil (hN (glen y) _ _ (by have := hgood.2.1; omega) ⟨_, _, y, _, _, _, rfl, eH6.thenM m7 (by
        intro p hp
        rw [List.mem_singleton.mp hp]
        exact fdH), dict_stay imN (k5.ext e6.1) m7 (by simp [nk]), dict_stay imN (f5.ext e6.1) m7 (by simp [nf]), upd_same, Paired.app (paired_imp (fun _ _ q => imT m7.2.1 (pT.mono e6.1 q)) p5) (.cons (imT m7.2.1 ru') .nil), hp.snoc hgood, rfl⟩)
  · rw [if_neg (by simp [hgl])]
    refine s_cons (s_ret e2.2 (r := pTup pT) (P := is xs) (v_tup B (v_v 3 (show (pLst pT).rel H2 (.ref dq) xs from ⟨dq, vs, rfl, hdq2, hpq2⟩))) fun u z H3 e3 rl pz => k u z H3 ((eH.trans e2).trans e3) rl ⟨g, t, ?_, by omega⟩)
    rw [show z = xs from pz]
    show PlayTo g (crowdOf x) xs t
    rw [hc0]
    exact hp
end
end LT
/-! ## LtD12 -/
set_option Elab.async false
set_option linter.all false
set_option maxRecDepth 100000
set_option maxHeartbeats 8000000
namespace LT
open PySem PySem.W PySem.Spec PyProof.Rows L2 LamX

section
variable {α β γ : Type} {X : Cx} {T : List (Addr × Str)} {a b c : Expr} {r : Rp α} {s : Rp β} {σ : L2.St} {H : Hp} {P : α → Prop} {Pb : β → Prop} {pos : Pos} {D : Ends}
theorem s_parP {z w : Str} {px py pt pt2 : Pos} {kt k2 : Nat} (i j : Nat) (hT : Tabs T H) (hc : X.calm = true) (hN : X.N.Nodup) (ha : VE X T a r σ H P) (hb : VE X T b s σ H Pb) (k : ∀ u w x y H1, Ex T H H1 → r.rel H1 u x → s.rel H1 w y → P x → Pb y → D.nx ((σ.set i (some u)).set j (some w)) H1)
    (hi : X.N[i]? = some z := by rfl) (hj : X.N[j]? = some w := by rfl) (hij : i ≠ j := by decide) (hx : X.env.scope.names.lookup z = some .local := by rfl) (hy : X.env.scope.names.lookup w = some .local := by rfl)
    (hw : swappedStores [.Tuple [.Name z px, .Name w py] kt pt] (.Tuple [a, b] k2 pt2) X.env = pure (some [z, w]) := by rfl) (hs : swapsWithSole [.Tuple [.Name z px, .Name w py] kt pt] (.Tuple [a, b] k2 pt2) pos.line X.env = pure false := by rfl)
    (s1 : starEach [a, b] X.env = (false, eval a X.env) :: starEach [b] X.env := by rfl) (s2 : starEach [b] X.env = (false, eval b X.env) :: starEach [] X.env := by rfl) :
    oS X (.Assign [.Tuple [.Name z px, .Name w py] kt pt] (.Tuple [a, b] k2 pt2) pos) D σ H :=
  oS_of (ps_par hc hN hi hj hij hx hy (pa_cons pe_o (pa_cons pe_o pa_nil s2) s1) hw hs) (ha H (Ex.refl hT) _ fun u x H1 e1 ru px => hb H1 e1 _ fun q y H2 e2 rq py =>
    ⟨_, _, rfl, k u q x y H2 (e1.trans e2) (r.mono e2.1 ru) rq px py⟩)
end
section
variable {P : Program} {w : World} {K : PySem.W.Frag} {mg : Str → Option Value} {base : Heap} {T : List (Addr × Str)} {f c Pt : Addr} {fd : FuncData} {k : Nat}
abbrev pShowsPlay (T : List (Addr × Str)) : Sp := SpG T (a2 pT (pTup pT)) (fun y => Ok y.1 ∧ (∃ g t, PlayTo g (crowdOf y.1) y.2.1 t ∧ glen t = 0) ∧ ∀ u ∈ y.2.1, crowdOf u = u) pB (fun _ b => b = true)
theorem PlayTo.deeds {g : Nat} {c0 t : Tbl} {xs : List Tbl} (L : Less) (s : PlayTo g c0 xs t) (hc : ∀ u ∈ xs, crowdOf u = u) : xs ≠ [] ∧ xs.length ≤ 1000 ∧ (∀ t ∈ xs, Ok t ∧ crowdOf t = t) ∧ Chain xs := by
  refine ⟨fun e => ?_, ?_, fun u hu => ⟨?_, hc u hu⟩, fun p hp => (s.step p hp).1⟩
  · have := s.head
    rw [e] at this
    cases this
  · have := s.len
    have := glen_le L s.ok
    omega
  · obtain ⟨n, p⟩ := s.mem u hu
    exact ⟨g, p.ok s.ok⟩
theorem scShowsPlay : FnScope ["table", "value", "known", "far", "here", "later"] ["table", "value"] (defScope s_shows_play) := ⟨rfl, rfl, rfl, by decide +kernel, rfl, by decide +kernel, by decide +kernel⟩
theorem f_shows_play {j j2 j3 j4 j5 : Nat} (L : Less) (B : Blt mg) (Cn : Cal P w K mg base "need_table" ["table"] j (pNeedTable T)) (Cw : Cal P w K mg base "worths_of" ["table"] j2 (pWorths w T)) (Cl : Cal P w K mg base "lengths_of" ["table"] j3 (pLengths w T)) (Cc : Cal P w K mg base "crowd_of" ["table"] j4 (pCrowd T)) (Cd : Cal P w K mg base "is_row_of_deeds" ["value"] j5 (pDeeds T))
    (hj : j ≤ k) (hj2 : j2 ≤ k) (hj3 : j3 ≤ k) (hj4 : j4 ≤ k) (hj5 : j5 ≤ k) (F : FnP K "shows_play" s_shows_play f fd) : FnOk P w K mg base CX0 (k + 1) f fd ["table", "value"] (pShowsPlay T) := by
  refine fn_ok F scShowsPlay len2 fun cdv A outer s H vs Q E ⟨x, xs, _⟩ hr ⟨v, ws, ev, h1, v2, ws2, e2, h2, h4⟩ ⟨hok0, ⟨g, t, hp, ht⟩, hcr⟩ hT k => ?_
  obtain rfl : ws2 = [] := h4
  subst ev e2
  have hp : PlayTo g (crowdOf x) xs t := hp
  have hdd := hp.deeds L hcr
  have hne : xs ≠ [] := hdd.1
  refine s_cons (s_drop hT (r := pU) (P := fun _ => True) (v_cl Cn (hr.mono hj) (a_1 (v_v 0 h1)) hok0 fun _ h => h) fun _ _ H0 e0 _ _ => ?_)
  have x0 : pT.rel H0 v x := pT.mono e0.1 h1
  refine s_cons (s_parP (r := pD w kT pN) (s := pD w kT pN) (P := fun z => ∃ g, DictOk g (crowdOf x) worth z) (Pb := fun z => ∃ g, DictOk g (crowdOf x) glen z) 2 3 e0.2 rfl scShowsPlay.nd (v_cl Cw (hr.mono hj2) (a_1 (v_v 0 x0)) hok0 fun z h => h) (v_cl Cl (hr.mono hj3) (a_1 (v_v 0 x0)) hok0 fun z h => h) fun vk vf kw kl H1 e1 rk rf ⟨g1, dw⟩ ⟨g2, dl⟩ => ?_)
  have x1 : pT.rel H1 v x := pT.mono e1.1 x0
  have y1 : (pTup pT).rel H1 v2 xs := (pTup pT).mono (e0.trans e1).1 h2
  have hx0 : xs[0]? = some (crowdOf x) := by
    have := hp.head
    rwa [List.head?_eq_getElem?] at this
  refine s_cons (s_if e1.2 (bx := false) (t_w (w_or (bx := false) (bz := false) (t_not (bx := true) (t_v (v_cl Cd (hr.mono hj5) (a_1 (v_v 1 y1)) hdd fun _ h => h))) fun _ => w_or (bx := false) (bz := false) (t_c (c_is (c_neT (un hr 64) (v_ixT (v_v 1 y1) (v_nat (n := 0)) hx0) (v_cl Cc (hr.mono hj4) (a_1 (v_v 0 x1)) hok0 fun _ h => h)) (by simp))) fun _ => w_or1 (t_c (c_is (c_neN (v_lenT B (v_v 1 y1)) (v_addN (v_getD (k := kT) (r := pN) (un hr 9) (v_v 3 rf) (v_ixT (v_v 1 y1) (v_nat (n := 0)) hx0) (dl.val _ (rch0 _))) (v_nat (n := 1)))) ?_)))) (fun h => by cases h) fun _ H2 e2 => s_nil ?_)
  · have := hp.len
    rw [decide_eq_true (show xs.length = glen (crowdOf x) + 1 by omega)]
    rfl
  have y2 : (pTup pT).rel H2 v2 xs := (pTup pT).mono e2.1 y1
  have rk2 := (pD w kT pN).mono e2.1 rk
  have rf2 := (pD w kT pN).mono e2.1 rf
  refine s_cons (s_forX (imPair imT imT) e2.2 [] (fun _ _ σ' H' => ∃ o4 o5, σ' = [some v, some v2, some vk, some vf, o4, o5] ∧ Ex T H2 H') rfl rfl (pg_tup rfl (pgs_cons (pg_name (i := 4) scShowsPlay.nd rfl (.inl rfl)) (pgs_cons (pg_name (i := 5) scShowsPlay.nd rfl (.inl rfl)) pgs_nil))) (i_zip B imT imT (v_v 1 y2) (v_tail (v_v 1 y2) hne)) (fun _ _ _ _ _ => by simp) (fun _ _ _ e => ⟨none, none, rfl, e⟩) (fun _ _ _ _ _ _ ⟨o4, o5, e, h⟩ e' => ⟨o4, o5, e, h.trans e'⟩) ?_ ?_)
  · rintro zs i ⟨a, b⟩ u σ' H' pzs hx e' ⟨o4, o5, rfl, eH⟩ ru
    obtain ⟨u1, u2, r1, r2, hb⟩ := bnd_pair (K := K) (i := 4) (j := 5) (σ := [some v, some v2, some vk, some vf, o4, o5]) ru
    refine ⟨_, hb, fun N hN => ?_⟩
    have hm : (a, b) ∈ xs.zip xs.tail := by rw [← show zs = _ from pzs]; exact List.mem_of_getElem? hx
    obtain ⟨hn, hg, hw⟩ := hp.step (a, b) hm
    have hRa : Rch (crowdOf x) a := hp.mem a (List.of_mem_zip hm).1
    have hRb : Rch (crowdOf x) b := hp.mem b (List.mem_of_mem_tail (List.of_mem_zip hm).2)
    have rk3 := (pD w kT pN).mono eH.1 rk2
    have rf3 := (pD w kT pN).mono eH.1 rf2
    refine s_cons (s_if e'.tabs (bx := false) (t_w (w_or (bx := false) (bz := false) (t_w ?_) fun _ => w_or1 (t_c (c_is (c_neN (v_getD (k := kT) (r := pN) (un hr 9) (v_v 3 rf3) (v_v 5 r2) (dl.val b hRb)) (v_subN (v_getD (k := kT) (r := pN) (un hr 9) (v_v 3 rf3) (v_v 4 r1) (dl.val a hRa)) (v_nat (n := 1)) (show 1 ≤ glen a from by have hg : glen b + 1 = glen a := hg; omega))) ?_)))) (fun h => by cases h) fun _ H3 e3 => s_nil (s_nil (hN _ _ e3.toM ⟨_, _, rfl, eH.trans e3⟩)))
    · refine et_is (w_and (bx := decide (0 < worth a)) (bz := false) (t_c (c_gtN (n := 0) (v_getD (k := kT) (r := pN) (un hr 9) (v_v 2 rk3) (v_v 4 r1) (dw.val a hRa)) (v_nat (n := 0)))) fun h => w_and1 (t_c (c_is (c_gtN (n := 0) (v_getD (k := kT) (r := pN) (un hr 9) (v_v 2 rk3) (v_v 5 r2) (dw.val b hRb)) (v_nat (n := 0))) ?_))) (Bool.and_false _)
      have := hw (of_decide_eq_true h)
      exact decide_eq_false (by have h' : worth b = 0 := this; omega)
    · have hg : glen b + 1 = glen a := hg
      rw [decide_eq_true (show glen b = glen a - 1 by omega)]
      rfl
  · rintro zs σ' H' pzs e' ⟨o4, o5, rfl, eH⟩
    exact s_cons (s_ret e'.tabs (r := pB) (P := is true) v_bl fun u z H3 e3 rl pz => k u z H3 ((e0.trans e1).trans ((e2.trans eH).trans e3)) rl pz)
end
end LT
/-! ## LtOrd -/
set_option Elab.async false
set_option linter.all false
set_option maxRecDepth 100000
set_option maxHeartbeats 4000000
namespace LT
open PySem PySem.W PySem.Spec PyProof.Rows L2 LamX

/-- two sorted lists of the same things are the same -/
theorem sorted_uniq {α : Type} {le : α → α → Bool} (anti : ∀ a b, le a b = true → le b a = true → a = b) : ∀ {l m : List α}, l.Perm m → l.Pairwise (fun a b => le a b = true) → m.Pairwise (fun a b => le a b = true) → l = m
  | [], m, p, _, _ => p.nil_eq
  | a :: l, [], p, _, _ => absurd p.symm.nil_eq (by simp)
  | a :: l, b :: m, p, h1, h2 => by
    rw [List.pairwise_cons] at h1 h2
    have e : a = b := by
      have ha : a ∈ b :: m := p.mem_iff.mp List.mem_cons_self
      have hb : b ∈ a :: l := p.mem_iff.mpr List.mem_cons_self
      rcases List.mem_cons.mp ha with e | ha
      · exact e
      · rcases List.mem_cons.mp hb with e | hb
        · exact e.symm
        · exact anti a b (h1.1 b hb) (h2.1 a ha)
    subst e
    rw [sorted_uniq anti (List.Perm.cons_inv p) h1.2 h2.2]
theorem dataLe_I : dataLe false PyData.int = fun a b : Int => decide (a ≤ b) := dataLe_int id
theorem sort_ints {l m : List Int} (p : l.Perm m) (h : m.Pairwise fun a b => a ≤ b) : l.mergeSort (dataLe false PyData.int) = m := by
  rw [dataLe_I]
  refine sorted_uniq (le := fun a b : Int => decide (a ≤ b)) (fun a b h1 h2 => ?_) ((List.mergeSort_perm _ _).trans p) (List.pairwise_mergeSort (fun a b c h1 h2 => ?_) (fun a b => ?_) _) (h.imp fun h => decide_eq_true h)
  · have := of_decide_eq_true h1
    have := of_decide_eq_true h2
    omega
  · have := of_decide_eq_true h1
    have := of_decide_eq_true h2
    exact decide_eq_true (by omega)
  · rcases Int.le_total a b with h | h
    · simp [h]
    · simp [h]
/-! the order of the rows, of the tables -/
theorem leq_total (O : KeyOrd) {α : Type} (k : α → O.α) : True := trivial
end LT
/-! ## LtD13 -/
set_option Elab.async false
set_option linter.all false
set_option maxRecDepth 100000
set_option maxHeartbeats 8000000
namespace LT
open PySem PySem.W PySem.Spec PyProof.Rows L2 LamX

section
variable {P : Program} {w : World} {K : PySem.W.Frag} {mg : Str → Option Value} {base : Heap} {T : List (Addr × Str)} {f : Addr} {fd : FuncData} {k : Nat}
/-- the numbers below n from the highest down -/
def downs (n : Nat) : List Nat := (List.range n).reverse
theorem downs_len (n : Nat) : (downs n).length = n := by unfold downs; rw [List.length_reverse, List.length_range]
theorem downs_mem {n i : Nat} : i ∈ downs n ↔ i < n := by unfold downs; rw [List.mem_reverse, List.mem_range]
theorem sort_downs (n : Nat) : ((downs n).map fun i : Nat => (i : Int)).mergeSort (dataLe false PyData.int) = (List.range n).map fun i : Nat => (i : Int) := by
  refine sort_ints (List.Perm.map _ (List.reverse_perm _)) ?_
  rw [List.pairwise_map]
  exact (List.pairwise_lt_range (n := n)).imp fun h => by omega
theorem eqv_ints (xs : List Int) : PyData.eqv (.list (xs.map PyData.int)) (.list (xs.map PyData.int)) = true := by
  have h := eqv_map eqv_I xs xs
  rw [decide_eq_true rfl] at h
  simpa [PyData.eqv] using h
theorem f_listRgI {X : Cx} {a : Expr} {σ : L2.St} {H : Hp} {pos p p2 p3 : Pos} {n : Nat} (hc : X.calm = true) (B : Blt X.mg) (ha : VE X T a pN σ H (is n)) (hn : n ≤ 1000) (hg : Gl X "list" := by rfl) (hg' : Gl X "range" := by rfl) (na : starEach [a] X.env = (false, eval a X.env) :: starEach [] X.env := by rfl)
    (na' : starEach [.Call (.Name "range" p2) [a] [] p3] X.env = (false, eval (.Call (.Name "range" p2) [a] [] p3) X.env) :: starEach [] X.env := by rfl) : VE X T (.Call (.Name "list" p) [.Call (.Name "range" p2) [a] [] p3] [] pos) (pLst pI) σ H (is ((List.range n).map fun i : Nat => (i : Int))) :=
  Ev.as (fun ns : List Nat => ns.map fun n : Nat => (n : Int)) (EvF.ev (f_listRg hc B ha hn hg hg' na na')) fun H v x ⟨q, vs, ev, h1, h2⟩ px => ⟨⟨q, vs, ev, h1, Paired.pow (f := fun n : Nat => (n : Int)) (G := pI.rel H) (fun _ _ z => z) h2⟩, by rw [show x = List.range n from px]⟩
abbrev pIsOrder (T : List (Addr × Str)) : Sp := SpG T (a2 (pTup pN) pN) (fun y => y.1 = downs y.2.1 ∧ y.2.1 ≤ 6) pB (fun _ b => b = true)
theorem scIsOrder : FnScope ["value", "many", "told"] ["value", "many"] (defScope s_is_order) := ⟨rfl, rfl, rfl, by decide +kernel, rfl, by decide +kernel, by decide +kernel⟩
theorem f_is_order {j j2 : Nat} (B : Blt mg) (Ct : Cal P w K mg base "tuple_of" ["value", "low", "high"] j (pTupleOf pN T)) (Cw : Cal P w K mg base "whole" ["value"] j2 (pWhole T)) (hj : j ≤ k) (hj2 : j2 ≤ k) (F : FnP K "is_order" s_is_order f fd) : FnOk P w K mg base CX0 (k + 1) f fd ["value", "many"] (pIsOrder T) := by
  refine fn_ok F scIsOrder len2 fun cdv A outer s H vs Q E ⟨x, n, _⟩ hr ⟨v, ws, ev, h1, v2, ws2, e2, h2, h4⟩ ⟨hx, hn⟩ hT k => ?_
  obtain rfl : ws2 = [] := h4
  subst ev e2
  obtain rfl : x = downs n := hx
  have hn : n ≤ 6 := hn
  have hl := downs_len n
  refine s_cons (s_ret hT (r := pB) (P := is true) (v_and (bx := true) (bz := true) (v_cl Ct (hr.mono hj) (a_c (v_v 0 h1) (a_2 (ev_i (v_v 1 h2)) (ev_i (v_v 1 h2)))) ⟨by show (n : Int) ≤ ((downs n).length : Int); omega, by show ((downs n).length : Int) ≤ (n : Int); omega⟩ fun _ h => h) fun _ => v_and (bx := true) (bz := true) (ev_is (v_all rfl B (v_lc (lc_n (f := fun _ => true) [("told", 2)] 2 imB scIsOrder.nd (blkOk_by (N := ["value", "many", "told"]) (sc := defScope s_is_order) (by decide +kernel)) (tg_name scIsOrder.nd) (i_tup (v_v 0 h1)) (Nat.le_of_lt (small1000 (by show (downs n).length ≤ 1000; omega))) (fun _ => rfl) ?_) rfl scIsOrder.nd)) (by simp)) fun _ => v_one (v_c (c_eqD (fun xs : List Int => .list (xs.map PyData.int)) (fun xs : List Int => .list (xs.map PyData.int)) hr.units (v_sortIntsT rfl (un hr 10) B (v_asI (v_v 0 h1))) (f_listRgI rfl B (v_v 1 h2) (by omega)) ?_ ?_ ?_ ?_ ?_))) k)
  · rintro y hy H1 u e1 ru _ ⟨s', H', C', cl, fp, rfl⟩
    exact v_cl Cw (hr.mono hj2) (a_1 (ev_i (v_v 2 ru))) trivial fun _ h => h
  · exact fun _ _ _ => dp_lst fun _ _ => dpI
  · exact fun _ _ _ => dp_lst fun _ _ => dpI
  · exact shp_l 1 (by decide) (by intro; rfl) (by intro; simp [PyData.depth]) _
  · exact shp_l 1 (by decide) (by intro; rfl) (by intro; simp [PyData.depth]) _
  · rw [sort_downs]
    exact eqv_ints _
end
end LT
/-! ## LtD14 -/
set_option Elab.async false
set_option linter.all false
set_option maxRecDepth 100000
set_option maxHeartbeats 8000000
namespace LT
open PySem PySem.W PySem.Spec PyProof.Rows L2 LamX

section
variable {P : Program} {w : World} {K : PySem.W.Frag} {mg : Str → Option Value} {base : Heap} {T : List (Addr × Str)} {f : Addr} {fd : FuncData} {k : Nat}
abbrev pNeedOrder (T : List (Addr × Str)) : Sp := SpG T (a2 pT (pTup pN)) (fun y => Ok y.1 ∧ y.2.1 = downs y.1.length) pU (fun _ _ => True)
abbrev pNeedGoods (T : List (Addr × Str)) : Sp := SpG T (a2 pT (pTup pN)) (fun y => ∃ g, OkW g y.1 ∧ y.2.1 = downs g) pU (fun _ _ => True)
theorem scNeedOrder : FnScope ["table", "order"] ["table", "order"] (defScope s_need_order) := ⟨rfl, rfl, rfl, by decide +kernel, rfl, by decide +kernel, by decide +kernel⟩
theorem f_need_order {j : Nat} (B : Blt mg) (Co : Cal P w K mg base "is_order" ["value", "many"] j (pIsOrder T)) (hj : j ≤ k) (F : FnP K "need_order" s_need_order f fd) : FnOk P w K mg base CX0 (k + 1) f fd ["table", "order"] (pNeedOrder T) := by
  refine fn_ok F scNeedOrder len2 fun cdv A outer s H vs Q E ⟨x, o, _⟩ hr ⟨v, ws, ev, h1, v2, ws2, e2, h2, h4⟩ ⟨⟨g, hok⟩, ho⟩ hT k => ?_
  obtain rfl : ws2 = [] := h4
  subst ev e2
  have hok : OkW g x := hok
  have l1 := hok.2.1
  obtain rfl : o = downs x.length := ho
  exact s_cons (s_if hT (bx := false) (t_not (bx := true) (t_v (v_cl Co (hr.mono hj) (a_2 (v_v 1 h2) (v_lenT B (v_v 0 h1))) ⟨rfl, by show x.length ≤ 6; omega⟩ fun _ h => h))) (fun h => by cases h) fun _ H1 e1 => s_nil (s_nil (k .non () H1 e1 rfl trivial)))
theorem scNeedGoods : FnScope ["table", "order"] ["table", "order"] (defScope s_need_goods_order) := ⟨rfl, rfl, rfl, by decide +kernel, rfl, by decide +kernel, by decide +kernel⟩
theorem f_need_goods_order {j : Nat} (B : Blt mg) (Co : Cal P w K mg base "is_order" ["value", "many"] j (pIsOrder T)) (hj : j ≤ k) (F : FnP K "need_goods_order" s_need_goods_order f fd) : FnOk P w K mg base CX0 (k + 1) f fd ["table", "order"] (pNeedGoods T) := by
  refine fn_ok F scNeedGoods len2 fun cdv A outer s H vs Q E ⟨x, o, _⟩ hr ⟨v, ws, ev, h1, v2, ws2, e2, h2, h4⟩ ⟨g, hok, ho⟩ hT k => ?_
  obtain rfl : ws2 = [] := h4
  subst ev e2
  have hok : OkW g x := hok
  have l2 := hok.2.2.2.1
  obtain rfl : o = downs g := ho
  obtain ⟨r0, hr0, er0, hm0, hl0⟩ := hok.row hok.pos
  exact s_cons (s_if hT (bx := false) (t_not (bx := true) (t_v (v_cl Co (hr.mono hj) (a_2 (v_v 1 h2) (ev_is (v_lenT B (v_ixT (v_v 0 h1) (v_nat (n := 0)) hr0)) hl0)) ⟨rfl, by show g ≤ 6; omega⟩ fun _ h => h))) (fun h => by cases h) fun _ H1 e1 => s_nil (s_nil (k .non () H1 e1 rfl trivial)))
def goodsBy (t : Tbl) (o : List Nat) : Tbl := t.map fun r => o.map fun i => r.getD i 0
def peopleBy (t : Tbl) (o : List Nat) : Tbl := o.map fun i => t.getD i []
abbrev pGoodsIn (T : List (Addr × Str)) : Sp := SpG T (a2 pT (pTup pN)) (fun y => ∃ g, OkW g y.1 ∧ y.2.1 = downs g) pT (fun y z => z = goodsBy y.1 y.2.1)
abbrev pPeopleIn (T : List (Addr × Str)) : Sp := SpG T (a2 pT (pTup pN)) (fun y => Ok y.1 ∧ y.2.1 = downs y.1.length) pT (fun y z => z = peopleBy y.1 y.2.1)
theorem scGoodsIn : FnScope ["table", "order", "row", "good"] ["table", "order"] (defScope s_goods_in_order) := ⟨rfl, rfl, rfl, by decide +kernel, rfl, by decide +kernel, by decide +kernel⟩
theorem f_goods_in {j j2 : Nat} (B : Blt mg) (Cn : Cal P w K mg base "need_table" ["table"] j (pNeedTable T)) (Cg : Cal P w K mg base "need_goods_order" ["table", "order"] j2 (pNeedGoods T)) (hj : j ≤ k) (hj2 : j2 ≤ k) (F : FnP K "goods_in_order" s_goods_in_order f fd) : FnOk P w K mg base CX0 (k + 1) f fd ["table", "order"] (pGoodsIn T) := by
  refine fn_ok F scGoodsIn len2 fun cdv A outer s H vs Q E ⟨x, o, _⟩ hr ⟨v, ws, ev, h1, v2, ws2, e2, h2, h4⟩ ⟨g, hok, ho⟩ hT k => ?_
  obtain rfl : ws2 = [] := h4
  subst ev e2
  have hok : OkW g x := hok
  have l1 := hok.2.1
  have l2 := hok.2.2.2.1
  obtain rfl : o = downs g := ho
  refine s_cons (s_drop hT (r := pU) (P := fun _ => True) (v_cl Cn (hr.mono hj) (a_1 (v_v 0 h1)) ⟨g, hok⟩ fun _ h => h) fun _ _ H1 e1 _ _ => ?_)
  refine s_cons (s_drop e1.2 (r := pU) (P := fun _ => True) (v_cl Cg (hr.mono hj2) (a_2 (v_v 0 (pT.mono e1.1 h1)) (v_v 1 ((pTup pN).mono e1.1 h2))) ⟨g, hok, rfl⟩ fun _ h => h) fun _ _ H2 e2 _ _ => ?_)
  have x2 : pT.rel H2 v x := pT.mono (e1.trans e2).1 h1
  have o2 : (pTup pN).rel H2 v2 (downs g) := (pTup pN).mono (e1.trans e2).1 h2
  refine s_cons (s_ret e2.2 (r := pT) (P := is (goodsBy x (downs g))) (ev_is (v_tup B (v_lc (lc_n (f := fun r : Row => (downs g).map fun i => r.getD i 0) [("row", 2)] 2 imR scGoodsIn.nd (blkOk_by (N := ["table", "order", "row", "good"]) (sc := defScope s_goods_in_order) (by decide +kernel)) (tg_name scGoodsIn.nd) (i_tup (v_v 0 x2)) (Nat.le_of_lt (small1000 (by show x.length ≤ 1000; omega))) (fun _ => rfl) ?_) rfl scGoodsIn.nd)) ?_) fun u z H3 e3 rl pz => k u z H3 ((e1.trans e2).trans e3) rl pz)
  · rintro r hrm H3 u e3 ru _ ⟨s', H', C', cl, fp, rfl⟩
    have hlr : r.length = g := (hok.2.2.2.2 r hrm).1
    refine v_tup B (ev_is (v_lc (lc_n (f := fun i : Nat => r.getD i 0) [("good", 3)] 3 imI scGoodsIn.nd (blkOk_by (N := ["table", "order", "row", "good"]) (sc := relS _ (defScope s_goods_in_order)) (by decide +kernel)) (tg_name scGoodsIn.nd) (i_tup (v_v 1 ((pTup pN).mono e3.1 o2))) ?_ (fun _ => rfl) ?_) rfl scGoodsIn.nd) ?_)
    · exact Nat.le_of_lt (small1000 (by rw [downs_len]; omega))
    · rintro i hi H4 u2 e4 ru2 _ ⟨s2, H2', C2, cl2, fp2, rfl⟩
      have hi := downs_mem.mp hi
      exact v_ixT (v_v 2 (pR.mono e4.1 ru)) (v_v 3 ru2) (by rw [List.getD_eq_getElem?_getD, List.getElem?_eq_getElem (by omega)]; rfl)
    · simp
  · simp [goodsBy]
theorem scPeopleIn : FnScope ["table", "order", "person"] ["table", "order"] (defScope s_people_in_order) := ⟨rfl, rfl, rfl, by decide +kernel, rfl, by decide +kernel, by decide +kernel⟩
theorem f_people_in {j j2 : Nat} (B : Blt mg) (Cn : Cal P w K mg base "need_table" ["table"] j (pNeedTable T)) (Cg : Cal P w K mg base "need_order" ["table", "order"] j2 (pNeedOrder T)) (hj : j ≤ k) (hj2 : j2 ≤ k) (F : FnP K "people_in_order" s_people_in_order f fd) : FnOk P w K mg base CX0 (k + 1) f fd ["table", "order"] (pPeopleIn T) := by
  refine fn_ok F scPeopleIn len2 fun cdv A outer s H vs Q E ⟨x, o, _⟩ hr ⟨v, ws, ev, h1, v2, ws2, e2, h2, h4⟩ ⟨⟨g, hok⟩, ho⟩ hT k => ?_
  obtain rfl : ws2 = [] := h4
  subst ev e2
  have hok : OkW g x := hok
  have l1 := hok.2.1
  obtain rfl : o = downs x.length := ho
  refine s_cons (s_drop hT (r := pU) (P := fun _ => True) (v_cl Cn (hr.mono hj) (a_1 (v_v 0 h1)) ⟨g, hok⟩ fun _ h => h) fun _ _ H1 e1 _ _ => ?_)
  refine s_cons (s_drop e1.2 (r := pU) (P := fun _ => True) (v_cl Cg (hr.mono hj2) (a_2 (v_v 0 (pT.mono e1.1 h1)) (v_v 1 ((pTup pN).mono e1.1 h2))) ⟨⟨g, hok⟩, rfl⟩ fun _ h => h) fun _ _ H2 e2 _ _ => ?_)
  have x2 : pT.rel H2 v x := pT.mono (e1.trans e2).1 h1
  have o2 : (pTup pN).rel H2 v2 (downs x.length) := (pTup pN).mono (e1.trans e2).1 h2
  refine s_cons (s_ret e2.2 (r := pT) (P := is (peopleBy x (downs x.length))) (ev_is (v_tup B (v_lc (lc_n (f := fun i : Nat => x.getD i []) [("person", 2)] 2 imR scPeopleIn.nd (blkOk_by (N := ["table", "order", "person"]) (sc := defScope s_people_in_order) (by decide +kernel)) (tg_name scPeopleIn.nd) (i_tup (v_v 1 o2)) (Nat.le_of_lt (small1000 (by show (downs x.length).length ≤ 1000; rw [downs_len]; omega))) (fun _ => rfl) ?_) rfl scPeopleIn.nd)) ?_) fun u z H3 e3 rl pz => k u z H3 ((e1.trans e2).trans e3) rl pz)
  · rintro i hi H3 u e3 ru _ ⟨s', H', C', cl, fp, rfl⟩
    have hi := downs_mem.mp hi
    exact v_ixT (v_v 0 (pT.mono e3.1 x2)) (v_v 2 ru) (by rw [List.getD_eq_getElem?_getD, List.getElem?_eq_getElem (by omega)]; rfl)
  · simp [peopleBy]
end
end LT
/-! ## LtItems -/
set_option Elab.async false
set_option linter.all false
set_option maxRecDepth 100000
set_option maxHeartbeats 4000000
namespace LT
open PySem PySem.W PySem.Spec PyProof.Rows L2 LamX

/-! ### a raw dict that is no more written: its items, its values' sum, d != {} -/
section
variable {α β : Type} [DecidableEq α]
def frAt (w : World) (k : KRp α) (r : Rp β) (H : Hp) (d : Addr) (kvs : List (α × β)) : Prop := ∃ o ks, H d = some (.frz o (rawD w d ks)) ∧ Paired (N3 k r H) ks kvs
theorem frAt.ext {w : World} {k : KRp α} {r : Rp β} {H H' : Hp} {d : Addr} {kvs : List (α × β)} (e : ExtN H H') (h : frAt w k r H d kvs) : frAt w k r H' d kvs := by
  obtain ⟨o, ks, h1, h2⟩ := h
  exact ⟨o, ks, e _ _ h1 (Soft.frd o w d ks).ntbl, paired_imp (fun _ _ z => ⟨z.1, k.p.mono e z.2.1, r.mono e z.2.2⟩) h2⟩
def pDF (w : World) (k : KRp α) (r : Rp β) : Rp (List (α × β)) := ⟨fun H v kvs => ∃ d, v = .ref d ∧ frAt w k r H d kvs, fun e h => by
  obtain ⟨d, h1, h2⟩ := h
  exact ⟨d, h1, h2.ext e⟩⟩
end
section
variable {X : Cx} {pins : List (Addr × Obj)} {σ : L2.St} {H : Hp} {s : Shared} {d : Addr} {o : Obj} {ks : List (NestedKey × Addr × V)}
theorem fr_open (I : Inv X pins σ H s) (h : H d = some (.frz o (rawD X.w d ks))) : ∃ (es : Array DictEntry) (ep : Nat), s.heap.get? d = some o ∧ o.ExactDict ∧ o.data = .dict es ep ∧ (d == sysModules) = false ∧ es.size = ks.length ∧ ks.length ≤ sizeLine ∧
    ∀ i (hi : i < es.size), ∃ q, ks[i]? = some q ∧ es[i].key = .ref q.2.1 ∧ RelV q.2.2 es[i].val := by
  obtain ⟨hg, ⟨xs, o', es, ep, p, ho, hc, hd, he, hs, hn, hz⟩, _, _⟩ := I.hok d _ h
  rw [hg] at ho
  cases ho
  have he : es.toList = xs.map (entryOfKey (nestedKind X.prog X.w)) := he
  have hsz : es.size = xs.length := size_of_entries he
  have hl : ks.length = xs.length := p.length
  refine ⟨es, ep, hg, hc, hd, hs, hsz.trans hl.symm, by rw [hl]; exact hz, fun i hi => ?_⟩
  have hx : i < xs.length := hsz ▸ hi
  have e := entry_at he i
  rw [Array.getElem?_eq_getElem hi, List.getElem?_eq_getElem hx, Option.map_some] at e
  have e' := Option.some.inj e
  obtain ⟨q, hq, sk⟩ := Paired.at1 p (List.getElem?_eq_getElem hx)
  exact ⟨q, hq, by rw [e', sk.2.1]; rfl, by rw [e']; exact sk.2.2⟩
end
def ItR (w : World) (d : Addr) (o : Obj) (ks : List (NestedKey × Addr × V)) : It :=
  ⟨fun i H => H d = some (.frz o (rawD w d ks)) ∧ i < ks.length, fun i H v H' => ∃ T q, ks[i]? = some q ∧ v = .ref T ∧ H T = none ∧ H' = upd H T (.tup [.ref q.2.1, q.2.2]), fun i H => H d = some (.frz o (rawD w d ks)) ∧ ks.length ≤ i⟩
theorem turn_itemsR {P : Program} {w : World} {K : PySem.W.Frag} {d : Addr} {o : Obj} {ks : List (NestedKey × Addr × V)} {es : Array DictEntry} {ep : Nat} {elts : List Expr} {kk : Nat} {tpos : Pos} (it : Addr) (hod : o.data = .dict es ep) :
    Turn P w K (.Tuple elts kk tpos) (ItR w d o ks) [it] it (fun i h => ∃ ok ov, IsItemIter h it d i ks.length ep ok ov) where
  mem := by simp
  obj := fun i h st b hb => by
    have e : b = it := by simpa using hb
    subst e
    obtain ⟨ok, ov, e⟩ := st
    exact ⟨_, e, fun v z => nomatch z⟩
  keep := fun i h h' st k => let ⟨ok, ov, e⟩ := st; ⟨ok, ov, k it (by simp) _ e⟩
  item := by
    intro X hP hw hK hc i pins s σ H E I hf st hg
    subst hP hw hK
    obtain ⟨hd, hi⟩ := hg
    obtain ⟨es', ep', hgd, hx, hdt, hs, hsz, hz, ent⟩ := fr_open I hd
    rw [hod] at hdt
    cases hdt
    obtain ⟨ok, ov, he⟩ := st
    rw [← hsz] at he
    have hi' : i < es.size := hsz ▸ hi
    have hlt : it < s.heap.objs.size := Heap.lt_size he
    obtain ⟨q, hq, ek, ev⟩ := ent i hi'
    refine wpAny_pyNext_items_item_raw he ⟨o, hgd, hx, hod⟩ hi' fun h' ho hT hz' hk => ?_
    refine ⟨_, rfl, wpAny_letOwnedTupleGo_items (s := { s with heap := h' }) ho fun h'' he' sb => ?_⟩
    have hT2 : h''.get? s.heap.objs.size = some { cls := .type "tuple", data := .seq #[es[i].key, es[i].val] } := (sb.2 _ (Nat.ne_of_gt hlt)).trans hT
    have new : ObjOk X.prog X.w (upd H s.heap.objs.size (.tup [.ref q.2.1, q.2.2])) h'' s.heap.objs.size (.tup [.ref q.2.1, q.2.2]) :=
      ⟨by show 2 ≤ sizeLine; decide, [es[i].key, es[i].val], .cons (show RelV (.ref q.2.1) es[i].key from ek) (.cons ev .nil), ⟨_, hT2, rfl, _, rfl⟩⟩
    have I1 : Inv X pins σ (upd H s.heap.objs.size (.tup [.ref q.2.1, q.2.2])) { s with heap := h'' } :=
      I.turnedNew (t' := s.toks) (ch := [it]) (fun b ob hb e => (sb.2 b (by simpa using hb)).trans (hk b ob (by simpa using hb) e)) hf (Nat.le_refl _) new
    refine ⟨.ref s.heap.objs.size, _, I1, rfl, ⟨_, q, hq, rfl, I.hok.fresh (Nat.le_refl _), rfl⟩, ⟨es[i].key, es[i].val, ?_⟩, fun b hb => ?_⟩
    · rw [← hsz]; exact he'
    · have e : b = it := by simpa using hb
      rw [e, upd_ne (Nat.ne_of_lt hlt)]
      exact (hf it (by simp)).1
  done := by
    intro X hP hw hK hc i pins s σ H E I hf st hg
    subst hP hw hK
    obtain ⟨hd, hi⟩ := hg
    obtain ⟨f0, f1, f2, f3, f4, f5⟩ := hf it (by simp)
    obtain ⟨es', ep', hgd, hx, hdt, hs, hsz, hz, ent⟩ := fr_open I hd
    rw [hod] at hdt
    cases hdt
    obtain ⟨ok, ov, he⟩ := st
    rw [← hsz] at he
    exact wpAny_pyNext_items_end_raw (I.ok.hd hc) he ⟨o, hgd, hx, hod⟩ (by omega) fun h' eb => ⟨rfl, I.turned (t' := s.toks) (fun b ob hb e => eb b ob hb e) f0 f1 f3 f4 f5⟩
  self := fun A i s Q E st h => let ⟨_, _, e⟩ := st; PySem.W.kcp_self e h
def iItemsR (w : World) (td : TE) : TI := fun σ H R => td σ H fun x H1 => ∃ d o ks, x = .ref d ∧ H1 d = some (.frz o (rawD w d ks)) ∧ R (ItR w d o ks) H1
theorem pi_itemsR {X : Cx} {e : Expr} {td : TE} {apos cpos : Pos} {elts : List Expr} {kk : Nat} {tpos : Pos} (he : PE X e td) (hbase : attributeBase e "items" X.env (eval e X.env) = eval e X.env := by rfl) (hline : (apos.endLine == cpos.line) = true := by rfl) :
    PI X (.Tuple elts kk tpos) (.Call (.Attribute e "items" apos) [] [] cpos) (iItemsR X.w td) := by
  refine ⟨fun pins s σ H R I h => ?_⟩
  refine wpAny_Call_method (T := "dict") (id := "dict.items") hbase rfl hline PySem.F.plainAttrs_dict PySem.F.slot_dict_items PySem.F.type_dict_items (thn (he.run pins s σ H _ I h) fun u s1 ⟨x, H1, I1, rx, d, o, ks, ex, hd, q⟩ => ?_)
  subst ex
  obtain rfl : u = Value.ref d := rx
  obtain ⟨es, ep, hgd, hx, hdt, hs, hsz, hz, ent⟩ := fr_open I1 hd
  have raw : s1.heap.DictRaw d es ep := ⟨o, hgd, hx, hdt⟩
  refine ⟨raw.typeIs, fun b q => by cases q; exact ⟨o, hgd, hx.2.1⟩, ?_⟩
  have I2 : Inv X pins σ H1 { s1 with heap := s1.heap.push { cls := .type "dict_items", data := .fields #[.ref d] } } := I1.kept (t' := s1.toks) fun b ob q => Heap.get?_push_of_some _ q
  have fin : wpAny (model X.prog X.w) X.A (pyIter (.ref s1.heap.objs.size)) (PIE X pins σ (.Tuple elts kk tpos) R) X.xe { s1 with heap := s1.heap.push { cls := .type "dict_items", data := .fields #[.ref d] } } := by
    refine wpAny_pyIter_items_raw (d := d) ⟨_, Heap.get?_push_size _ rfl, rfl, rfl⟩ (raw.at fun ob q => Heap.get?_push_of_some _ q) (pi_one (tk := s1.toks) I2 _ (turn_itemsR _ hdt) ⟨.none, .none, ?_⟩ q)
    rw [← hsz]
    exact Heap.get?_push_size _ rfl
  show wpAny _ _ (callWith cpos (.builtin "dict.items") [.ref d] [] []) _ X.xe s1
  exact method_meetsIn PySem.F.slot_dict_items PySem.F.entry_dict_items rfl (PySem.evalArgs_none ⟨rfl, raw.typeIs, PySem.F.args_dict_items_1 _, _, meets_dict_items_raw d hs, ⟨⟨es, ep, raw⟩, fin⟩⟩)
/-- the source is a frozen dict -/
abbrev FrO (o : Option (Addr × HO)) : Prop := ∃ d ob w ks, o = some (d, HO.frz ob (rawD w d ks))
section
variable {α β : Type} [DecidableEq α] {X : Cx} {T : List (Addr × Str)} {k : KRp α} {r : Rp β} {σ : L2.St} {H : Hp} {e : Expr} {P : List (α × β) → Prop} {apos cpos : Pos} {elts : List Expr} {kk : Nat} {tpos : Pos}
theorem iv_itemsR {w : World} {te : TE} (ir : Imm r) (h : Ev T (pDF w k r) te σ H P) : Iv T (pPair k.p r) (iItemsR w te) σ H P FrO := fun H1 e R kk => h H1 e _ fun v kvs H2 e2 rl p => by
  obtain ⟨d, rfl, o, ks, h1, h2⟩ := rl
  refine ⟨d, o, ks, rfl, h1, kk _ H2 kvs (some (d, .frz o (rawD w d ks))) p ⟨d, o, w, ks, rfl⟩ e2 (fun q hq => by cases hq; exact ⟨h1, .frd _ _ _ _⟩) fun H3 g t i => ?_⟩
  have h3 : H3 d = some (.frz o (rawD w d ks)) := g.src _ rfl
  refine ⟨fun hi => ⟨⟨h3, by rw [h2.length]; exact hi⟩, fun x H4 ⟨A, q, hq, ex, hA, e4⟩ => ?_⟩, fun hi => ⟨h3, by rw [h2.length]; exact hi⟩⟩
  subst e4 ex
  obtain ⟨y, hy, n3⟩ := Paired.at2 h2 hq
  have eN : TupE H2 (upd H3 A (.tup [.ref q.2.1, q.2.2])) := g.tup.trans (TupE.new hA)
  exact ⟨Ex.new t hA, y, hy, A, _, _, rfl, upd_same, k.imm eN n3.2.1, ir eN n3.2.2⟩
theorem i_items (ir : Imm r) (ha : VE X T e (pDF X.w k r) σ H P) (hbase : attributeBase e "items" X.env (eval e X.env) = eval e X.env := by rfl) (hline : (apos.endLine == cpos.line) = true := by rfl) :
    VI X T (.Tuple elts kk tpos) (.Call (.Attribute e "items" apos) [] [] cpos) (pPair k.p r) σ H P FrO := vi_of (pi_itemsR pe_o hbase hline) (iv_itemsR ir ha)
end
end LT
/-! ## LtItems2 -/
set_option Elab.async false
set_option linter.all false
set_option maxRecDepth 100000
set_option maxHeartbeats 4000000
namespace LT
open PySem PySem.W PySem.Spec PyProof.Rows L2 LamX

/-! ### sum(d.values()) -/
theorem sum_src {prog : Program} {w : World} {A : Around} {E : Value → Shared → Prop} {s : Shared} {T : String} {r d : Addr} {n : Nat} {P : Nat → Value → Prop} {OK : Heap → Prop} {Q : Value → Shared → Prop} (K : KdlSrc prog w T r d n P OK) (hh : A.handled = none) (hok : OK s.heap) (val : Nat → Int) (hval : ∀ (i : Nat) (v : Value), P i v → ∃ t : Tok, v = Value.int (val i) t)
    (h : ∀ (h' : Heap) (tk : Nat) (t' : Tok), (∀ b o, s.heap.get? b = some o → h'.get? b = some o) → Q (.int (preSum val n) t') { s with heap := h', toks := tk }) :
    wpAny (model prog w) A (call (.builtin "sum") [.ref r]) Q E s := by
  refine call_sum_walkAnyS ?_
  obtain ⟨oI, St, hit, W, st⟩ := K.iter A.in1 s hh hok
  refine hit _ _ ⟨s.heap.objs.size, _, _, _, n, P, _, val, rfl, W.toS, st, fun b hb => ?_, hval, fun s' t' hm => ?_⟩
  · show b < (s.heap.push oI).objs.size
    rw [size_push']
    rcases List.mem_cons.mp hb with e | hb
    · rw [e]; exact Nat.lt_succ_self _
    · rw [List.mem_singleton.mp hb]; exact Nat.lt_succ_of_lt (K.there _ hok).2
  · have hk : ∀ b o, s.heap.get? b = some o → s'.heap.get? b = some o := fun b o e =>
      hm.heap b o (fun hI => absurd (Heap.lt_size e) (by rw [List.mem_singleton.mp hI]; exact Nat.lt_irrefl _)) (Heap.get?_push_of_some _ e)
    rw [Moved.eq_with hm]
    exact h s'.heap s'.toks t' hk
theorem meets_values_raw {prog : Program} {w : World} (d : Addr) (hd : (d == sysModules) = false) :
    MeetsIn prog w (Builtin.«dict.values» ⟨[.ref d], []⟩) (fun _ R s => (∃ es ep, s.heap.DictRaw d es ep) ∧
      R (.ok (.ret (.ref s.heap.objs.size))) { s with heap := s.heap.push { cls := .type "dict_values", data := .fields #[.ref d] } }) :=
  .of_wp fun A R s ⟨⟨es, ep, hm⟩, h⟩ => by
    unfold Builtin.«dict.values»
    refine wpAny_bind ?_
    unfold Builtin.Dict.noArgs
    refine wpAny_bind (wpAny_notOrdered_dict hm.typeIs ?_)
    show wpAny _ _ (pure d) _ _ s
    refine wpAny_pure ?_
    show wpAny _ _ (Builtin.Dict.showsAll d >>= _) _ _ s
    unfold Builtin.Dict.showsAll
    rw [if_neg (by rw [hd]; exact Bool.false_ne_true)]
    refine wpAny_bind (wpAny_pure ?_)
    exact wpAny_bind (wpAny_newObj_type (wpAny_pure ⟨_, rfl, h⟩))
def tSumVals (w : World) (td : TE) : TE := fun σ H Q => td σ H fun x H1 => ∃ (d : Addr) (ob : Obj) (ks : List (NestedKey × Addr × V)) (ns : List Int), x = V.ref d ∧ H1 d = some (.frz ob (rawD w d ks)) ∧ ks.map (·.2.2) = ns.map V.int ∧ Q (.int ns.sum) H1
section
variable {X : Cx} {o : Expr} {p pos apos mpos : Pos} {td : TE}
theorem pe_sumVals (hc : X.calm = true) (hg : Gl X "sum") (hm : X.mg "sum" = none) (hd : PE X o td) (hbase : attributeBase o "values" X.env (eval o X.env) = eval o X.env := by rfl) (hline : (apos.endLine == mpos.line) = true := by rfl)
    (hse : starEach [Expr.Call (.Attribute o "values" apos) [] [] mpos] X.env = [(false, eval (Expr.Call (.Attribute o "values" apos) [] [] mpos) X.env)] := by rfl) :
    PE X (.Call (.Name "sum" p) [.Call (.Attribute o "values" apos) [] [] mpos] [] pos) (tSumVals X.w td) := by
  refine ⟨fun pins s σ H Q I h => ?_⟩
  refine wpAny_Call_Name_kw (ld_blt I hg hm (u := .builtin "sum") (by first | rfl | decide +kernel) ?_ (by first | decide +kernel | decide) (by first | decide +kernel | decide))
  rw [hse]
  refine PySem.callWith_builtin1 (wpAny_Call_method0_late hbase hline (thn (hd.run pins s σ H _ I h) fun v s1 ⟨x, H1, I1, r1, d, ob, ks, ns, ex, ha, hv, q⟩ => ?_))
  subst ex
  obtain rfl : v = Value.ref d := r1
  obtain ⟨es, ep, hgd, hx, hdt, hsys, hsz, hz, ent⟩ := fr_open I1 ha
  have raw : s1.heap.DictRaw d es ep := ⟨ob, hgd, hx, hdt⟩
  refine ⟨"dict", "dict.values", PySem.F.plainAttrs_dict, PySem.F.slot_dict_values, PySem.F.type_dict_values, raw.typeIs, fun b e => by cases e; exact ⟨ob, hgd, hx.2.1⟩, Calls.callWith_builtin rfl (PySem.evalArgs_none ?_)⟩
  refine call_meetsIn PySem.F.slot_dict_values raw.typeIs PySem.F.entry_dict_values (PySem.F.args_dict_values_1 _) (meets_values_raw d hsys) ⟨⟨es, ep, raw⟩, ?_⟩
  have hlen : es.size = ns.length := by
    have e1 := congrArg List.length hv
    rw [List.length_map, List.length_map] at e1
    rw [hsz, e1]
  refine sum_src (KdlSrc.rawValues (es := es) (ep := ep)) (I.ok.hd hc) ⟨⟨_, Heap.get?_push_size _ rfl, rfl, rfl⟩, raw.at fun ob q => Heap.get?_push_of_some _ q⟩ (fun i => ns.getD i 0) (fun i v ⟨hi, e⟩ => ?_) fun h' tk t' hk => ?_
  · obtain ⟨y, hy, _, rv⟩ := ent i hi
    have e1 : (ks.map (·.2.2))[i]? = some y.2.2 := by rw [List.getElem?_map, hy]; rfl
    rw [hv, List.getElem?_map] at e1
    obtain ⟨j, hj, e2⟩ := Option.map_eq_some_iff.mp e1
    rw [← e2] at rv
    obtain ⟨t, e3⟩ := rv
    exact ⟨t, by rw [e, e3, List.getD_eq_getElem?_getD, hj]; rfl⟩
  · refine ⟨.int ns.sum, H1, I1.kept (t' := tk) fun b u e => hk b u (Heap.get?_push_of_some _ e), ⟨t', ?_⟩, q⟩
    rw [preSum_getD, hlen, List.take_length]
end
theorem n3_vals {α : Type} [DecidableEq α] {k : KRp α} {H : Hp} : ∀ {ks : List (NestedKey × Addr × V)} {kv : List (α × Nat)}, Paired (N3 k pN H) ks kv → ks.map (·.2.2) = (kv.map fun p => (p.2 : Int)).map V.int
  | _, _, .nil => rfl
  | _, _, .cons (a := a) (b := b) q t => by
    rw [List.map_cons, List.map_cons, List.map_cons, n3_vals t, show a.2.2 = V.int (b.2 : Int) from q.2.2]
theorem sum_nats {α : Type} : ∀ kv : List (α × Nat), (kv.map fun p => (p.2 : Int)).sum = (((kv.map (·.2)).sum : Nat) : Int)
  | [] => rfl
  | a :: l => by
    rw [List.map_cons, List.map_cons, List.sum_cons, List.sum_cons, sum_nats l]
    omega
section
variable {α : Type} [DecidableEq α] {X : Cx} {T : List (Addr × Str)} {k : KRp α} {σ : L2.St} {H : Hp} {o : Expr} {kvs : List (α × Nat)} {p pos apos mpos : Pos}
theorem v_sumVals (hc : X.calm = true) (B : Blt X.mg) (ho : VE X T o (pDF X.w k pN) σ H (is kvs)) (hg : Gl X "sum" := by rfl) (hbase : attributeBase o "values" X.env (eval o X.env) = eval o X.env := by rfl) (hline : (apos.endLine == mpos.line) = true := by rfl)
    (hse : starEach [Expr.Call (.Attribute o "values" apos) [] [] mpos] X.env = [(false, eval (Expr.Call (.Attribute o "values" apos) [] [] mpos) X.env)] := by rfl) :
    VE X T (.Call (.Name "sum" p) [.Call (.Attribute o "values" apos) [] [] mpos] [] pos) pN σ H (is (kvs.map (·.2)).sum) :=
  ve_of (pe_sumVals hc hg (B _ (by decide)) pe_o hbase hline hse) fun H1 e1 Q kk => ho H1 e1 _ fun v kv H2 e2 ⟨d, ev, ob, ks, hd, hp⟩ pd => by
    obtain rfl : kv = kvs := pd
    refine ⟨d, ob, ks, kv.map fun p => (p.2 : Int), ev, hd, ?_, kk _ (kv.map (·.2)).sum H2 e2 ?_ rfl⟩
    · exact n3_vals hp
    · show V.int _ = V.int _
      congr 1
      exact sum_nats kv
end
end LT
/-! ## LtItems3 -/
set_option Elab.async false
set_option linter.all false
set_option maxRecDepth 100000
set_option maxHeartbeats 4000000
namespace LT
open PySem PySem.W PySem.Spec PyProof.Rows L2 LamX

/-! ### d != {} -/
theorem samePairs_empty {prog : Program} {w : World} {A : Around} {E : Value → Shared → Prop} {s : Shared} {nm : String} {a b : Addr} {es es' : Array DictEntry} {ep ep' : Nat} {oa ob : Obj} {Q : Bool → Shared → Prop} (ha : (a == sysModules) = false) (hb : (b == sysModules) = false)
    (hoa : s.heap.get? a = some oa) (hda : oa.data = .dict es ep) (hob : s.heap.get? b = some ob) (hdb : ob.data = .dict es' ep') (h0 : es'.size = 0) (h : Q (es.size == 0) s) :
    wpAny (model prog w) A (Builtin.Dict.samePairs nm a b) Q E s := by
  unfold Builtin.Dict.samePairs Builtin.Dict.showsAll
  rw [if_neg (show ¬ (a == sysModules) = true by rw [ha]; exact Bool.false_ne_true), if_neg (show ¬ (b == sysModules) = true by rw [hb]; exact Bool.false_ne_true)]
  refine wpAny_bind (wpAny_pure (wpAny_bind (wpAny_pure ?_)))
  refine wpAny_bind (wpAny_dictEntries hoa hda ?_)
  dsimp only
  refine wpAny_bind (wpAny_dictEntries hob hdb ?_)
  by_cases hsz : es.size = es'.size
  case neg =>
    rw [if_pos (by simpa using hsz)]
    have hbf : (es.size == 0) = false := by rw [← h0]; simpa using hsz
    rw [hbf] at h
    exact wpAny_bind (wpAny_rule (wpAny_pure h))
  case pos =>
    rw [if_neg (by rw [hsz]; simp)]
    refine wpAny_bind (wpAny_dictEpoch hoa hda ?_)
    refine wpAny_bind ?_
    rw [Std.Legacy.Range.forIn_eq_forIn_range']
    simp only [Std.Legacy.Range.size, Nat.sub_zero, Nat.add_sub_cancel, Nat.div_one]
    rw [hsz, h0]
    refine wpAny_pure ?_
    refine wpAny_pure ?_
    rw [hsz, h0] at h
    exact h
theorem ne_empty {prog : Program} {w : World} {A : Around} {E : Value → Shared → Prop} {s : Shared} {a b : Addr} {es es' : Array DictEntry} {ep ep' : Nat} {Q : Value → Shared → Prop} (ha : (a == sysModules) = false) (hb : (b == sysModules) = false)
    (da : s.heap.DictRaw a es ep) (db : s.heap.DictRaw b es' ep') (h0 : es'.size = 0) (hu : A.units < cLine) (h : Q (.bool (!(es.size == 0))) s) :
    wpAny (model prog w) A (compareOp .NotEq (.ref a) (.ref b)) Q E s := by
  obtain ⟨oa, hoa, _, hda⟩ := id da
  obtain ⟨ob, hob, _, hdb⟩ := id db
  refine wpAny_richCompare_same_room (op := .NotEq) da.typeIs db.typeIs PySem.F.slot_dict_ne (wpAny_call_entry PySem.F.slot_dict_ne da.typeIs PySem.F.entry_dict_ne ?_ (PySem.F.args_dict_ne_2 _ _)) hu
  show wpAny _ _ (Builtin.Dict.dictSlotArgs "__ne__" ⟨[.ref a, .ref b], []⟩ >>= _) _ _ s
  refine wpAny_bind ?_
  unfold Builtin.Dict.dictSlotArgs
  refine wpAny_bind (wpAny_notOrdered_dict da.typeIs ?_)
  show wpAny _ _ (pure (Value.ref a, Value.ref b)) _ _ s
  refine wpAny_pure ?_
  refine wpAny_bind (wpAny_isInstance (T := "dict") db.typeIs PySem.F.sub_dict_dict ?_)
  simp only [Bool.not_true, Bool.false_eq_true, if_false]
  refine wpAny_bind (wpAny_pure (wpAny_bind (wpAny_pure ?_)))
  refine wpAny_bind (samePairs_empty ha hb hoa hda hob hdb h0 ?_)
  refine wpAny_pure ⟨_, rfl, ?_, ?_⟩
  · exact fun x => nomatch x
  · simpa using h
def rNeR (w : World) : R2 := fun x y H Q => ∃ d ob ks e, x = .ref d ∧ y = .ref e ∧ H d = some (.frz ob (rawD w d ks)) ∧ H e = some (rawD w e []) ∧ Q (.bl (!(ks.length == 0))) H
theorem op_neR {X : Cx} (hu : X.A.units < cLine) : OpR X (compareOp .NotEq) (rNeR X.w) := by
  intro pins s σ H x y v u Q I rx ry h
  obtain ⟨d, ob, ks, e, rfl, rfl, hd, he, q⟩ := h
  cases rx
  cases ry
  obtain ⟨es, ep, hgd, hx, hdt, hs, hsz, hz, ent⟩ := fr_open I hd
  obtain ⟨⟨xs, o', es', ep', p, ho, hc, hd', hee, hs', hn, hz'⟩, _, _⟩ := I.hok e _ he
  have hee : es'.toList = xs.map (entryOfKey (nestedKind X.prog X.w)) := hee
  have h0 : es'.size = 0 := by
    rw [size_of_entries hee, ← p.length]
    rfl
  refine ne_empty hs hs' ⟨ob, hgd, hx, hdt⟩ ⟨o', ho, hc, hd'⟩ h0 hu ⟨.bl _, H, I, ?_, q⟩
  rw [hsz]
  exact rfl
section
variable {α β : Type} [DecidableEq α] {X : Cx} {T : List (Addr × Str)} {k : KRp α} {r : Rp β} {σ : L2.St} {H : Hp} {a : Expr} {kvs : List (α × β)} {p : Pos}
theorem c_neEmptyD (hu : X.A.units < cLine) (ha : VE X T a (pDF X.w k r) σ H (is kvs)) : VC X T .NotEq a (.Dict [] [] p) σ H (!decide (kvs = [])) :=
  ⟨_, op_neR hu, fun H1 e1 Q kk => ha H1 e1 _ fun v x H2 e2 ⟨d, ev, ob, ks, hd, hp⟩ px => by
    obtain rfl : x = kvs := px
    refine (f_dnew (X := X) (T := T) (k := k) (r := r) (σ := σ) (H := H2) (pos := p)) H2 e2.here _ fun q z H3 e3 fr ⟨q', eq', ks', hq, hp'⟩ pz => ?_
    cases eq'
    obtain rfl : z = [] := pz
    cases hp'
    refine ⟨d, ob, ks, q, ev, rfl, e3.1 _ _ hd (Soft.frd _ _ _ _).ntbl, hq, kk _ _ H3 (e2.trans e3) rfl ?_⟩
    show (!(ks.length == 0)) = _
    rw [show ks.length = x.length from hp.length]
    cases x <;> rfl⟩
end

/-! ### a dict that is not written any more -/
/-- reading a name whose dict stands raw: from now on it is known to be frozen -/
def tFrz (w : World) (te : TE) : TE := fun σ H Q => te σ H fun v H1 => ∃ d ks, v = .ref d ∧ H1 d = some (rawD w d ks) ∧ ∀ o, Q (.ref d) (upd H1 d (.frz o (rawD w d ks)))
end LT
/-! ## LtSteps -/
set_option Elab.async false
set_option linter.all false
set_option maxRecDepth 100000
set_option maxHeartbeats 8000000
namespace LT
open PySem PySem.W PySem.Spec PyProof.Rows L2 LamX

theorem mut_raw (w : World) (d : Addr) (ks : List (NestedKey × Addr × V)) : Mut (some (rawD w d ks)) := by
  unfold rawD
  exact True.intro
theorem pe_frz {X : Cx} {e : Expr} {te : TE} (he : PE X e te) : PE X e (tFrz X.w te) := ⟨fun pins s σ H Q I h => by
  refine thn (he.run pins s σ H _ I h) fun u s1 ⟨v, H1, I1, ru, d, ks, ev, hd, q⟩ => ?_
  subst ev
  obtain ⟨od, I2⟩ := I1.lock hd (mut_raw _ _ _)
  exact ⟨.ref d, _, I2, ru, q od⟩⟩
section
variable {α β : Type} [DecidableEq α] {X : Cx} {T : List (Addr × Str)} {k : KRp α} {r : Rp β} {σ : L2.St} {H : Hp} {e : Expr} {kvs : List (α × β)} {pos : Pos} {D : Ends} {d : Addr}
theorem s_retFrz (ir : Imm r) (hT : Tabs T H) (hv : ∀ H1, Ex T H H1 → ∀ Q : VK, Q (.ref d) H1 → oE X e σ H1 Q) (hd : dictAt X.w k r H d kvs) (kk : ∀ H1, ExM [d] T H H1 → (pDF X.w k r).rel H1 (.ref d) kvs → D.rt (.ref d) H1) : oS X (.Return (some e) pos) D σ H := by
  obtain ⟨ks, h1, h2⟩ := hd
  refine oS_of (ps_ret (pe_frz pe_o)) (hv H (Ex.refl hT) _ ⟨d, ks, rfl, h1, fun o => kk _ (ExM.mut h1 (.dic _ _ _) (by simp) hT) ⟨d, rfl, o, ks, upd_same, ?_⟩⟩)
  exact paired_imp (fun _ _ z => z.imm ir (TupE.mut h1 (.dic _ _ _))) h2
end
end LT
/-! ## LtSteps2 -/
set_option Elab.async false
set_option linter.all false
set_option maxRecDepth 100000
set_option maxHeartbeats 8000000
namespace LT
open PySem PySem.W PySem.Spec PyProof.Rows L2 LamX

def stepPut (t : Tbl) (f : List (Tbl × Nat)) (p : Nat × Nat) : List (Tbl × Nat) := putA f (nextAt t p) ((getA f (nextAt t p)).getD 0 + 1)
def stepsOf (t : Tbl) : List (Tbl × Nat) := (oddsOf t).foldl (stepPut t) []
theorem stepTo_len (t : Tbl) : ∀ (ps : List (Nat × Nat)) (f : List (Tbl × Nat)), (ps.foldl (stepPut t) f).length ≤ f.length + ps.length
  | [], f => Nat.le_refl _
  | p :: ps, f => by
    rw [List.foldl_cons, List.length_cons]
    have h1 := stepTo_len t ps (stepPut t f p)
    have h2 : (stepPut t f p).length ≤ f.length + 1 := put_len f _ _
    omega
section
variable {P : Program} {w : World} {K : PySem.W.Frag} {mg : Str → Option Value} {base : Heap} {T : List (Addr × Str)} {f : Addr} {fd : FuncData} {k : Nat}
abbrev pSteps (w : World) (T : List (Addr × Str)) : Sp := SpG T (a1 pT) (fun y => Ok y.1) (pDF w kT pN) (fun y z => z = stepsOf y.1)
theorem scSteps : FnScope ["told", "found", "one", "other", "later"] ["told"] (defScope s_steps_of) := ⟨rfl, rfl, rfl, by decide +kernel, rfl, by decide +kernel, by decide +kernel⟩
theorem f_steps_of {j j' j2 : Nat} (B : Blt mg) (Co : Cal P w K mg base "odds_of" ["table"] j (pOdds T)) (Cl : Cal P w K mg base "laid" ["table", "one", "other"] j' (pLaid T)) (Cc : Cal P w K mg base "crowd_of" ["table"] j2 (pCrowd T)) (hj : j ≤ k) (hj' : j' ≤ k) (hj2 : j2 ≤ k) (F : FnP K "steps_of" s_steps_of f fd) :
    FnOk P w K mg base CX0 (k + 1) f fd ["told"] (pSteps w T) := by
  refine fn_ok F scSteps len1 fun cdv A outer s H vs Q E ⟨x, _⟩ hr ⟨v, ws, ev, h1, h4⟩ ⟨g, hok⟩ hT k => ?_
  obtain rfl : ws = [] := h4
  subst ev
  have hok : OkW g x := hok
  refine s_cons (s_setF 1 hT (f_dnew (k := kT) (r := pN)) scSteps.nd fun df f0 H1 e1 fdf rf pf => ?_)
  obtain rfl : f0 = _ := pf
  obtain ⟨_, e, hdf⟩ := rf
  cases e
  refine s_cons (s_forX (imPair imN imN) e1.2 [df] (fun ys i σ'' H'' => ys = oddsOf x ∧ ∃ o2 o3 o4, σ'' = [some v, some (.ref df), o2, o3, o4] ∧ pT.rel H'' v x ∧ dictAt w kT pN H'' df ((ys.take i).foldl (stepPut x) [])) rfl rfl (pg_tup rfl (pgs_cons (pg_name (i := 2) scSteps.nd rfl (.inl rfl)) (pgs_cons (pg_name (i := 3) scSteps.nd rfl (.inl rfl)) pgs_nil))) (i_lst (v_cl Co (hr.mono hj) (a_1 (v_v 0 (pT.mono e1.1 h1))) ⟨g, hok⟩ fun _ h => h)) ?_ ?_ ?_ ?_ ?_)
  · rintro H2 p e2 ⟨a, vs, e⟩ hp
    cases e
    have q1 := dict_ne (hdf.ext e2.1) hp
    simp [q1]
  · rintro ys H2 py e2
    exact ⟨py, none, none, none, rfl, pT.mono (e1.trans e2).1 h1, hdf.ext e2.1⟩
  · rintro ys i σ1 H2 H3 _ ⟨q1, o2, o3, o4, e, qv, q3⟩ e3
    exact ⟨q1, o2, o3, o4, e, pT.mono e3.1 qv, q3.ext e3.1⟩
  · rintro ys i ⟨a, b⟩ u σ1 H2 py hx m2 ⟨q1, o2, o3, o4, rfl, qv, q3⟩ ru
    obtain ⟨u1, u2, r1, r2, hb⟩ := bnd_pair (K := K) (i := 2) (j := 3) (σ := [some v, some (.ref df), o2, o3, o4]) ru
    refine ⟨_, hb, fun N' hN' => ?_⟩
    have hm : (a, b) ∈ oddsOf x := by rw [← q1]; exact List.mem_of_getElem? hx
    obtain ⟨hab, hbl⟩ := odds_mem hm
    have ha : a < x.length := by omega
    refine s_cons (s_set 4 m2.tabs (r := pT) (P := is (nextAt x (a, b))) (v_cl Cc (hr.mono hj2) (a_1 (v_cl Cl (hr.mono hj') (a_c (v_v 0 qv) (a_2 (v_v 2 r1) (v_v 3 r2))) ⟨⟨g, hok⟩, ha, hbl⟩ fun _ h => h)) ⟨g, hok.laid ha hbl⟩ fun _ h => h) scSteps.nd fun vn z H3 e3 rn pz => ?_)
    obtain rfl : z = _ := pz
    have q33 := q3.ext e3.1
    have lf : ((ys.take i).foldl (stepPut x) []).length < sizeLine := by
      have h1 := stepTo_len x (ys.take i) []
      have h2 : (ys.take i).length ≤ ys.length := List.length_take_le' ..
      have h3 := odds_six hok
      have h4 : ys.length = oddsN x := by rw [q1]; rfl
      rw [List.length_nil] at h1
      exact Nat.lt_of_le_of_lt (show _ ≤ 6 by omega) (by decide)
    refine s_cons (s_put (k := kT) (r := pN) (kvs := (ys.take i).foldl (stepPut x) []) (d := df) (x := nextAt x (a, b)) imN e3.2 (un hr 9) (v_addN (v_get2 (k := kT) (r := pN) (un hr 9) (v_v 1 ⟨df, rfl, q33⟩) (v_v 4 rn) (v_nat (n := 0))) (v_nat (n := 1))) (v_v 1 ⟨df, rfl, q33⟩) (o_var (ix := 1)) q33 (v_v 4 rn) lf fun p H8 H9 pp e8 m9 hd9 => ?_)
    refine s_nil (hN' _ _ ((e3.trans e8).toM.trans m9) ⟨q1, _, _, _, rfl, imT m9.tup (pT.mono (e3.trans e8).1 qv), ?_⟩)
    rw [List.take_add_one, hx, Option.toList_some, List.foldl_append, List.foldl_cons, List.foldl_nil]
    obtain rfl : p = _ := pp
    exact hd9
  · rintro ys σ1 H2 py m2 ⟨q1, o2, o3, o4, rfl, qv, q3⟩
    rw [List.take_length] at q3
    refine s_cons (s_retFrz (k := kT) imN m2.tabs (o_var (ix := 1)) q3 fun H3 m3 rl => k (.ref df) _ H3 (e1.thenM (m2.trans m3) (by
      intro p hp
      rw [List.mem_singleton.mp hp]
      exact fdf)) rl ?_)
    rw [q1]
    rfl
end
end LT
/-! ## LtChance -/
set_option Elab.async false
set_option linter.all false
set_option maxRecDepth 100000
set_option maxHeartbeats 4000000
namespace LT
open PySem PySem.W PySem.Spec PyProof.Rows L2 LamX

/-! ### the chance, plain -/
theorem keys_iff {α : Type} [DecidableEq α] {u : α} {l : List α} : u ∈ keysOf l ↔ u ∈ l := by
  have key : ∀ (l acc : List α), u ∈ l.foldl (fun acc a => if a ∈ acc then acc else acc ++ [a]) acc ↔ u ∈ acc ∨ u ∈ l := by
    intro l
    induction l with
    | nil => intro acc; simp
    | cons a l ih =>
      intro acc
      rw [List.foldl_cons, ih]
      by_cases h : a ∈ acc
      · rw [if_pos h]
        refine ⟨fun z => z.imp id fun z => List.mem_cons_of_mem _ z, fun z => z.elim .inl fun z => (List.mem_cons.mp z).elim (fun e => .inl (e ▸ h)) .inr⟩
      · rw [if_neg h, List.mem_append, List.mem_singleton, List.mem_cons, or_assoc]
  unfold keysOf
  refine (key _ []).trans ?_
  simp
theorem nexts_iff {t u : Tbl} : u ∈ nextsOf t ↔ ∃ p ∈ oddsOf t, u = nextAt t p := by
  unfold nextsOf
  rw [(List.mergeSort_perm _ _).mem_iff]
  rw [keys_iff]
  simp [eq_comm]
theorem steps_keys (t : Tbl) : ∀ (ps : List (Nat × Nat)) (f : List (Tbl × Nat)) (u : Tbl), u ∈ (ps.foldl (stepPut t) f).map (·.1) ↔ u ∈ f.map (·.1) ∨ ∃ p ∈ ps, u = nextAt t p
  | [], f, u => by simp
  | p :: ps, f, u => by
    rw [List.foldl_cons, steps_keys t ps]
    have e : u ∈ (stepPut t f p).map (·.1) ↔ u ∈ f.map (·.1) ∨ u = nextAt t p := by
      unfold stepPut
      rw [put_keys]
      split
      · rename_i h
        exact ⟨.inl, fun z => z.elim id fun e => e ▸ h⟩
      · rw [List.mem_append, List.mem_singleton]
    rw [e, or_assoc]
    refine or_congr Iff.rfl ⟨fun z => ?_, fun ⟨q, hq, eq⟩ => ?_⟩
    · rcases z with e | ⟨q, hq, eq⟩
      · exact ⟨p, List.mem_cons_self, e⟩
      · exact ⟨q, List.mem_cons_of_mem _ hq, eq⟩
    · rcases List.mem_cons.mp hq with rfl | hq
      · exact .inl eq
      · exact .inr ⟨q, hq, eq⟩
theorem steps_mem {t u : Tbl} : u ∈ (stepsOf t).map (·.1) ↔ u ∈ nextsOf t := by
  unfold stepsOf
  rw [steps_keys, nexts_iff]
  simp
theorem steps_nodup (t : Tbl) : ((stepsOf t).map (·.1)).Nodup := by
  have key : ∀ (ps : List (Nat × Nat)) (f : List (Tbl × Nat)), (f.map (·.1)).Nodup → ((ps.foldl (stepPut t) f).map (·.1)).Nodup := by
    intro ps
    induction ps with
    | nil => exact fun f h => h
    | cons p ps ih =>
      intro f h
      rw [List.foldl_cons]
      exact ih _ (put_nodup h _ _)
  exact key _ _ (by simp)
theorem put_sum {f : List (Tbl × Nat)} (u : Tbl) (h : (f.map (·.1)).Nodup) : ((putA f u ((getA f u).getD 0 + 1)).map (·.2)).sum = (f.map (·.2)).sum + 1 := by
  unfold putA
  cases e : getA f u with
  | none => simp
  | some c =>
    rw [if_pos (show (some c).isSome = true from rfl)]
    show (_ : Nat) = _
    induction f with
    | nil => rw [getA_nil] at e; cases e
    | cons p f ih =>
      rw [List.map_cons, List.nodup_cons] at h
      by_cases hp : p.1 = u
      · rw [getA_pos hp] at e
        have e1 : p.2 = c := Option.some.inj e
        have e2 : f.map (fun q => if q.1 = u then (q.1, (some c).getD 0 + 1) else q) = f := by
          refine (List.map_congr_left fun q hq => ?_).trans (List.map_id f)
          rw [if_neg fun z => h.1 (by rw [hp, ← z]; exact List.mem_map.mpr ⟨q, hq, rfl⟩)]
          rfl
        rw [List.map_cons, e2, if_pos hp, List.map_cons, List.map_cons, List.sum_cons, List.sum_cons]
        show c + 1 + _ = _
        omega
      · rw [getA_neg hp] at e
        rw [List.map_cons, if_neg hp, List.map_cons, List.map_cons, List.sum_cons, List.sum_cons, ih h.2 e]
        omega
theorem steps_sum (t : Tbl) : ((stepsOf t).map (·.2)).sum = oddsN t := by
  have key : ∀ (ps : List (Nat × Nat)) (f : List (Tbl × Nat)), (f.map (·.1)).Nodup → ((ps.foldl (stepPut t) f).map (·.2)).sum = (f.map (·.2)).sum + ps.length := by
    intro ps
    induction ps with
    | nil => exact fun f h => rfl
    | cons p ps ih =>
      intro f h
      have h2 : ((stepPut t f p).map (·.1)).Nodup := put_nodup h _ _
      have h3 : ((stepPut t f p).map (·.2)).sum = (f.map (·.2)).sum + 1 := put_sum (nextAt t p) h
      rw [List.foldl_cons, ih _ h2, List.length_cons, h3]
      omega
  have := key (oddsOf t) [] (by simp)
  unfold stepsOf
  rw [this]
  simp [oddsN]
theorem steps_len (t : Tbl) : (stepsOf t).length ≤ oddsN t := by
  have := stepTo_len t (oddsOf t) []
  unfold stepsOf oddsN
  simpa using this
def chStep (f : Tbl → Int × Int) (ab : Int × Int) (s : Tbl × Nat) : Int × Int := (ab.1 * (f s.1).2 + (s.2 : Int) * ((f s.1).2 - (f s.1).1) * ab.2, ab.2 * (f s.1).2)
def chanceF (f : Tbl → Int × Int) (t : Tbl) : Int × Int := if stepsOf t = [] then (0, 1) else (((stepsOf t).foldl (chStep f) (0, 1)).1, ((stepsOf t).foldl (chStep f) (0, 1)).2 * ((((stepsOf t).map (·.2)).sum : Nat) : Int))
def chance : Tbl → Int × Int := down chanceF (0, 1)
theorem chFold_congr {f g : Tbl → Int × Int} : ∀ (l : List (Tbl × Nat)) (ab : Int × Int), (∀ s ∈ l, f s.1 = g s.1) → l.foldl (chStep f) ab = l.foldl (chStep g) ab
  | [], ab, _ => rfl
  | s :: l, ab, h => by
    rw [List.foldl_cons, List.foldl_cons, show chStep f ab s = chStep g ab s by unfold chStep; rw [h s List.mem_cons_self]]
    exact chFold_congr l _ fun x hx => h x (List.mem_cons_of_mem _ hx)
theorem chance_eq (L : Less) {g : Nat} {t : Tbl} (h : OkW g t) : chance t = chanceF chance t := down_eq (F := chanceF) (fun f g t q => by
  unfold chanceF
  rw [chFold_congr (stepsOf t) (0, 1) fun s hs => q s.1 (steps_mem.mp (List.mem_map.mpr ⟨s, hs, rfl⟩))]) L h

/-! ### how great the numbers grow -/
def lim : Nat := 9000
def Sm (x : Int) : Prop := x.natAbs < 2 ^ lim
theorem Sm.mul {i j : Int} (hi : Sm i) (hj : Sm j) : CMulW i j := wide_mul hi hj (by decide) (by decide) (by decide)
theorem Sm.div {i j : Int} (h : 0 < j) (hj : Sm j) : CDivW i j := wide_div h hj (by decide) (by decide)
theorem Sm.le {i j : Int} (h0 : 0 ≤ i) (h : i ≤ j) (hj : Sm j) : Sm i := wide_le h0 h hj
/-- bits -/
def Bt : Nat → Nat
  | 0 => 0
  | n + 1 => 3 + (n + 1) * Bt n
theorem Bt_mono {m n : Nat} (h : m ≤ n) : Bt m ≤ Bt n := by
  induction h with
  | refl => exact Nat.le_refl _
  | @step n h ih =>
    refine Nat.le_trans ih ?_
    show Bt n ≤ 3 + (n + 1) * Bt n
    have := Nat.le_mul_of_pos_left (Bt n) (show 0 < n + 1 by omega)
    omega
/-- a chance: num / den, den below 2 ^ n -/
structure Fra (n : Nat) (x : Int × Int) : Prop where
  n0 : 0 ≤ x.1
  le : x.1 ≤ x.2
  d0 : 0 < x.2
  hi : x.2.toNat ≤ 2 ^ n
theorem Fra.mono {m n : Nat} {x : Int × Int} (h : Fra m x) (l : m ≤ n) : Fra n x := ⟨h.n0, h.le, h.d0, Nat.le_trans h.hi (Nat.pow_le_pow_right (by decide) l)⟩
/-- a sum under way: M deeds so far, den below 2 ^ n -/
structure Fru (n M : Nat) (x : Int × Int) : Prop where
  n0 : 0 ≤ x.1
  le : x.1 ≤ (M : Int) * x.2
  d0 : 0 < x.2
  hi : x.2.toNat ≤ 2 ^ n
theorem Fru.zero : Fru 0 0 (0, 1) := ⟨Int.le_refl _, by decide, by decide, by decide⟩
theorem toNat_mul {a b : Int} (ha : 0 ≤ a) (hb : 0 ≤ b) : (a * b).toNat = a.toNat * b.toNat := by
  obtain ⟨m, rfl⟩ := Int.eq_ofNat_of_zero_le ha
  obtain ⟨n, rfl⟩ := Int.eq_ofNat_of_zero_le hb
  rw [← Int.natCast_mul]
  rfl
theorem Fru.step {f : Tbl → Int × Int} {n B M : Nat} {x : Int × Int} (h : Fru n M x) {s : Tbl × Nat} (hs : Fra B (f s.1)) : Fru (n + B) (M + s.2) (chStep f x s) := by
  obtain ⟨a, b⟩ := x
  obtain ⟨u, m⟩ := s
  obtain ⟨h1, h2, h3, h4⟩ := h
  obtain ⟨q1, q2, q3, q4⟩ := hs
  simp only at h1 h2 h3 h4 q1 q2 q3 q4
  have hm : (0 : Int) ≤ (m : Int) := by omega
  refine ⟨?_, ?_, Int.mul_pos h3 q3, ?_⟩
  · exact Int.add_nonneg (Int.mul_nonneg h1 (Int.le_of_lt q3)) (Int.mul_nonneg (Int.mul_nonneg hm (by show 0 ≤ (f u).2 - (f u).1; omega)) (Int.le_of_lt h3))
  · show a * (f u).2 + (m : Int) * ((f u).2 - (f u).1) * b ≤ ((M + m : Nat) : Int) * (b * (f u).2)
    have e1 : a * (f u).2 ≤ (M : Int) * b * (f u).2 := Int.mul_le_mul_of_nonneg_right h2 (by omega)
    have e2 : (m : Int) * ((f u).2 - (f u).1) ≤ (m : Int) * (f u).2 := Int.mul_le_mul_of_nonneg_left (by omega) hm
    have e3 : (m : Int) * ((f u).2 - (f u).1) * b ≤ (m : Int) * (f u).2 * b := Int.mul_le_mul_of_nonneg_right e2 (by omega)
    have e4 : ((M + m : Nat) : Int) * (b * (f u).2) = (M : Int) * b * (f u).2 + (m : Int) * (f u).2 * b := by
      rw [Int.natCast_add, Int.add_mul]
      congr 1
      · rw [Int.mul_assoc]
      · rw [Int.mul_assoc, Int.mul_comm b]
    omega
  · show (b * (f u).2).toNat ≤ _
    rw [toNat_mul (Int.le_of_lt h3) (Int.le_of_lt q3), Nat.pow_add]
    exact Nat.mul_le_mul h4 q4
theorem Fru.fold {f : Tbl → Int × Int} {B : Nat} : ∀ (l : List (Tbl × Nat)) {n M : Nat} {x : Int × Int}, Fru n M x → (∀ s ∈ l, Fra B (f s.1)) → Fru (n + l.length * B) (M + (l.map (·.2)).sum) (l.foldl (chStep f) x)
  | [], n, M, x, h, _ => by simpa using h
  | s :: l, n, M, x, h, hl => by
    rw [List.foldl_cons, List.length_cons, List.map_cons, List.sum_cons]
    have := Fru.fold l (h.step (hl s List.mem_cons_self)) fun y hy => hl y (List.mem_cons_of_mem _ hy)
    rw [show n + (l.length + 1) * B = n + B + l.length * B by rw [Nat.succ_mul]; omega, ← Nat.add_assoc M]
    exact this
theorem chance_fra (L : Less) {g : Nat} : ∀ (n : Nat) {t : Tbl}, OkW g t → oddsN t ≤ n → Fra (Bt (oddsN t)) (chance t)
  | n, t, h, hn => by
    rw [chance_eq L h]
    unfold chanceF
    by_cases e : stepsOf t = []
    · rw [if_pos e]
      exact ⟨by decide, by decide, by decide, Nat.one_le_two_pow⟩
    · rw [if_neg e]
      have hs := steps_sum t
      have hl := steps_len t
      have h6 := odds_six h
      obtain ⟨k, hk⟩ : ∃ k, oddsN t = k + 1 := by
        cases q : oddsN t with
        | zero => rw [q] at hl; exact absurd (List.length_eq_zero_iff.mp (Nat.le_zero.mp hl)) e
        | succ k => exact ⟨k, rfl⟩
      have key := Fru.fold (f := chance) (B := Bt k) (stepsOf t) Fru.zero fun s hsm => by
        have hm : s.1 ∈ nextsOf t := steps_mem.mp (List.mem_map.mpr ⟨s, hsm, rfl⟩)
        have hlt := L g t s.1 h hm
        cases n with
        | zero => omega
        | succ n => exact (chance_fra L n (next_ok h hm) (by omega)).mono (Bt_mono (by omega))
      rw [hs, Nat.zero_add, Nat.zero_add] at key
      obtain ⟨k1, k2, k3, k4⟩ := key
      rw [hs]
      refine ⟨k1, ?_, Int.mul_pos k3 (by omega), ?_⟩
      · show _ ≤ _ * ((oddsN t : Nat) : Int)
        rw [Int.mul_comm]
        exact k2
      · show (_ * ((oddsN t : Nat) : Int)).toNat ≤ _
        rw [toNat_mul (by omega) (by omega), hk]
        show _ ≤ 2 ^ (3 + (k + 1) * Bt k)
        rw [Nat.add_comm 3, Nat.pow_add]
        refine Nat.mul_le_mul (Nat.le_trans k4 (Nat.pow_le_pow_right (by decide) (Nat.mul_le_mul_right _ (by omega)))) ?_
        rw [Int.toNat_natCast]
        omega
theorem chance_ok (L : Less) {g : Nat} {t : Tbl} (h : OkW g t) : Fra (Bt 6) (chance t) := (chance_fra L _ h (Nat.le_refl _)).mono (Bt_mono (odds_six h))
end LT
/-! ## LtPerm -/
set_option Elab.async false
set_option linter.all false
set_option maxRecDepth 100000
set_option maxHeartbeats 4000000
namespace LT
/-! ### choosing one, choosing two -/
def picks {α : Type} : List α → List (α × List α)
  | [] => []
  | a :: l => (a, l) :: (picks l).map fun p => (p.1, a :: p.2)
def deals {α : Type} : List α → List (α × α × List α)
  | [] => []
  | a :: l => (picks l).map (fun p => (a, p.1, p.2)) ++ (deals l).map fun p => (p.1, p.2.1, a :: p.2.2)
section
variable {α β : Type}
theorem flat_perm {f g : α → List β} : ∀ {l : List α}, (∀ x ∈ l, (f x).Perm (g x)) → (l.flatMap f).Perm (l.flatMap g)
  | [], _ => .nil
  | a :: l, h => by
    rw [List.flatMap_cons, List.flatMap_cons]
    exact (h a List.mem_cons_self).append (flat_perm fun x hx => h x (List.mem_cons_of_mem _ hx))
def pickF (F : α → List α → List β) (l : List α) : List β := (picks l).flatMap fun p => F p.1 p.2
def dealF (F : α → α → List α → List β) (l : List α) : List β := (deals l).flatMap fun p => F p.1 p.2.1 p.2.2
theorem pickF_cons (F : α → List α → List β) (a : α) (l : List α) : pickF F (a :: l) = F a l ++ pickF (fun b r => F b (a :: r)) l := by
  unfold pickF
  show ((a, l) :: (picks l).map fun p => (p.1, a :: p.2)).flatMap _ = _
  rw [List.flatMap_cons, List.flatMap_map]
theorem dealF_cons (F : α → α → List α → List β) (a : α) (l : List α) : dealF F (a :: l) = pickF (F a) l ++ dealF (fun b c r => F b c (a :: r)) l := by
  unfold dealF pickF
  show ((picks l).map (fun p => (a, p.1, p.2)) ++ (deals l).map fun p => (p.1, p.2.1, a :: p.2.2)).flatMap _ = _
  rw [List.flatMap_append, List.flatMap_map, List.flatMap_map]
theorem pickF_same {F G : α → List α → List β} (h : ∀ a r, (F a r).Perm (G a r)) (l : List α) : (pickF F l).Perm (pickF G l) := flat_perm fun p _ => h p.1 p.2
theorem dealF_same {F G : α → α → List α → List β} (h : ∀ a b r, (F a b r).Perm (G a b r)) (l : List α) : (dealF F l).Perm (dealF G l) := flat_perm fun p _ => h p.1 p.2.1 p.2.2
theorem pickF_perm {l m : List α} (h : l.Perm m) : ∀ (F : α → List α → List β), (∀ a r r', r.Perm r' → (F a r).Perm (F a r')) → (pickF F l).Perm (pickF F m) := by
  induction h with
  | nil => exact fun F _ => .refl _
  | cons a h ih =>
    intro F hF
    rw [pickF_cons, pickF_cons]
    exact (hF a _ _ h).append (ih _ fun b r r' q => hF b _ _ (q.cons a))
  | swap a b l =>
    intro F hF
    rw [pickF_cons, pickF_cons, pickF_cons, pickF_cons, ← List.append_assoc, ← List.append_assoc]
    exact List.perm_append_comm.append (pickF_same (fun c r => hF c _ _ (.swap a b r)) l)
  | trans _ _ ih1 ih2 => exact fun F hF => (ih1 F hF).trans (ih2 F hF)
theorem dealF_perm {l m : List α} (h : l.Perm m) : ∀ (F : α → α → List α → List β), (∀ a b r, (F a b r).Perm (F b a r)) → (∀ a b r r', r.Perm r' → (F a b r).Perm (F a b r')) → (dealF F l).Perm (dealF F m) := by
  induction h with
  | nil => exact fun F _ _ => .refl _
  | cons a h ih =>
    intro F hs hF
    rw [dealF_cons, dealF_cons]
    exact (pickF_perm h _ (hF a)).append (ih _ (fun b c r => hs b c _) fun b c r r' q => hF b c _ _ (q.cons a))
  | swap a b l =>
    intro F hs hF
    rw [dealF_cons, dealF_cons, dealF_cons, dealF_cons, pickF_cons, pickF_cons]
    have e1 := hs b a l
    have e2 : (pickF (fun c r => F b c (a :: r)) l ++ (pickF (fun c r => F a c (b :: r)) l ++ dealF (fun c d r => F c d (b :: a :: r)) l)).Perm (pickF (fun c r => F a c (b :: r)) l ++ (pickF (fun c r => F b c (a :: r)) l ++ dealF (fun c d r => F c d (a :: b :: r)) l)) := by
      rw [← List.append_assoc, ← List.append_assoc]
      exact List.perm_append_comm.append (dealF_same (fun c d r => hF c d _ _ (.swap a b r)) l)
    simp only [List.append_assoc]
    exact e1.append e2
  | trans _ _ ih1 ih2 => exact fun F hs hF => (ih1 F hs hF).trans (ih2 F hs hF)
/-! by places -/
theorem picks_at (d : α) : ∀ l : List α, picks l = (List.range l.length).map fun j => (l.getD j d, l.eraseIdx j)
  | [] => rfl
  | a :: l => by
    rw [List.length_cons, List.range_succ_eq_map, List.map_cons, List.map_map]
    show (a, l) :: (picks l).map _ = (a, l) :: _
    rw [picks_at d l, List.map_map]
    rfl
/-- the pairs of places at which t holds -/
def prs (t : α → α → Bool) (d : α) (l : List α) : List (Nat × Nat) := (List.range l.length).flatMap fun i => ((List.range' (i + 1) (l.length - (i + 1))).filter fun j => t (l.getD i d) (l.getD j d)).map fun j => (i, j)
theorem prs_cons (t : α → α → Bool) (d a : α) (l : List α) : prs t d (a :: l) = ((List.range l.length).filter fun j => t a (l.getD j d)).map (fun j => (0, j + 1)) ++ (prs t d l).map fun p => (p.1 + 1, p.2 + 1) := by
  unfold prs
  rw [List.length_cons, List.range_succ_eq_map, List.flatMap_cons, List.flatMap_map, List.map_flatMap]
  congr 1
  · rw [show l.length + 1 - (0 + 1) = l.length by omega, show List.range' (0 + 1) l.length = (List.range l.length).map (· + 1) by rw [List.range'_eq_map_range]; exact List.map_congr_left fun x _ => Nat.add_comm _ _, List.filter_map, List.map_map]
    rfl
  · refine congrArg (fun f => List.flatMap f (List.range l.length)) (funext fun i => ?_)
    rw [show l.length + 1 - (i + 1 + 1) = l.length - (i + 1) by omega, show List.range' (i + 1 + 1) (l.length - (i + 1)) = (List.range' (i + 1) (l.length - (i + 1))).map (· + 1) by
      rw [List.range'_eq_map_range, List.range'_eq_map_range, List.map_map]
      exact List.map_congr_left fun x _ => by show i + 1 + 1 + x = i + 1 + x + 1; omega, List.filter_map, List.map_map, List.map_map]
    rfl
theorem deals_at (t : α → α → Bool) (d : α) : ∀ l : List α, (prs t d l).map (fun p => (l.getD p.1 d, l.getD p.2 d, (l.eraseIdx p.2).eraseIdx p.1)) = (deals l).filter fun q => t q.1 q.2.1
  | [] => rfl
  | a :: l => by
    rw [prs_cons, List.map_append, List.map_map, List.map_map]
    show _ = ((picks l).map (fun p => (a, p.1, p.2)) ++ (deals l).map fun p => (p.1, p.2.1, a :: p.2.2)).filter _
    rw [List.filter_append, List.filter_map, List.filter_map]
    congr 1
    · rw [picks_at d, List.filter_map, List.map_map]
      rfl
    · show _ = ((deals l).filter fun q => t q.1 q.2.1).map _
      rw [← deals_at t d l, List.map_map]
      rfl
theorem picks_mem {b : α} : ∀ {l r : List α}, (b, r) ∈ picks l → l.Perm (b :: r)
  | [], _, h => by cases h
  | c :: l, r, h => by
    rcases List.mem_cons.mp h with h | h
    · cases h; exact .refl _
    · obtain ⟨⟨x, y⟩, hm, e⟩ := List.mem_map.mp h
      cases e
      exact ((picks_mem hm).cons c).trans (.swap _ _ _)
theorem deals_mem {a b : α} : ∀ {l r : List α}, (a, b, r) ∈ deals l → l.Perm (a :: b :: r)
  | [], _, h => by cases h
  | c :: l, r, h => by
    rcases List.mem_append.mp h with h | h
    · obtain ⟨⟨x, y⟩, hm, e⟩ := List.mem_map.mp h
      cases e
      exact (picks_mem hm).cons _
    · obtain ⟨⟨x, y, z⟩, hm, e⟩ := List.mem_map.mp h
      cases e
      exact ((deals_mem hm).cons c).trans ((List.Perm.swap _ _ _).trans ((List.Perm.swap _ _ _).cons _))
theorem set2_perm {l : List α} {i j : Nat} (hij : i < j) (hj : j < l.length) (x y : α) : ((l.set i x).set j y).Perm (x :: y :: (l.eraseIdx j).eraseIdx i) := by
  have key : ∀ {l : List α} {n : Nat} (a : α), n < l.length → (l.set n a).Perm (a :: l.eraseIdx n) := by
    intro l
    induction l with
    | nil => intro n a h; simp at h
    | cons c l ih =>
      intro n a h
      cases n with
      | zero => exact .refl _
      | succ n =>
        rw [List.set_cons_succ, List.eraseIdx_cons_succ]
        exact ((ih a (by simpa using h)).cons c).trans (.swap _ _ _)
  refine (key y (by simpa using hj)).trans ?_
  rw [List.eraseIdx_set_gt hij]
  exact ((key x (by rw [List.length_eraseIdx]; split <;> omega)).cons y).trans (.swap _ _ _)
end
end LT
/-! ## LtLe -/
set_option Elab.async false
set_option linter.all false
set_option maxRecDepth 100000
set_option maxHeartbeats 4000000
namespace LT
open PySem PySem.W PySem.Spec PyProof.Rows L2 LamX
/-! ### the orders of rows, of tables, plain -/
theorem eqv_encR (x y : Row) : PyData.eqv (encR x) (encR y) = decide (x = y) := eqv_R x y
theorem lt_row (x y : Row) : dataLt (encR x) (encR y) = decide (x < y) := by
  unfold encR
  rw [dataLt_tuple]
  exact dataLt_ints x y
theorem lt_tab : ∀ xs ys : Tbl, rowLt (xs.map encR) (ys.map encR) = decide (xs < ys)
  | [], [] => by
    have e : rowLt [] [] = false := lex_irrefl _
    simp [e]
  | [], y :: ys => by
    have e : rowLt [] (encR y :: ys.map encR) = true := by
      unfold rowLt
      rw [toks_all_cons]
      simp only [keyToksAll]
      rw [lex_diff (O := itemOrd) (by simp)]
      rfl
    simpa using e
  | x :: xs, [] => by
    have e : rowLt (encR x :: xs.map encR) [] = false := by
      unfold rowLt
      rw [toks_all_cons]
      simp only [keyToksAll]
      rw [lex_diff (O := itemOrd) (by simp)]
      rfl
    simpa using e
  | x :: xs, y :: ys => by
    have e : rowLt (encR x :: xs.map encR) (encR y :: ys.map encR) = if x = y then rowLt (xs.map encR) (ys.map encR) else decide (x < y) := by
      unfold rowLt
      rw [dataLt_cons (alike_R x y), lt_row, eqv_encR]
      simp only [decide_eq_true_eq]
    show rowLt (encR x :: xs.map encR) (encR y :: ys.map encR) = _
    rw [e]
    by_cases h : x = y
    · rw [if_pos h, lt_tab xs ys]
      simp [h, List.cons_lt_cons_iff]
    · rw [if_neg h]
      simp [h, List.cons_lt_cons_iff]
theorem not_lt_le {α : Type} [LT α] (xs ys : List α) [Decidable (ys < xs)] [Decidable (xs ≤ ys)] : (!decide (ys < xs)) = decide (xs ≤ ys) := by
  by_cases h : ys < xs
  · have h' : ¬ xs ≤ ys := fun r => List.not_lt.mpr r h
    simp [h, h']
  · have h' : xs ≤ ys := List.not_lt.mp h
    simp [h, h']
theorem rleq_le (a b : Row) : rleq a b = decide (a ≤ b) := by
  show (!dataLt (encR b) (encR a)) = _
  rw [lt_row, not_lt_le]
theorem tleq_le (a b : Tbl) : tleq a b = decide (a ≤ b) := by
  show (!dataLt (encT b) (encT a)) = _
  unfold encT
  rw [dataLt_tuple]
  show (!rowLt (b.map encR) (a.map encR)) = _
  rw [lt_tab, not_lt_le]
theorem side_le (t : Tbl) (g : Nat) : sideOf t g = ((colOf t g).mergeSort fun a b => decide (a ≤ b)).reverse := by
  unfold sideOf
  have : dataLe false PyData.int = fun a b : Int => decide (a ≤ b) := dataLe_int id
  rw [this]
end LT
/-! ## LtG1 -/
set_option Elab.async false
set_option linter.all false
set_option maxRecDepth 100000
set_option maxHeartbeats 4000000
namespace LT
/-! ### sorted rows, sorted tables -/
theorem rleq_eq : rleq = fun a b => decide (a ≤ b) := funext fun a => funext fun b => rleq_le a b
theorem tleq_eq : tleq = fun a b => decide (a ≤ b) := funext fun a => funext fun b => tleq_le a b
section
variable {α : Type} [LE α] [DecidableLE α]
theorem sort_uniq (tr : ∀ a b c : α, a ≤ b → b ≤ c → a ≤ c) (to : ∀ a b : α, a ≤ b ∨ b ≤ a) (an : ∀ a b : α, a ≤ b → b ≤ a → a = b) {l m : List α} (h : l.Perm m) : l.mergeSort (fun a b => decide (a ≤ b)) = m.mergeSort (fun a b => decide (a ≤ b)) := by
  have s : ∀ l : List α, (l.mergeSort (fun a b => decide (a ≤ b))).Pairwise (· ≤ ·) := fun l =>
    (List.pairwise_mergeSort (le := fun a b : α => decide (a ≤ b)) (fun a b c h1 h2 => decide_eq_true (tr a b c (of_decide_eq_true h1) (of_decide_eq_true h2))) (fun a b => by
      rcases to a b with h | h
      · rw [decide_eq_true h, Bool.true_or]
      · rw [decide_eq_true h, Bool.or_true]) l).imp fun h => of_decide_eq_true h
  exact List.Perm.eq_of_pairwise (le := (· ≤ ·)) (fun a b _ _ h1 h2 => an a b h1 h2) (s l) (s m) (((List.mergeSort_perm _ _).trans h).trans (List.mergeSort_perm _ _).symm)
theorem sort_pair (tr : ∀ a b c : α, a ≤ b → b ≤ c → a ≤ c) (to : ∀ a b : α, a ≤ b ∨ b ≤ a) (l : List α) : (l.mergeSort (fun a b => decide (a ≤ b))).Pairwise (· ≤ ·) :=
    (List.pairwise_mergeSort (le := fun a b : α => decide (a ≤ b)) (fun a b c h1 h2 => decide_eq_true (tr a b c (of_decide_eq_true h1) (of_decide_eq_true h2))) (fun a b => by
      rcases to a b with h | h
      · rw [decide_eq_true h, Bool.true_or]
      · rw [decide_eq_true h, Bool.or_true]) l).imp fun h => of_decide_eq_true h
end
theorem r_tr (a b c : Row) : a ≤ b → b ≤ c → a ≤ c := List.le_trans
theorem r_to (a b : Row) : a ≤ b ∨ b ≤ a := List.le_total a b
theorem r_an (a b : Row) : a ≤ b → b ≤ a → a = b := List.le_antisymm
theorem t_tr (a b c : Tbl) : a ≤ b → b ≤ c → a ≤ c := List.le_trans
theorem t_to (a b : Tbl) : a ≤ b ∨ b ≤ a := List.le_total a b
theorem t_an (a b : Tbl) : a ≤ b → b ≤ a → a = b := List.le_antisymm
theorem crowd_congr {t u : Tbl} (h : t.Perm u) : crowdOf t = crowdOf u := by
  unfold crowdOf
  rw [rleq_eq, sort_uniq r_tr r_to r_an h]
theorem crowd_idem (t : Tbl) : crowdOf (crowdOf t) = crowdOf t := crowd_congr (crowd_perm t)
theorem crowd_down (t : Tbl) : (crowdOf t).Pairwise fun a b => b ≤ a := by
  unfold crowdOf
  rw [rleq_eq, List.pairwise_reverse]
  exact sort_pair r_tr r_to t
theorem perm_of_mem {α : Type} [DecidableEq α] : ∀ {l m : List α}, l.Nodup → m.Nodup → (∀ x, x ∈ l ↔ x ∈ m) → l.Perm m
  | [], m, _, _, h => by
    cases m with
    | nil => exact .nil
    | cons a m => exact absurd ((h a).mpr List.mem_cons_self) (by simp)
  | a :: l, m, hl, hm, h => by
    have ha : a ∈ m := (h a).mp List.mem_cons_self
    rw [List.nodup_cons] at hl
    have p := List.perm_cons_erase ha
    refine (List.Perm.cons a (perm_of_mem hl.2 (hm.erase a) fun x => ?_)).trans p.symm
    rw [List.Nodup.mem_erase_iff hm]
    constructor
    · intro hx
      exact ⟨fun e => hl.1 (e ▸ hx), (h x).mp (List.mem_cons_of_mem _ hx)⟩
    · rintro ⟨hne, hx⟩
      exact (List.mem_cons.mp ((h x).mpr hx)).elim (fun e => absurd e hne) id
theorem keys_nodup {α : Type} [DecidableEq α] (l : List α) : (keysOf l).Nodup := by
  have key : ∀ (l acc : List α), acc.Nodup → (l.foldl (fun acc a => if a ∈ acc then acc else acc ++ [a]) acc).Nodup := by
    intro l
    induction l with
    | nil => exact fun acc h => h
    | cons a l ih =>
      intro acc h
      rw [List.foldl_cons]
      refine ih _ ?_
      split
      · exact h
      · rename_i q
        rw [List.nodup_append]
        exact ⟨h, by simp, by rintro x hx y hy rfl; exact q (by rw [← List.mem_singleton.mp hy]; exact hx)⟩
  exact key l [] (by simp)
/-- all that one deed makes, with repetitions -/
def nextL (t : Tbl) : List Tbl := (oddsOf t).map (nextAt t)
theorem nexts_mem_iff {t u : Tbl} : u ∈ nextsOf t ↔ u ∈ nextL t := by
  rw [nexts_iff]
  unfold nextL
  rw [List.mem_map]
  exact ⟨fun ⟨p, h, e⟩ => ⟨p, h, e.symm⟩, fun ⟨p, h, e⟩ => ⟨p, h, e.symm⟩⟩
theorem nexts_congr {t t' : Tbl} (h : ∀ u, u ∈ nextL t ↔ u ∈ nextL t') : nextsOf t = nextsOf t' := by
  unfold nextsOf
  rw [tleq_eq]
  exact sort_uniq t_tr t_to t_an (perm_of_mem (keys_nodup _) (keys_nodup _) fun u => by rw [keys_iff, keys_iff]; exact h u)
theorem nexts_nil {t : Tbl} : nextsOf t = [] ↔ oddsOf t = [] := by
  rw [List.eq_nil_iff_forall_not_mem, ← List.map_eq_nil_iff (f := nextAt t), List.eq_nil_iff_forall_not_mem]
  exact forall_congr' fun u => not_congr nexts_mem_iff
theorem next_crowd {t u : Tbl} (h : u ∈ nextsOf t) : crowdOf u = u := by
  obtain ⟨p, _, rfl⟩ := nexts_iff.mp h
  exact crowd_idem _

/-! ### rows -/
theorem over_iff {a b : Row} (h : a.length = b.length) : over a b = true ↔ ∀ i, i < a.length → b.getD i 0 ≤ a.getD i 0 := by
  unfold over
  induction a generalizing b with
  | nil => simp
  | cons x a ih =>
    cases b with
    | nil => simp at h
    | cons y b =>
      rw [List.zip_cons_cons, List.all_cons, Bool.and_eq_true, ih (by simpa using h)]
      constructor
      · rintro ⟨h1, h2⟩ i hi
        cases i with
        | zero => exact of_decide_eq_true h1
        | succ i => exact h2 i (by simpa using hi)
      · intro h1
        exact ⟨decide_eq_true (h1 0 (by simp)), fun i hi => h1 (i + 1) (by simpa using hi)⟩
theorem odds_comm (a b : Row) : odds2 a b = odds2 b a := Bool.and_comm _ _
theorem zip_comm {a b : Row} (F : Int → Int → Int) (hF : ∀ x y, F x y = F y x) : (a.zip b).map (fun p => F p.1 p.2) = (b.zip a).map (fun p => F p.1 p.2) := by
  induction a generalizing b with
  | nil => simp
  | cons x a ih =>
    cases b with
    | nil => simp
    | cons y b => rw [List.zip_cons_cons, List.zip_cons_cons, List.map_cons, List.map_cons, ih, hF]
theorem high_comm (a b : Row) : high a b = high b a := zip_comm max Int.max_comm
theorem lesser_comm (a b : Row) : lesser a b = lesser b a := zip_comm min Int.min_comm
theorem zip_get {a b : Row} (F : Int → Int → Int) (h : a.length = b.length) {i : Nat} (hi : i < a.length) : ((a.zip b).map fun p => F p.1 p.2).getD i 0 = F (a.getD i 0) (b.getD i 0) := by
  have hb : i < b.length := by omega
  rw [List.getD_eq_getElem?_getD, List.getD_eq_getElem?_getD, List.getD_eq_getElem?_getD, List.getElem?_eq_getElem hi, List.getElem?_eq_getElem hb, List.getElem?_eq_getElem (by rw [List.length_map, List.length_zip]; omega)]
  simp
theorem high_at {a b : Row} (h : a.length = b.length) {i : Nat} (hi : i < a.length) : (high a b).getD i 0 = max (a.getD i 0) (b.getD i 0) := zip_get max h hi
theorem lesser_at {a b : Row} (h : a.length = b.length) {i : Nat} (hi : i < a.length) : (lesser a b).getD i 0 = min (a.getD i 0) (b.getD i 0) := zip_get min h hi
theorem high_len {a b : Row} (h : a.length = b.length) : (high a b).length = a.length := by
  unfold high
  rw [List.length_map, List.length_zip]
  omega
theorem lesser_len {a b : Row} (h : a.length = b.length) : (lesser a b).length = a.length := by
  unfold lesser
  rw [List.length_map, List.length_zip]
  omega
end LT
/-! ## LtG2 -/
set_option Elab.async false
set_option linter.all false
set_option maxRecDepth 100000
set_option maxHeartbeats 4000000
namespace LT
/-! ### deeds, without places -/
def deedF (a b : Row) (r : Tbl) : List Tbl := if odds2 a b = true then [crowdOf (high a b :: lesser a b :: r)] else []
theorem laid_set {t : Tbl} {i j : Nat} (hij : i < j) (hj : j < t.length) : laid t i j = (t.set i (high (rowAt t i) (rowAt t j))).set j (lesser (rowAt t i) (rowAt t j)) := by
  refine List.ext_getElem? fun k => ?_
  unfold laid
  rw [List.getElem?_map]
  by_cases hk : k < t.length
  · have e : ((List.range t.length).zip t)[k]? = some (k, t[k]) := List.getElem?_zip_eq_some.mpr ⟨List.getElem?_range hk, List.getElem?_eq_getElem hk⟩
    rw [e, Option.map_some, List.getElem?_set, List.getElem?_set]
    unfold laidAt
    simp only
    by_cases e1 : k = i
    · subst e1
      have : ¬ j = k := by omega
      simp [this, hk]
    · by_cases e2 : k = j
      · subst e2
        simp [e1, hk]
      · have e1' : ¬ i = k := fun z => e1 z.symm
        have e2' : ¬ j = k := fun z => e2 z.symm
        simp [e1, e2, e1', e2', hk]
  · have h1 : ((List.range t.length).zip t)[k]? = none := List.getElem?_eq_none (by rw [List.length_zip, List.length_range]; omega)
    rw [h1, Option.map_none, List.getElem?_eq_none (by rw [List.length_set, List.length_set]; omega)]
theorem laid_perm {t : Tbl} {i j : Nat} (hij : i < j) (hj : j < t.length) : (laid t i j).Perm (high (rowAt t i) (rowAt t j) :: lesser (rowAt t i) (rowAt t j) :: (t.eraseIdx j).eraseIdx i) := by
  rw [laid_set hij hj]
  exact set2_perm hij hj _ _
theorem odds_prs (t : Tbl) : oddsOf t = prs odds2 [] t := rfl
theorem filter_flat {α β : Type} (p : α → Bool) (f : α → β) : ∀ l : List α, (l.filter p).map f = l.flatMap fun x => if p x = true then [f x] else []
  | [] => rfl
  | a :: l => by
    rw [List.flatMap_cons, List.filter_cons]
    split
    · rw [List.map_cons, filter_flat p f l]
      rfl
    · rw [filter_flat p f l]
      rfl
theorem nextL_deals (t : Tbl) : nextL t = dealF deedF t := by
  have h := congrArg (List.map fun q : Row × Row × Tbl => crowdOf (high q.1 q.2.1 :: lesser q.1 q.2.1 :: q.2.2)) (deals_at odds2 [] t)
  rw [List.map_map, filter_flat] at h
  unfold nextL
  refine Eq.trans (List.map_congr_left fun p hp => ?_) h
  obtain ⟨hij, hj⟩ := odds_mem (show (p.1, p.2) ∈ oddsOf t from hp)
  exact crowd_congr (laid_perm hij hj)
theorem deedF_comm (a b : Row) (r : Tbl) : (deedF a b r).Perm (deedF b a r) := by
  unfold deedF
  rw [odds_comm, high_comm, lesser_comm]
theorem deedF_rest (a b : Row) (r r' : Tbl) (h : r.Perm r') : (deedF a b r).Perm (deedF a b r') := by
  unfold deedF
  rw [crowd_congr ((h.cons _).cons _)]
theorem nextL_perm {t u : Tbl} (h : t.Perm u) : (nextL t).Perm (nextL u) := by
  rw [nextL_deals, nextL_deals]
  exact dealF_perm h deedF deedF_comm deedF_rest
theorem nexts_perm {t u : Tbl} (h : t.Perm u) : nextsOf t = nextsOf u := nexts_congr fun _ => (nextL_perm h).mem_iff
theorem nextC : NextC := fun _ t _ => nexts_perm (crowd_perm t)
theorem oddsN_nextL (t : Tbl) : oddsN t = (nextL t).length := by
  unfold nextL oddsN
  rw [List.length_map]
theorem oddsN_perm {t u : Tbl} (h : t.Perm u) : oddsN t = oddsN u := by
  rw [oddsN_nextL, oddsN_nextL, (nextL_perm h).length_eq]
/-- how many of l are at odds with a -/
def cnt (a : Row) (l : Tbl) : Nat := (l.filter (odds2 a)).length
theorem pick_cnt (a : Row) (l : Tbl) : ∀ G : Tbl → Tbl, ((picks l).flatMap fun p => deedF a p.1 (G p.2)).length = cnt a l := by
  induction l with
  | nil => exact fun _ => rfl
  | cons b l ih =>
    intro G
    show (((b, l) :: (picks l).map fun p => (p.1, b :: p.2)).flatMap _).length = _
    rw [List.flatMap_cons, List.flatMap_map, List.length_append]
    have := ih fun r => G (b :: r)
    rw [this]
    unfold cnt deedF
    rw [List.filter_cons]
    split <;> simp <;> omega
theorem oddsN_cons (a : Row) (l : Tbl) : oddsN (a :: l) = cnt a l + oddsN l := by
  have key : ∀ (l : Tbl) (G : Tbl → Tbl), (dealF (fun b c r => deedF b c (G r)) l).length = (dealF deedF l).length := by
    intro l
    induction l with
    | nil => exact fun _ => rfl
    | cons b l ih =>
      intro G
      rw [dealF_cons, dealF_cons, List.length_append, List.length_append, ih fun r => G (b :: r), ih fun r => (b :: r)]
      congr 1
      unfold pickF
      rw [pick_cnt b l G]
      exact (pick_cnt b l id).symm
  rw [oddsN_nextL, oddsN_nextL, nextL_deals, nextL_deals, dealF_cons, List.length_append, key l fun r => a :: r]
  congr 1
  exact pick_cnt a l id
theorem cnt_cons (a b : Row) (l : Tbl) : cnt a (b :: l) = (if odds2 a b = true then 1 else 0) + cnt a l := by
  unfold cnt
  rw [List.filter_cons]
  split
  · rw [List.length_cons]; omega
  · omega
theorem odds_iff {a b : Row} : odds2 a b = true ↔ ¬ over a b = true ∧ ¬ over b a = true := by
  unfold odds2
  cases over a b <;> cases over b a <;> simp
/-- one more row: no more of its pairs are at odds behind the deed -/
theorem deed_row {g : Nat} {a b c : Row} (ha : a.length = g) (hb : b.length = g) (hc : c.length = g) : (if odds2 (high a b) c = true then 1 else 0) + (if odds2 (lesser a b) c = true then 1 else 0) ≤ (if odds2 a c = true then 1 else 0) + (if odds2 b c = true then 1 else 0) := by
  have hh : (high a b).length = g := by rw [high_len (by omega)]; exact ha
  have hl : (lesser a b).length = g := by rw [lesser_len (by omega)]; exact ha
  have H : ∀ i, i < g → (high a b).getD i 0 = max (a.getD i 0) (b.getD i 0) := fun i hi => high_at (by omega) (by omega)
  have Lo : ∀ i, i < g → (lesser a b).getD i 0 = min (a.getD i 0) (b.getD i 0) := fun i hi => lesser_at (by omega) (by omega)
  have o1 := over_iff (a := a) (b := c) (by omega)
  have o2 := over_iff (a := c) (b := a) (by omega)
  have o3 := over_iff (a := b) (b := c) (by omega)
  have o4 := over_iff (a := c) (b := b) (by omega)
  have o5 := over_iff (a := high a b) (b := c) (by omega)
  have o6 := over_iff (a := c) (b := high a b) (by omega)
  have o7 := over_iff (a := lesser a b) (b := c) (by omega)
  have o8 := over_iff (a := c) (b := lesser a b) (by omega)
  rw [ha] at o1
  rw [hc] at o2 o4 o6 o8
  rw [hb] at o3
  rw [hh] at o5
  rw [hl] at o7
  have r1 : over a c = true → over (high a b) c = true := fun h => o5.mpr fun i hi => by have := o1.mp h i hi; rw [H i hi]; omega
  have r2 : over b c = true → over (high a b) c = true := fun h => o5.mpr fun i hi => by have := o3.mp h i hi; rw [H i hi]; omega
  have r3 : over c a = true → over c (lesser a b) = true := fun h => o8.mpr fun i hi => by have := o2.mp h i hi; rw [Lo i hi]; omega
  have r4 : over c b = true → over c (lesser a b) = true := fun h => o8.mpr fun i hi => by have := o4.mp h i hi; rw [Lo i hi]; omega
  have r5 : over a c = true → over b c = true → over (lesser a b) c = true := fun h h' => o7.mpr fun i hi => by have := o1.mp h i hi; have := o3.mp h' i hi; rw [Lo i hi]; omega
  have r6 : over c a = true → over c b = true → over c (high a b) = true := fun h h' => o6.mpr fun i hi => by have := o2.mp h i hi; have := o4.mp h' i hi; rw [H i hi]; omega
  simp only [odds_iff]
  by_cases p1 : over a c = true <;> by_cases p2 : over c a = true <;> by_cases p3 : over b c = true <;> by_cases p4 : over c b = true <;> simp_all <;> (try split) <;> (try split) <;> omega
theorem deed_cnt {g : Nat} {a b : Row} (ha : a.length = g) (hb : b.length = g) : ∀ {r : Tbl}, (∀ c ∈ r, c.length = g) → cnt (high a b) r + cnt (lesser a b) r ≤ cnt a r + cnt b r
  | [], _ => by simp [cnt]
  | c :: r, h => by
    rw [cnt_cons, cnt_cons, cnt_cons, cnt_cons]
    have := deed_row ha hb (h c List.mem_cons_self)
    have := deed_cnt ha hb (r := r) fun x hx => h x (List.mem_cons_of_mem _ hx)
    omega
theorem high_over {g : Nat} {a b : Row} (ha : a.length = g) (hb : b.length = g) : odds2 (high a b) (lesser a b) = false := by
  have hh : (high a b).length = g := by rw [high_len (by omega)]; exact ha
  have hl : (lesser a b).length = g := by rw [lesser_len (by omega)]; exact ha
  have : over (high a b) (lesser a b) = true := (over_iff (by omega)).mpr fun i hi => by
    rw [high_at (by omega) (by omega), lesser_at (by omega) (by omega)]
    omega
  unfold odds2
  rw [this]
  rfl
/-- what a deed is -/
theorem next_is {t u : Tbl} (h : u ∈ nextsOf t) : ∃ a b r, t.Perm (a :: b :: r) ∧ odds2 a b = true ∧ u = crowdOf (high a b :: lesser a b :: r) := by
  rw [nexts_mem_iff, nextL_deals] at h
  obtain ⟨⟨a, b, r⟩, hm, hu⟩ := List.mem_flatMap.mp h
  unfold deedF at hu
  simp only at hu
  by_cases o : odds2 a b = true
  · rw [if_pos o] at hu
    exact ⟨a, b, r, deals_mem hm, o, List.mem_singleton.mp hu⟩
  · rw [if_neg o] at hu
    cases hu
theorem less : Less := fun g t u h hu => by
  obtain ⟨a, b, r, hp, o, rfl⟩ := next_is hu
  have hk : OkW g (a :: b :: r) := h.perm hp.symm
  have hl : ∀ c ∈ a :: b :: r, c.length = g := fun c hc => (hk.2.2.2.2 c hc).1
  have ha := hl a (by simp)
  have hb := hl b (by simp)
  rw [oddsN_perm hp, oddsN_perm (crowd_perm _), oddsN_cons, oddsN_cons, oddsN_cons, oddsN_cons, cnt_cons, cnt_cons, high_over ha hb, o]
  have := deed_cnt ha hb (r := r) fun c hc => hl c (by simp [hc])
  simp
  omega
end LT
/-! ## LtG3 -/
set_option Elab.async false
set_option linter.all false
set_option maxRecDepth 100000
set_option maxHeartbeats 4000000
namespace LT
/-! ### towers -/
theorem over_le : ∀ {a b : Row}, a.length = b.length → over a b = true → b ≤ a
  | [], [], _, _ => List.le_refl _
  | [], _ :: _, h, _ => by simp at h
  | _ :: _, [], h, _ => by simp at h
  | x :: a, y :: b, h, o => by
    unfold over at o
    rw [List.zip_cons_cons, List.all_cons, Bool.and_eq_true] at o
    have h1 : y ≤ x := of_decide_eq_true o.1
    have h2 := over_le (a := a) (b := b) (by simpa using h) o.2
    rw [List.cons_le_cons_iff]
    rcases Int.lt_or_eq_of_le h1 with z | z
    · exact .inl z
    · exact .inr ⟨z, h2⟩
theorem col_perm {t u : Tbl} (h : t.Perm u) (k : Nat) : (colOf t k).Perm (colOf u k) := h.map _
theorem side_congr {t u : Tbl} {k : Nat} (h : (colOf t k).Perm (colOf u k)) : sideOf t k = sideOf u k := by
  rw [side_le, side_le, sort_uniq (fun a b c => Int.le_trans) (fun a b => Int.le_total a b) (fun a b => Int.le_antisymm) h]
theorem tower_congr {g : Nat} {t u : Tbl} (ht : OkW g t) (hu : OkW g u) (hl : t.length = u.length) (h : ∀ k, (colOf t k).Perm (colOf u k)) : towerOf t = towerOf u := by
  obtain ⟨_, _, e1, _, l1⟩ := ht.row ht.pos
  obtain ⟨_, _, e2, _, l2⟩ := hu.row hu.pos
  unfold towerOf
  rw [e1, e2, l1, l2, hl]
  refine List.map_congr_left fun i _ => List.map_congr_left fun k _ => ?_
  rw [side_congr (h k)]
theorem tower_perm {g : Nat} {t u : Tbl} (ht : OkW g t) (h : t.Perm u) : towerOf t = towerOf u := tower_congr ht (ht.perm h.symm) h.length_eq (col_perm h)
theorem OkW.row_len {g : Nat} {t : Tbl} (h : OkW g t) {r : Row} (hr : r ∈ t) : r.length = g := (h.2.2.2.2 r hr).1
theorem next_len {t u : Tbl} (h : u ∈ nextsOf t) : u.length = t.length := by
  obtain ⟨p, _, rfl⟩ := nexts_iff.mp h
  unfold nextAt
  rw [crowd_len, laid_len]
theorem next_tower {g : Nat} {t u : Tbl} (h : OkW g t) (hu : u ∈ nextsOf t) : towerOf u = towerOf t := by
  have hku := next_ok h hu
  have hlu := next_len hu
  obtain ⟨a, b, r, hp, o, e⟩ := next_is hu
  have hk : OkW g (a :: b :: r) := h.perm hp.symm
  have ha : a.length = g := hk.row_len (by simp)
  have hb : b.length = g := hk.row_len (by simp)
  have hpu : u.Perm (high a b :: lesser a b :: r) := by rw [e]; exact crowd_perm _
  refine tower_congr hku h hlu fun k => (col_perm hpu k).trans (List.Perm.trans ?_ (col_perm hp k).symm)
  show (((high a b).getD k 0) :: ((lesser a b).getD k 0) :: colOf r k).Perm ((a.getD k 0) :: (b.getD k 0) :: colOf r k)
  by_cases hkg : k < g
  · rw [high_at (by omega) (by omega), lesser_at (by omega) (by omega)]
    rcases Int.le_total (a.getD k 0) (b.getD k 0) with z | z
    · rw [Int.max_eq_right z, Int.min_eq_left z]
      exact .swap _ _ _
    · rw [Int.max_eq_left z, Int.min_eq_right z]
  · have e0 : ∀ c : Row, c.length = g → c.getD k 0 = 0 := fun c hc => by
      rw [List.getD_eq_getElem?_getD, List.getElem?_eq_none (by omega)]
      rfl
    rw [e0 _ (by rw [high_len (by omega)]; exact ha), e0 _ (by rw [lesser_len (by omega)]; exact ha), e0 _ ha, e0 _ hb]
/-- no odds: rows over one another -/
theorem no_odds {t : Tbl} (h : oddsOf t = []) {i j : Nat} (hij : i < j) (hj : j < t.length) : odds2 (rowAt t i) (rowAt t j) = false := by
  cases e : odds2 (rowAt t i) (rowAt t j) with
  | false => rfl
  | true =>
    have : (i, j) ∈ oddsOf t := by
      unfold oddsOf oddsIn
      refine List.mem_flatMap.mpr ⟨i, List.mem_range.mpr (by omega), List.mem_map.mpr ⟨j, List.mem_filter.mpr ⟨?_, e⟩, rfl⟩⟩
      rw [List.mem_range'_1]
      omega
    rw [h] at this
    cases this
theorem oddsN_zero {t : Tbl} : oddsN t = 0 ↔ oddsOf t = [] := by
  unfold oddsN
  exact List.length_eq_zero_iff
theorem rowAt_get {t : Tbl} {i : Nat} (h : i < t.length) : rowAt t i = t[i] := by
  unfold rowAt
  rw [List.getD_eq_getElem?_getD, List.getElem?_eq_getElem h]
  rfl
theorem tower_of_none {g : Nat} {t : Tbl} (h : OkW g t) (ho : oddsOf t = []) : crowdOf t = towerOf t := by
  have hc : OkW g (crowdOf t) := h.crowd
  have hoc : oddsOf (crowdOf t) = [] := by
    rw [← oddsN_zero, oddsN_perm (crowd_perm t), oddsN_zero]
    exact ho
  rw [tower_perm h (crowd_perm t).symm]
  have hd := crowd_down t
  generalize crowdOf t = c at hc hoc hd
  have dn : ∀ k, k < g → sideOf c k = colOf c k := fun k hk => by
    rw [side_le]
    have hs : (colOf c k).Pairwise fun a b => b ≤ a := by
      unfold colOf
      rw [List.pairwise_map]
      refine List.pairwise_iff_getElem.mpr fun i j hi hj hij => ?_
      have hle : c[j] ≤ c[i] := List.pairwise_iff_getElem.mp hd i j hi hj hij
      have li : c[i].length = g := hc.row_len (List.getElem_mem hi)
      have lj : c[j].length = g := hc.row_len (List.getElem_mem hj)
      have no := no_odds hoc hij hj
      rw [rowAt_get hi, rowAt_get hj] at no
      have ov : over c[i] c[j] = true := by
        cases e : over c[i] c[j] with
        | true => rfl
        | false =>
          have e2 : over c[j] c[i] = true := by
            unfold odds2 at no
            rw [e] at no
            simpa using no
          have e3 : c[i] = c[j] := r_an _ _ (over_le (by omega) e2) hle
          rw [← e3] at e2
          rw [← e3, e2] at e
          cases e
      exact (over_iff (by omega)).mp ov k (by omega)
    have h2 : (((colOf c k).mergeSort fun a b => decide (a ≤ b)).reverse).Pairwise fun a b => b ≤ a := by
      rw [List.pairwise_reverse]
      exact sort_pair (fun a b c => Int.le_trans) (fun a b => Int.le_total a b) _
    exact List.Perm.eq_of_pairwise (le := fun a b : Int => b ≤ a) (fun a b _ _ h1 h2 => Int.le_antisymm h2 h1) h2 hs ((List.reverse_perm _).trans (List.mergeSort_perm _ _))
  obtain ⟨_, _, e1, _, l1⟩ := hc.row hc.pos
  unfold towerOf
  refine List.ext_getElem (by simp) fun i hi hi2 => ?_
  have li : c[i].length = g := hc.row_len (List.getElem_mem hi)
  rw [List.getElem_map, List.getElem_range, e1, l1]
  refine List.ext_getElem (by simp [li]) fun k hk hk2 => ?_
  rw [List.getElem_map, List.getElem_range, dn k (by omega)]
  unfold colOf
  rw [List.getD_eq_getElem?_getD, List.getElem?_map, List.getElem?_eq_getElem hi, Option.map_some, Option.getD_some, List.getD_eq_getElem?_getD, List.getElem?_eq_getElem hk]
  rfl
/-- deeds lead to the tower -/
theorem to_tower {g : Nat} : ∀ (n : Nat) {t : Tbl}, OkW g t → crowdOf t = t → oddsN t ≤ n → ∃ m, Path m t (towerOf t) ∧ oddsOf (towerOf t) = []
  | n, t, h, hc, hn => by
    by_cases ho : oddsOf t = []
    · rw [← tower_of_none h ho, hc]
      exact ⟨0, .nil _, ho⟩
    · have hne : nextsOf t ≠ [] := fun e => ho (nexts_nil.mp e)
      obtain ⟨u, l, e⟩ := List.exists_cons_of_ne_nil hne
      have hu : u ∈ nextsOf t := by rw [e]; exact List.mem_cons_self
      have hlt := less g t u h hu
      cases n with
      | zero => omega
      | succ n =>
        obtain ⟨m, p, q⟩ := to_tower n (next_ok h hu) (next_crowd hu) (by omega)
        rw [next_tower h hu] at p q
        exact ⟨m + 1, Path.cons hu p, q⟩
theorem rch_tower {g : Nat} {t : Tbl} (h : OkW g t) : Rch (crowdOf t) (towerOf t) ∧ oddsOf (towerOf t) = [] := by
  obtain ⟨m, p, q⟩ := to_tower _ h.crowd (crowd_idem t) (Nat.le_refl _)
  rw [tower_perm h.crowd (crowd_perm t)] at p q
  exact ⟨⟨m, p⟩, q⟩
theorem Path.crowd {n : Nat} {a b : Tbl} (p : Path n a b) (h : crowdOf a = a) : crowdOf b = b := by
  cases p with
  | nil => exact h
  | snoc p hc => exact next_crowd hc
theorem Path.tower {g n : Nat} {a b : Tbl} (p : Path n a b) (h : OkW g a) : towerOf b = towerOf a := by
  induction p with
  | nil => rfl
  | snoc p hc ih => rw [next_tower (p.ok h) hc, ih h]
theorem Path.len {n : Nat} {a b : Tbl} (p : Path n a b) : b.length = a.length := by
  induction p with
  | nil => rfl
  | snoc p hc ih => rw [next_len hc, ih]
theorem tower_crowd {g : Nat} {t : Tbl} (h : OkW g t) : crowdOf (towerOf t) = towerOf t := by
  obtain ⟨⟨m, p⟩, _⟩ := rch_tower h
  exact p.crowd (crowd_idem t)
theorem tower_ok {g : Nat} {t : Tbl} (h : OkW g t) : OkW g (towerOf t) := by
  obtain ⟨⟨m, p⟩, _⟩ := rch_tower h
  exact p.ok h.crowd
theorem tower_len {g : Nat} {t : Tbl} (h : OkW g t) : (towerOf t).length = t.length := by unfold towerOf; simp
/-- where deeds end is the tower -/
theorem end_tower {g n : Nat} {t u : Tbl} (h : OkW g t) (p : Path n (crowdOf t) u) (ho : oddsOf u = []) : u = towerOf t := by
  rw [← p.crowd (crowd_idem t), tower_of_none (p.ok h.crowd) ho, p.tower h.crowd, tower_perm h.crowd (crowd_perm t)]
end LT
/-! ## LtG4 -/
set_option Elab.async false
set_option linter.all false
set_option maxRecDepth 100000
set_option maxHeartbeats 4000000
namespace LT
/-! ### worths -/
theorem mex_le (xs : List Nat) : mex xs ≤ xs.length := by
  have h := nodup_sub (l := List.range (mex xs)) (m := xs) List.nodup_range fun i hi => (mex_ok xs).1 i (List.mem_range.mp hi)
  rwa [List.length_range] at h
section
variable {g : Nat} {t u : Tbl}
theorem worth_next (h : OkW g t) (hu : u ∈ nextsOf t) : worth u ≠ worth t := fun e => by
  rw [worth_eq less h] at e
  exact (mex_ok ((nextsOf t).map worth)).2 (e ▸ List.mem_map_of_mem hu)
theorem worth_less (h : OkW g t) {n : Nat} (hn : n < worth t) : ∃ u ∈ nextsOf t, worth u = n := by
  rw [worth_eq less h] at hn
  exact List.mem_map.mp ((mex_ok ((nextsOf t).map worth)).1 n hn)
theorem worth_le (h : OkW g t) : worth t ≤ (nextsOf t).length := by
  rw [worth_eq less h]
  have := mex_le ((nextsOf t).map worth)
  rwa [List.length_map] at this
theorem worth_end (h : OkW g t) (ho : nextsOf t = []) : worth t = 0 := by
  have := worth_le h
  rw [ho] at this
  exact Nat.le_zero.mp this
theorem win_iff (h : OkW g t) : (∃ u ∈ nextsOf t, worth u = 0) ↔ 0 < worth t := ⟨fun ⟨u, hu, e⟩ => by have := worth_next h hu; omega, fun hw => worth_less h hw⟩
/-- one of two games -/
theorem both_iff {g' : Nat} {s : Tbl} (h : OkW g t) (h' : OkW g' s) : ((∃ u ∈ nextsOf t, worth u = worth s) ∨ ∃ u ∈ nextsOf s, worth u = worth t) ↔ worth t ≠ worth s := by
  constructor
  · rintro (⟨u, hu, e⟩ | ⟨u, hu, e⟩)
    · exact fun z => worth_next h hu (by omega)
    · exact fun z => worth_next h' hu (by omega)
  · intro hne
    rcases Nat.lt_or_gt_of_ne hne with z | z
    · exact .inr (worth_less h' z)
    · exact .inl (worth_less h z)
/-! ### lengths -/
theorem glen_pos (h : OkW g t) (hn : nextsOf t ≠ []) : 0 < glen t := by
  rw [glen_eq less h]
  unfold lenF
  rw [if_neg hn]
  split <;> omega
theorem glen_end (h : OkW g t) (hn : nextsOf t = []) : glen t = 0 := by
  rw [glen_eq less h]
  unfold lenF
  rw [if_pos hn]
theorem glen_parity : ∀ (n : Nat) {t : Tbl}, OkW g t → oddsN t ≤ n → (glen t % 2 = 1 ↔ 0 < worth t)
  | n, t, h, hn => by
    by_cases hne : nextsOf t = []
    · rw [glen_end h hne, worth_end h hne]
      omega
    · obtain ⟨u, hu, e, hw⟩ := good_next less h (glen_pos h hne)
      have hlt := less g t u h hu
      cases n with
      | zero => omega
      | succ n =>
        have ih := glen_parity n (next_ok h hu) (by omega)
        have hnw := worth_next h hu
        rcases Nat.eq_zero_or_pos (worth t) with z | z
        · have : 0 < worth u := by omega
          have := ih.mpr this
          omega
        · have := hw z
          have h0 : ¬ glen u % 2 = 1 := fun q => by have := ih.mp q; omega
          omega
theorem glen_path : ∀ (n : Nat) {t : Tbl}, OkW g t → oddsN t ≤ n → ∃ u, Path (glen t) t u ∧ nextsOf u = []
  | n, t, h, hn => by
    by_cases hne : nextsOf t = []
    · rw [glen_end h hne]
      exact ⟨t, .nil _, hne⟩
    · obtain ⟨u, hu, e, _⟩ := good_next less h (glen_pos h hne)
      have hlt := less g t u h hu
      cases n with
      | zero => omega
      | succ n =>
        obtain ⟨s, p, q⟩ := glen_path n (next_ok h hu) (by omega)
        rw [← e]
        exact ⟨s, Path.cons hu p, q⟩
theorem maxL_ge {xs : List Nat} {x : Nat} (h : x ∈ xs) : x ≤ maxL xs := (maxL_ok (List.ne_nil_of_mem h)).2 x h
theorem glen_lost (h : OkW g t) (hw : worth t = 0) (hu : u ∈ nextsOf t) : glen u + 1 ≤ glen t := by
  rw [glen_eq less h]
  unfold lenF
  rw [if_neg (List.ne_nil_of_mem hu), if_neg (by omega)]
  have := maxL_ge (List.mem_map_of_mem (f := glen) hu)
  omega
end
/-! ### few deeds -/
def fewP : Nat → Bool → Tbl → Bool
  | 0, _, t => (nextsOf t).isEmpty
  | m + 1, b, t => (nextsOf t).isEmpty || bif b then (nextsOf t).any (fewP m (!b)) else (nextsOf t).all (fewP m (!b))
section
variable {g : Nat} {t u : Tbl}
theorem few_end {m : Nat} {b : Bool} (h : nextsOf t = []) : fewP m b t = true := by
  cases m <;> simp [fewP, h]
theorem few_any {m : Nat} (hu : u ∈ nextsOf t) (h : fewP m false u = true) : fewP (m + 1) true t = true := by
  unfold fewP
  rw [Bool.or_eq_true]
  exact .inr (List.any_eq_true.mpr ⟨u, hu, h⟩)
theorem few_all {m : Nat} (h : ∀ u ∈ nextsOf t, fewP m true u = true) : fewP (m + 1) false t = true := by
  unfold fewP
  rw [Bool.or_eq_true]
  exact .inr (List.all_eq_true.mpr h)
theorem few_cases {m : Nat} {b : Bool} (h : fewP (m + 1) b t = true) : nextsOf t = [] ∨ (b = true ∧ ∃ u ∈ nextsOf t, fewP m false u = true) ∨ (b = false ∧ ∀ u ∈ nextsOf t, fewP m true u = true) := by
  unfold fewP at h
  rw [Bool.or_eq_true] at h
  rcases h with h | h
  · exact .inl (List.isEmpty_iff.mp h)
  · cases b with
    | true => exact .inr (.inl ⟨rfl, List.any_eq_true.mp h⟩)
    | false => exact .inr (.inr ⟨rfl, List.all_eq_true.mp h⟩)
theorem few_mono : ∀ (m : Nat) (b : Bool) {t : Tbl}, fewP m b t = true → fewP (m + 1) b t = true
  | 0, b, t, h => few_end (List.isEmpty_iff.mp h)
  | m + 1, b, t, h => by
    rcases few_cases h with h | ⟨rfl, u, hu, h⟩ | ⟨rfl, h'⟩
    · exact few_end h
    · exact few_any hu (few_mono m false h)
    · exact few_all fun u hu => few_mono m true (h' u hu)
theorem few_le {m n : Nat} {b : Bool} (hmn : m ≤ n) (h : fewP m b t = true) : fewP n b t = true := by
  induction hmn with
  | refl => exact h
  | step _ ih => exact few_mono _ _ ih
theorem few_path : ∀ (m : Nat) (b : Bool) {t : Tbl}, fewP m b t = true → ∃ n u, n ≤ m ∧ Path n t u ∧ nextsOf u = []
  | 0, b, t, h => ⟨0, t, Nat.le_refl _, .nil _, List.isEmpty_iff.mp h⟩
  | m + 1, b, t, h => by
    by_cases hne : nextsOf t = []
    · exact ⟨0, t, by omega, .nil _, hne⟩
    · rcases few_cases h with h | ⟨rfl, u, hu, h⟩ | ⟨rfl, h'⟩
      · exact absurd h hne
      · obtain ⟨n, s, h1, p, q⟩ := few_path m _ h
        exact ⟨n + 1, s, by omega, Path.cons hu p, q⟩
      · obtain ⟨u, l, e⟩ := List.exists_cons_of_ne_nil hne
        have hu : u ∈ nextsOf t := by rw [e]; exact List.mem_cons_self
        obtain ⟨n, s, h1, p, q⟩ := few_path m _ (h' u hu)
        exact ⟨n + 1, s, by omega, Path.cons hu p, q⟩
theorem few_bound : ∀ (m : Nat) (b : Bool) {t : Tbl}, (∀ n u, Path n t u → n ≤ m) → fewP m b t = true
  | 0, b, t, h => by
    by_cases hne : nextsOf t = []
    · exact few_end hne
    · obtain ⟨u, l, e⟩ := List.exists_cons_of_ne_nil hne
      have hu : u ∈ nextsOf t := by rw [e]; exact List.mem_cons_self
      have := h 1 u (.snoc (.nil _) hu)
      omega
  | m + 1, b, t, h => by
    have hs : ∀ u ∈ nextsOf t, ∀ b, fewP m b u = true := fun u hu b => few_bound m b fun n s p => by have := h _ _ (Path.cons hu p); omega
    by_cases hne : nextsOf t = []
    · exact few_end hne
    · obtain ⟨u, l, e⟩ := List.exists_cons_of_ne_nil hne
      have hu : u ∈ nextsOf t := by rw [e]; exact List.mem_cons_self
      cases b with
      | true => exact few_any hu (hs u hu _)
      | false => exact few_all fun u hu => hs u hu _
theorem few_glen : ∀ (n : Nat) {t : Tbl}, OkW g t → oddsN t ≤ n → fewP (glen t) (decide (0 < worth t)) t = true
  | n, t, h, hn => by
    by_cases hne : nextsOf t = []
    · exact few_end hne
    · obtain ⟨u, hu, e, hw⟩ := good_next less h (glen_pos h hne)
      have hlt := less g t u h hu
      cases n with
      | zero => omega
      | succ n =>
        have ih : ∀ u ∈ nextsOf t, fewP (glen u) (decide (0 < worth u)) u = true := fun u hu => few_glen n (next_ok h hu) (by have := less g t u h hu; omega)
        rcases Nat.eq_zero_or_pos (worth t) with z | z
        · rw [decide_eq_false (by omega)]
          obtain ⟨k, hk⟩ : ∃ k, glen t = k + 1 := ⟨glen t - 1, by omega⟩
          rw [hk]
          refine few_all fun s hs => ?_
          have h1 := ih s hs
          have h2 := worth_next h hs
          have h3 := glen_lost h z hs
          rw [decide_eq_true (by omega)] at h1
          exact few_le (by omega) h1
        · rw [decide_eq_true z, ← e]
          have h1 := ih u hu
          rw [decide_eq_false (by have := hw z; omega)] at h1
          exact few_any hu h1
theorem Path.trans {m n : Nat} {a b c : Tbl} (p : Path m a b) (q : Path n b c) : Path (m + n) a c := by
  induction q with
  | nil => exact p
  | snoc q hc ih => exact .snoc (ih p) hc
end
/-! ### what the law asks of one table -/
section
variable {g : Nat} {t : Tbl}
theorem least_few {l : Nat} (h : OkW g t) (hl : ∀ n, Path n (crowdOf t) (crowdOf (towerOf t)) → l ≤ n) (h0 : 0 < l) : fewP (l - 1) true (crowdOf t) = false := by
  rw [tower_crowd h] at hl
  cases e : fewP (l - 1) true (crowdOf t) with
  | false => rfl
  | true =>
    obtain ⟨n, u, h1, p, q⟩ := few_path _ _ e
    rw [end_tower h p (nexts_nil.mp q)] at p
    have := hl n p
    omega
theorem most_few {y : Nat} (h : OkW g t) (hl : ∀ n, Path n (crowdOf t) (crowdOf (towerOf t)) → n ≤ y) : fewP y true (crowdOf t) = true := by
  rw [tower_crowd h] at hl
  refine few_bound _ _ fun n u p => ?_
  obtain ⟨m, q, _⟩ := to_tower (oddsN u) (p.ok h.crowd) (p.crowd (crowd_idem t)) (Nat.le_refl _)
  rw [p.tower h.crowd, tower_perm h.crowd (crowd_perm t)] at q
  have := hl _ (p.trans q)
  omega
theorem glen_tower (h : OkW g t) : Path (glen (crowdOf t)) (crowdOf t) (crowdOf (towerOf t)) := by
  obtain ⟨u, p, q⟩ := glen_path _ h.crowd (Nat.le_refl _)
  rw [tower_crowd h, ← end_tower h p (nexts_nil.mp q)]
  exact p
end
end LT
/-! ## LtG5 -/
set_option Elab.async false
set_option linter.all false
set_option maxRecDepth 100000
set_option maxHeartbeats 4000000
namespace LT
/-! ### how often each is made -/
def tally (l : List Tbl) : List (Tbl × Nat) := l.foldl (fun f u => putA f u ((getA f u).getD 0 + 1)) []
theorem steps_tally (t : Tbl) : stepsOf t = tally (nextL t) := by
  unfold tally nextL
  rw [List.foldl_map]
  rfl
theorem tally_nodup (l : List Tbl) : ((tally l).map (·.1)).Nodup := by
  have key : ∀ (l : List Tbl) (f : List (Tbl × Nat)), (f.map (·.1)).Nodup → ((l.foldl (fun f u => putA f u ((getA f u).getD 0 + 1)) f).map (·.1)).Nodup := by
    intro l
    induction l with
    | nil => exact fun f h => h
    | cons p l ih =>
      intro f h
      rw [List.foldl_cons]
      exact ih _ (put_nodup h _ _)
  exact key l [] (by simp)
theorem tally_get (l : List Tbl) (u : Tbl) : getA (tally l) u = if u ∈ l then some (l.count u) else none := by
  have key : ∀ (l : List Tbl) (f : List (Tbl × Nat)), getA (l.foldl (fun f u => putA f u ((getA f u).getD 0 + 1)) f) u = if u ∈ l then some ((getA f u).getD 0 + l.count u) else getA f u := by
    intro l
    induction l with
    | nil => intro f; simp
    | cons a l ih =>
      intro f
      rw [List.foldl_cons, ih, getA_put]
      by_cases e : u = a
      · subst e
        simp
        split
        · congr 1; omega
        · rename_i q
          rw [List.count_eq_zero_of_not_mem q]
      · have e' : ¬ a = u := fun z => e z.symm
        simp [e, e', List.count_cons]
  unfold tally
  rw [key l []]
  simp [getA_nil]
theorem dict_perm {α β : Type} [DecidableEq α] [DecidableEq β] {l m : List (α × β)} (hl : (l.map (·.1)).Nodup) (hm : (m.map (·.1)).Nodup) (h : ∀ a, getA l a = getA m a) : l.Perm m :=
  perm_of_mem (List.Pairwise.of_map _ (fun a b h e => h (congrArg _ e)) hl) (List.Pairwise.of_map _ (fun a b h e => h (congrArg _ e)) hm) fun x => ⟨fun q => getA_mem ((h x.1).symm.trans (getA_of_mem hl q)), fun q => getA_mem ((h x.1).trans (getA_of_mem hm q))⟩
theorem tally_perm {l m : List Tbl} (h : l.Perm m) : (tally l).Perm (tally m) := dict_perm (tally_nodup _) (tally_nodup _) fun a => by
  rw [tally_get, tally_get, h.count_eq]
  simp only [h.mem_iff]
theorem put_map {f : Tbl → Tbl} {l : List (Tbl × Nat)} {u : Tbl} {b : Nat} (hf : ∀ x ∈ l.map (·.1), f x = f u → x = u) : getA (l.map fun p => (f p.1, p.2)) (f u) = getA l u ∧ putA (l.map fun p => (f p.1, p.2)) (f u) b = (putA l u b).map fun p => (f p.1, p.2) := by
  have h1 : getA (l.map fun p => (f p.1, p.2)) (f u) = getA l u := by
    induction l with
    | nil => rfl
    | cons p l ih =>
      rw [List.map_cons]
      by_cases e : p.1 = u
      · rw [getA_pos e, getA_pos (show (f p.1, p.2).1 = f u by rw [e])]
      · rw [getA_neg e, getA_neg (show ¬ (f p.1, p.2).1 = f u from fun z => e (hf p.1 (by simp) z))]
        exact ih fun x hx => hf x (List.mem_cons_of_mem _ hx)
  refine ⟨h1, ?_⟩
  unfold putA
  rw [h1]
  split
  · rw [List.map_map, List.map_map]
    refine List.map_congr_left fun p hp => ?_
    simp only [Function.comp]
    by_cases e : p.1 = u
    · rw [if_pos e, if_pos (by rw [e])]
    · rw [if_neg e, if_neg fun z => e (hf p.1 (List.mem_map.mpr ⟨p, hp, rfl⟩) z)]
  · rw [List.map_append]
    rfl
theorem tally_map (f : Tbl → Tbl) (l : List Tbl) (hf : ∀ x ∈ l, ∀ y ∈ l, f x = f y → x = y) : tally (l.map f) = (tally l).map fun p => (f p.1, p.2) := by
  have key : ∀ (k : List Tbl) (acc : List (Tbl × Nat)), (∀ x ∈ k, x ∈ l) → (∀ x ∈ acc.map (·.1), x ∈ l) → (k.map f).foldl (fun f u => putA f u ((getA f u).getD 0 + 1)) (acc.map fun p => (f p.1, p.2)) = (k.foldl (fun f u => putA f u ((getA f u).getD 0 + 1)) acc).map fun p => (f p.1, p.2) := by
    intro k
    induction k with
    | nil => exact fun _ _ _ => rfl
    | cons a k ih =>
      intro acc hk ha
      have ham := hk a List.mem_cons_self
      rw [List.map_cons, List.foldl_cons, List.foldl_cons]
      obtain ⟨h1, h2⟩ := put_map (f := f) (l := acc) (u := a) (b := (getA acc a).getD 0 + 1) fun x hx e => hf x (ha x hx) a ham e
      rw [h1, h2]
      refine ih _ (fun x hx => hk x (List.mem_cons_of_mem _ hx)) fun x hx => ?_
      rw [put_keys] at hx
      split at hx
      · exact ha x hx
      · rcases List.mem_append.mp hx with hx | hx
        · exact ha x hx
        · rw [List.mem_singleton.mp hx]
          exact ham
  exact key l [] (fun x h => h) (by simp)
/-! ### the chance: the order does not matter -/
theorem ch_comm (f : Tbl → Int × Int) (ab : Int × Int) (s r : Tbl × Nat) : chStep f (chStep f ab s) r = chStep f (chStep f ab r) s := by
  obtain ⟨a, b⟩ := ab
  unfold chStep
  simp only [Prod.mk.injEq]
  constructor <;> grind
theorem ch_perm {f : Tbl → Int × Int} {l m : List (Tbl × Nat)} (h : l.Perm m) : ∀ ab, l.foldl (chStep f) ab = m.foldl (chStep f) ab := by
  induction h with
  | nil => exact fun _ => rfl
  | cons a _ ih => exact fun ab => ih _
  | swap a b l => exact fun ab => by rw [List.foldl_cons, List.foldl_cons, List.foldl_cons, List.foldl_cons, ch_comm]
  | trans _ _ i1 i2 => exact fun ab => (i1 ab).trans (i2 ab)
theorem ch_map {f g : Tbl → Int × Int} {k : Tbl → Tbl} : ∀ (l : List (Tbl × Nat)) (ab : Int × Int), (∀ s ∈ l, g (k s.1) = f s.1) → (l.map fun p => (k p.1, p.2)).foldl (chStep g) ab = l.foldl (chStep f) ab
  | [], _, _ => rfl
  | s :: l, ab, h => by
    rw [List.map_cons, List.foldl_cons, List.foldl_cons]
    have : chStep g ab (k s.1, s.2) = chStep f ab s := by
      unfold chStep
      simp only [h s List.mem_cons_self]
    rw [this]
    exact ch_map l _ fun x hx => h x (List.mem_cons_of_mem _ hx)
/-! ### people and goods the other way round -/
def revG (t : Tbl) : Tbl := t.map List.reverse
def flip (t : Tbl) : Tbl := crowdOf (revG t)
section
variable {g : Nat} {t : Tbl}
theorem revG_ok (h : OkW g t) : OkW g (revG t) := by
  obtain ⟨h1, h2, h3, h4, h5⟩ := h
  refine ⟨by simpa [revG] using h1, by simpa [revG] using h2, h3, h4, fun r hr => ?_⟩
  obtain ⟨s, hs, rfl⟩ := List.mem_map.mp hr
  obtain ⟨q1, q2⟩ := h5 s hs
  exact ⟨by simpa using q1, fun x hx => q2 x (List.mem_reverse.mp hx)⟩
theorem revG_rowAt {i : Nat} (hi : i < t.length) : rowAt (revG t) i = (rowAt t i).reverse := by
  rw [rowAt_get (t := revG t) (by simpa [revG] using hi), rowAt_get hi]
  unfold revG
  rw [List.getElem_map]
theorem zip_rev {a b : Row} (h : a.length = b.length) : a.reverse.zip b.reverse = (a.zip b).reverse := by
  refine List.ext_getElem (by simp [h]) fun i h1 h2 => ?_
  simp [h]
theorem over_rev {a b : Row} (h : a.length = b.length) : over a.reverse b.reverse = over a b := by
  unfold over
  rw [zip_rev h, List.all_reverse]
theorem odds_rev {a b : Row} (h : a.length = b.length) : odds2 a.reverse b.reverse = odds2 a b := by
  unfold odds2
  rw [over_rev h, over_rev h.symm]
theorem high_rev {a b : Row} (h : a.length = b.length) : high a.reverse b.reverse = (high a b).reverse := by
  unfold high
  rw [zip_rev h, List.map_reverse]
theorem lesser_rev {a b : Row} (h : a.length = b.length) : lesser a.reverse b.reverse = (lesser a b).reverse := by
  unfold lesser
  rw [zip_rev h, List.map_reverse]
theorem odds_revG (h : OkW g t) : oddsOf (revG t) = oddsOf t := by
  have hl : (revG t).length = t.length := by simp [revG]
  unfold oddsOf
  rw [hl]
  have : ∀ l : List Nat, (∀ i ∈ l, i < t.length) → l.flatMap (oddsIn (revG t)) = l.flatMap (oddsIn t) := by
    intro l
    induction l with
    | nil => exact fun _ => rfl
    | cons i l ih =>
      intro hi
      rw [List.flatMap_cons, List.flatMap_cons, ih fun j hj => hi j (List.mem_cons_of_mem _ hj)]
      congr 1
      have hi' := hi i List.mem_cons_self
      unfold oddsIn
      rw [hl]
      congr 1
      refine List.filter_congr fun j hj => ?_
      have hj := List.mem_range'_1.mp hj
      obtain ⟨_, _, e1, _, l1⟩ := h.row hi'
      obtain ⟨_, _, e2, _, l2⟩ := h.row (i := j) (by omega)
      rw [revG_rowAt hi', revG_rowAt (by omega), odds_rev (by rw [e1, e2, l1, l2])]
  exact this _ fun i hi => List.mem_range.mp hi
theorem laid_revG (h : OkW g t) {i j : Nat} (hij : i < j) (hj : j < t.length) : laid (revG t) i j = revG (laid t i j) := by
  obtain ⟨_, _, e1, _, l1⟩ := h.row (show i < t.length by omega)
  obtain ⟨_, _, e2, _, l2⟩ := h.row hj
  have hl : (rowAt t i).length = (rowAt t j).length := by rw [e1, e2, l1, l2]
  rw [laid_set hij hj, laid_set hij (by simpa [revG] using hj), revG_rowAt (by omega), revG_rowAt hj, high_rev hl, lesser_rev hl]
  unfold revG
  rw [List.map_set, List.map_set]
theorem revG_perm {u : Tbl} (h : t.Perm u) : (revG t).Perm (revG u) := h.map _
theorem nextL_revG (h : OkW g t) : nextL (revG t) = (nextL t).map flip := by
  unfold nextL
  rw [odds_revG h, List.map_map]
  refine List.map_congr_left fun p hp => ?_
  obtain ⟨hij, hj⟩ := odds_mem (show (p.1, p.2) ∈ oddsOf t from hp)
  unfold nextAt
  rw [laid_revG h hij hj]
  exact crowd_congr (revG_perm (crowd_perm _).symm)
theorem nextL_flip (h : OkW g t) : (nextL (flip t)).Perm ((nextL t).map flip) := by
  rw [← nextL_revG h]
  exact nextL_perm (crowd_perm _)
theorem flip_flip (t : Tbl) : flip (flip t) = crowdOf t := by
  have : (revG (flip t)).Perm t := by
    refine (revG_perm (crowd_perm (revG t))).trans ?_
    unfold revG
    rw [List.map_map]
    have : t.map (List.reverse ∘ List.reverse) = t := by
      refine (List.map_congr_left fun r _ => ?_).trans (List.map_id t)
      exact List.reverse_reverse r
    rw [this]
  exact crowd_congr this
theorem flip_ok (h : OkW g t) : OkW g (flip t) := (revG_ok h).crowd
theorem oddsN_flip (h : OkW g t) : oddsN (flip t) = oddsN t := by
  rw [oddsN_nextL, (nextL_flip h).length_eq, List.length_map, ← oddsN_nextL]
theorem flip_next (h : OkW g t) {u : Tbl} : u ∈ nextsOf (flip t) ↔ ∃ s ∈ nextsOf t, u = flip s := by
  rw [nexts_mem_iff, (nextL_flip h).mem_iff, List.mem_map]
  exact ⟨fun ⟨s, hs, e⟩ => ⟨s, nexts_mem_iff.mpr hs, e.symm⟩, fun ⟨s, hs, e⟩ => ⟨s, nexts_mem_iff.mp hs, e.symm⟩⟩
theorem flip_nil (h : OkW g t) : nextsOf (flip t) = [] ↔ nextsOf t = [] := by
  rw [nexts_nil, nexts_nil, ← oddsN_zero, ← oddsN_zero, oddsN_flip h]
theorem worth_flip : ∀ (n : Nat) {t : Tbl}, OkW g t → oddsN t ≤ n → worth (flip t) = worth t
  | n, t, h, hn => by
    rw [worth_eq less h, worth_eq less (flip_ok h)]
    refine mex_congr fun i => ?_
    have ih : ∀ s ∈ nextsOf t, worth (flip s) = worth s := fun s hs => by
      have hlt := less g t s h hs
      cases n with
      | zero => omega
      | succ n => exact worth_flip n (next_ok h hs) (by omega)
    rw [List.mem_map, List.mem_map]
    constructor
    · rintro ⟨u, hu, rfl⟩
      obtain ⟨s, hs, rfl⟩ := (flip_next h).mp hu
      exact ⟨s, hs, (ih s hs).symm⟩
    · rintro ⟨s, hs, rfl⟩
      exact ⟨flip s, (flip_next h).mpr ⟨s, hs, rfl⟩, ih s hs⟩
theorem minL_congr {xs ys : List Nat} (hx : xs ≠ []) (h : ∀ i, i ∈ xs ↔ i ∈ ys) : minL xs = minL ys := by
  have hy : ys ≠ [] := fun e => by
    obtain ⟨a, l, rfl⟩ := List.exists_cons_of_ne_nil hx
    have := (h a).mp List.mem_cons_self
    rw [e] at this
    cases this
  obtain ⟨a1, a2⟩ := minL_ok hx
  obtain ⟨b1, b2⟩ := minL_ok hy
  have := a2 _ ((h _).mpr b1)
  have := b2 _ ((h _).mp a1)
  omega
theorem maxL_congr {xs ys : List Nat} (hx : xs ≠ []) (h : ∀ i, i ∈ xs ↔ i ∈ ys) : maxL xs = maxL ys := by
  have hy : ys ≠ [] := fun e => by
    obtain ⟨a, l, rfl⟩ := List.exists_cons_of_ne_nil hx
    have := (h a).mp List.mem_cons_self
    rw [e] at this
    cases this
  obtain ⟨a1, a2⟩ := maxL_ok hx
  obtain ⟨b1, b2⟩ := maxL_ok hy
  have := a2 _ ((h _).mpr b1)
  have := b2 _ ((h _).mp a1)
  omega
theorem glen_flip : ∀ (n : Nat) {t : Tbl}, OkW g t → oddsN t ≤ n → glen (flip t) = glen t
  | n, t, h, hn => by
    have ih : ∀ s ∈ nextsOf t, glen (flip s) = glen s := fun s hs => by
      have hlt := less g t s h hs
      cases n with
      | zero => omega
      | succ n => exact glen_flip n (next_ok h hs) (by omega)
    rw [glen_eq less h, glen_eq less (flip_ok h)]
    unfold lenF
    by_cases hne : nextsOf t = []
    · rw [if_pos hne, if_pos ((flip_nil h).mpr hne)]
    · rw [if_neg hne, if_neg fun z => hne ((flip_nil h).mp z), worth_flip _ h (Nat.le_refl _)]
      have hf : nextsOf (flip t) ≠ [] := fun z => hne ((flip_nil h).mp z)
      by_cases hw : 0 < worth t
      · rw [if_pos hw, if_pos hw]
        congr 1
        refine minL_congr ?_ fun i => ?_
        · have := zero_next less (flip_ok h) (by rw [worth_flip _ h (Nat.le_refl _)]; exact hw)
          simpa using this
        · rw [List.mem_map, List.mem_map]
          constructor
          · rintro ⟨u, hu, rfl⟩
            obtain ⟨h1, h2⟩ := List.mem_filter.mp hu
            obtain ⟨s, hs, rfl⟩ := (flip_next h).mp h1
            rw [worth_flip _ (next_ok h hs) (Nat.le_refl _)] at h2
            exact ⟨s, List.mem_filter.mpr ⟨hs, h2⟩, (ih s hs).symm⟩
          · rintro ⟨s, hs, rfl⟩
            obtain ⟨h1, h2⟩ := List.mem_filter.mp hs
            refine ⟨flip s, List.mem_filter.mpr ⟨(flip_next h).mpr ⟨s, h1, rfl⟩, ?_⟩, ih s h1⟩
            rw [worth_flip _ (next_ok h h1) (Nat.le_refl _)]
            exact h2
      · rw [if_neg hw, if_neg hw]
        congr 1
        refine maxL_congr (by simpa using hf) fun i => ?_
        rw [List.mem_map, List.mem_map]
        constructor
        · rintro ⟨u, hu, rfl⟩
          obtain ⟨s, hs, rfl⟩ := (flip_next h).mp hu
          exact ⟨s, hs, (ih s hs).symm⟩
        · rintro ⟨s, hs, rfl⟩
          exact ⟨flip s, (flip_next h).mpr ⟨s, hs, rfl⟩, ih s hs⟩
theorem steps_flip (h : OkW g t) : (stepsOf (flip t)).Perm ((stepsOf t).map fun p => (flip p.1, p.2)) := by
  rw [steps_tally, steps_tally, ← tally_map flip]
  · exact tally_perm (nextL_flip h)
  · intro x hx y hy e
    have e2 := congrArg flip e
    rw [flip_flip, flip_flip, next_crowd (nexts_mem_iff.mpr hx), next_crowd (nexts_mem_iff.mpr hy)] at e2
    exact e2
theorem chance_flip : ∀ (n : Nat) {t : Tbl}, OkW g t → oddsN t ≤ n → chance (flip t) = chance t
  | n, t, h, hn => by
    have ih : ∀ s ∈ nextsOf t, chance (flip s) = chance s := fun s hs => by
      have hlt := less g t s h hs
      cases n with
      | zero => omega
      | succ n => exact chance_flip n (next_ok h hs) (by omega)
    have hp := steps_flip h
    rw [chance_eq less h, chance_eq less (flip_ok h)]
    unfold chanceF
    have e1 : (stepsOf (flip t)).foldl (chStep chance) (0, 1) = (stepsOf t).foldl (chStep chance) (0, 1) := by
      rw [ch_perm hp]
      exact ch_map _ _ fun s hs => ih _ (steps_mem.mp (List.mem_map.mpr ⟨s, hs, rfl⟩))
    have e2 : ((stepsOf (flip t)).map (·.2)).sum = ((stepsOf t).map (·.2)).sum := by
      rw [steps_sum, steps_sum, oddsN_flip h]
    have e3 : stepsOf (flip t) = [] ↔ stepsOf t = [] := by
      rw [← List.length_eq_zero_iff, hp.length_eq, List.length_map, List.length_eq_zero_iff]
    rw [e1, e2]
    simp only [e3]
/-! ### some chances -/
theorem chance_none (h : OkW g t) (ho : oddsN t = 0) : chance t = (0, 1) := by
  rw [chance_eq less h]
  unfold chanceF
  have : stepsOf t = [] := List.length_eq_zero_iff.mp (by have := steps_len t; omega)
  rw [if_pos this]
theorem chance_one (h : OkW g t) (ho : oddsN t = 1) : chance t = (1, 1) := by
  rw [chance_eq less h]
  have hl : (nextL t).length = 1 := by rw [← oddsN_nextL]; exact ho
  obtain ⟨u, hu⟩ := List.length_eq_one_iff.mp hl
  have hm : u ∈ nextsOf t := by rw [nexts_mem_iff, hu]; exact List.mem_cons_self
  have hlt := less g t u h hm
  have hs : stepsOf t = [(u, 1)] := by rw [steps_tally, hu]; rfl
  unfold chanceF
  rw [hs, if_neg (by simp)]
  have hc := chance_none (next_ok h hm) (show oddsN u = 0 by omega)
  simp [chStep, hc]
/-- in lowest terms -/
def lowP (x : Int × Int) : Int × Int := (x.1 / (Int.gcd x.1 x.2 : Int), x.2 / (Int.gcd x.1 x.2 : Int))
theorem low_ok {x : Int × Int} (h0 : 0 ≤ x.1) (h1 : x.1 ≤ x.2) : 0 ≤ (lowP x).1 ∧ (lowP x).1 ≤ (lowP x).2 :=
  ⟨Int.ediv_nonneg h0 (by omega), by
    unfold lowP
    rcases Nat.eq_zero_or_pos (Int.gcd x.1 x.2) with z | z
    · rw [z]; simp
    · exact Int.ediv_le_ediv (by omega) h1⟩
end
end LT
/-! ## LtCh2 -/
set_option Elab.async false
set_option linter.all false
set_option maxRecDepth 100000
set_option maxHeartbeats 8000000
namespace LT
open PySem PySem.W PySem.Spec PyProof.Rows L2 LamX

section
variable {X : Cx} {T : List (Addr × Str)} {a b : Expr} {σ : L2.St} {H : Hp} {pos : Pos} {i j : Int}
theorem v_mul (hC : CMulW i j) (ha : VE X T a pI σ H (is i)) (hb : VE X T b pI σ H (is j)) : VE X T (.BinOp a .Mult b pos) pI σ H (is (i * j)) := ve_of (pe_op op_mulW pe_o pe_o) (ev_II (fun _ => rfl) hC ha hb)
theorem v_fdiv (hC : CDivW i j) (ha : VE X T a pI σ H (is i)) (hb : VE X T b pI σ H (is j)) : VE X T (.BinOp a .FloorDiv b pos) pI σ H (is (i / j)) := ve_of (pe_op op_fdivW pe_o pe_o) (ev_II (fun _ => rfl) hC ha hb)
end
theorem nat_sm {n : Nat} (h : n < 2 ^ lim) : Sm (n : Int) := by
  show (n : Int).natAbs < _
  rw [Int.natAbs_natCast]
  exact h
theorem sub_mod (p q : Nat) : (p : Int) - (p : Int) / (q : Int) * (q : Int) = ((p % q : Nat) : Int) := by
  rw [Int.natCast_emod, Int.emod_def, Int.mul_comm]
theorem bt6 : Bt 6 = 3711 := by decide
theorem Fra.nats {x : Int × Int} (h : Fra (Bt 6) x) : ∃ a b : Nat, x = ((a : Int), (b : Int)) ∧ a ≤ b ∧ 0 < b ∧ b < 2 ^ lim := by
  obtain ⟨u, v⟩ := x
  obtain ⟨h1, h2, h3, h4⟩ := h
  simp only at h1 h2 h3 h4
  refine ⟨u.toNat, v.toNat, by rw [Int.toNat_of_nonneg h1, Int.toNat_of_nonneg (by omega)], by omega, by omega, ?_⟩
  refine Nat.lt_of_le_of_lt h4 ?_
  rw [bt6]
  exact Nat.pow_lt_pow_right (by decide) (by decide)
section
variable {P : Program} {w : World} {K : PySem.W.Frag} {mg : Str → Option Value} {base : Heap} {T : List (Addr × Str)} {f c Pt : Addr} {fd : FuncData} {k : Nat}
abbrev pLowest (T : List (Addr × Str)) : Sp := SpG T (a1 (pPair pI pI)) (fun y => Fra (Bt 6) y.1) (pPair pI pI) (fun y z => z = lowP y.1)
theorem scLowest : FnScope ["told", "top", "bottom", "one", "other"] ["told"] (defScope s_lowest) := ⟨rfl, rfl, rfl, by decide +kernel, rfl, by decide +kernel, by decide +kernel⟩
theorem f_lowest (F : FnP K "lowest" s_lowest f fd) : FnOk P w K mg base CX0 (k + 1) f fd ["told"] (pLowest T) := by
  refine fn_ok F scLowest len1 fun cdv A outer s H vs Q E ⟨x, _⟩ hr ⟨v, ws, ev, h1, h4⟩ hx hT k => ?_
  obtain rfl : ws = [] := h4
  subst ev
  have hx : Fra (Bt 6) x := hx
  obtain ⟨a, b, rfl, hab, hb0, hbl⟩ := hx.nats
  refine s_cons (s_asg hT (v_v 0 h1) (pg_tup rfl (pgs_cons (pg_name (i := 1) scLowest.nd rfl (.inl rfl)) (pgs_cons (pg_name (i := 2) scLowest.nd rfl (.inl rfl)) pgs_nil))) fun v' x' H1 e1 rv px => ?_)
  obtain ⟨u1, u2, r1, r2, hbn⟩ := bnd_pair (K := K) (i := 1) (j := 2) (σ := [some v, none, none, none, none]) rv
  rw [show x' = _ from px] at r1 r2
  obtain rfl : u1 = _ := r1
  obtain rfl : u2 = _ := r2
  refine hbn _ ?_
  refine s_cons (s_par 3 4 e1.2 rfl scLowest.nd (v_v 2 (show pI.rel H1 _ (b : Int) from rfl)) (v_v 1 (show pI.rel H1 _ (a : Int) from rfl)) fun v3 v4 H2 e2 r3 r4 => ?_)
  obtain rfl : v3 = _ := r3
  obtain rfl : v4 = _ := r4
  have hG0 : 0 < Nat.gcd b a := Nat.gcd_pos_of_pos_left _ hb0
  have hGl : Nat.gcd b a < 2 ^ lim := Nat.lt_of_le_of_lt (Nat.gcd_le_left _ hb0) hbl
  refine s_cons (s_while' rfl (s_while (T := T) (m0 := a) (fun m σ' H' => ∃ p q : Nat, σ' = [some v, some (.int (a : Int)), some (.int (b : Int)), some (.int (p : Int)), some (.int (q : Int))] ∧ Ex T H2 H' ∧ Nat.gcd p q = Nat.gcd b a ∧ 0 < p ∧ p < 2 ^ lim ∧ q < 2 ^ lim ∧ m = q) ⟨b, a, rfl, e2.here, rfl, hb0, hbl, Nat.lt_of_le_of_lt hab hbl, rfl⟩ ?_))
  rintro m σ' H' ⟨p, q, rfl, e3, hg, hp0, hpl, hql, rfl⟩
  refine ⟨!decide ((m : Int) = 0), t_c (c_neI (v_v 4 (show pI.rel H' _ (m : Int) from rfl)) (v_int (i := 0))), e3.2, fun H4 e4 => ?_⟩
  by_cases hq : m = 0
  · subst hq
    rw [if_neg (by simp)]
    obtain rfl : p = Nat.gcd b a := by rw [← hg, Nat.gcd_zero_right]
    have hd : CDivW (a : Int) ((Nat.gcd b a : Nat) : Int) := Sm.div (by omega) (nat_sm hGl)
    have hd' : CDivW (b : Int) ((Nat.gcd b a : Nat) : Int) := Sm.div (by omega) (nat_sm hGl)
    refine s_cons (s_ret e4.2 (r := pPair pI pI) (P := is (lowP ((a : Int), (b : Int)))) (ev_is (v_pair (v_fdiv hd (v_v 1 (show pI.rel H4 _ (a : Int) from rfl)) (v_v 3 (show pI.rel H4 _ ((Nat.gcd b a : Nat) : Int) from rfl))) (v_fdiv hd' (v_v 2 (show pI.rel H4 _ (b : Int) from rfl)) (v_v 3 (show pI.rel H4 _ ((Nat.gcd b a : Nat) : Int) from rfl)))) ?_) fun u z H5 e5 rl pz => k u z H5 ((((e1.trans e2).trans e3).trans e4).trans e5) rl pz)
    unfold lowP
    simp only [Int.gcd_natCast_natCast]
    rw [Nat.gcd_comm]
  · rw [if_pos (by simp; omega)]
    intro N hN
    have hpos : 0 < m := Nat.pos_of_ne_zero hq
    have hd : CDivW (p : Int) (m : Int) := Sm.div (by omega) (nat_sm hql)
    have hm : CMulW ((p : Int) / (m : Int)) (m : Int) := by
      rw [← Int.natCast_ediv]
      exact Sm.mul (nat_sm (Nat.lt_of_le_of_lt (Nat.div_le_self _ _) hpl)) (nat_sm hql)
    refine s_cons (s_par 3 4 e4.2 rfl scLowest.nd (v_v 4 (show pI.rel H4 _ (m : Int) from rfl)) (v_sub (v_v 3 (show pI.rel H4 _ (p : Int) from rfl)) (v_mul hm (v_fdiv hd (v_v 3 (show pI.rel H4 _ (p : Int) from rfl)) (v_v 4 (show pI.rel H4 _ (m : Int) from rfl))) (v_v 4 (show pI.rel H4 _ (m : Int) from rfl)))) fun v5 v6 H5 e5 r5 r6 => ?_)
    obtain rfl : v5 = _ := r5
    obtain rfl : v6 = _ := r6
    refine s_nil (hN (p % m) _ _ (Nat.mod_lt _ hpos) ⟨m, p % m, by rw [← sub_mod]; rfl, e3.trans (e4.trans e5), ?_, hpos, hql, Nat.lt_of_lt_of_le (Nat.mod_lt _ hpos) (Nat.le_of_lt hql), rfl⟩)
    rw [Nat.gcd_comm, ← Nat.gcd_rec, Nat.gcd_comm]
    exact hg
end
end LT
/-! ## LtCh3 -/
set_option Elab.async false
set_option linter.all false
set_option maxRecDepth 100000
set_option maxHeartbeats 8000000
namespace LT
open PySem PySem.W PySem.Spec PyProof.Rows L2 LamX

theorem bt5 : Bt 5 = 618 := by decide
theorem sm_of {x : Int} {n : Nat} (h0 : 0 ≤ x) (h : x.toNat ≤ 2 ^ n) (hn : n < lim) : Sm x := by
  have e : x.natAbs = x.toNat := by omega
  show x.natAbs < _
  rw [e]
  exact Nat.lt_of_le_of_lt h (Nat.pow_lt_pow_right (by decide) hn)
theorem Fra.sm {x : Int × Int} (h : Fra (Bt 5) x) : Sm x.1 ∧ Sm x.2 ∧ Sm (x.2 - x.1) := by
  obtain ⟨h1, h2, h3, h4⟩ := h
  rw [bt5] at h4
  exact ⟨sm_of h1 (n := 618) (by omega) (by decide), sm_of (by omega) h4 (by decide), sm_of (n := 618) (by omega) (by omega) (by decide)⟩
theorem Fru.sm {n M : Nat} {x : Int × Int} (h : Fru n M x) (hn : n ≤ 3708) (hM : M ≤ 6) : Sm x.1 ∧ Sm x.2 := by
  obtain ⟨h1, h2, h3, h4⟩ := h
  have h4' : x.2.toNat ≤ 2 ^ 3708 := Nat.le_trans h4 (Nat.pow_le_pow_right (by decide) hn)
  refine ⟨sm_of h1 (n := 3711) ?_ (by decide), sm_of (by omega) h4' (by decide)⟩
  have h5 : x.1 ≤ 6 * x.2 := Int.le_trans h2 (Int.mul_le_mul_of_nonneg_right (by omega) (by omega))
  have h6 : x.1.toNat ≤ 8 * x.2.toNat := by clear h4 h4'; omega
  have e : (2 : Nat) ^ 3711 = 8 * 2 ^ 3708 := by rw [show 3711 = 3 + 3708 from rfl, Nat.pow_add]
  rw [e]
  exact Nat.le_trans h6 (Nat.mul_le_mul_left _ h4')
theorem sm_prod {a b c : Int} (ha : Sm a) (hb : Sm b) (hc : Sm c) : CMulW (a * b) c := wide_mul (a := lim + lim) (b := lim) (wide_lt ha hb) hc (by decide) (by decide) (by decide)
theorem sm_nat {n : Nat} (h : n ≤ 1000) : Sm (n : Int) := nat_sm (Nat.lt_of_le_of_lt h (Nat.lt_of_lt_of_le (show 1000 < 2 ^ 10 by decide) (Nat.pow_le_pow_right (by decide) (by decide))))
/-- the sums under way -/
def chTo (l : List (Tbl × Nat)) : Int × Int := l.foldl (chStep chance) (0, 1)
theorem chTo_sm {g : Nat} {t : Tbl} (h : OkW g t) (i : Nat) : (∀ s ∈ stepsOf t, Fra (Bt 5) (chance s.1) ∧ s.2 ≤ 6) ∧ Sm (chTo ((stepsOf t).take i)).1 ∧ Sm (chTo ((stepsOf t).take i)).2 := by
  have h6 := odds_six h
  have hs := steps_sum t
  have hl := steps_len t
  have f5 : ∀ s ∈ stepsOf t, Fra (Bt 5) (chance s.1) := fun s hs => by
    have hm : s.1 ∈ nextsOf t := steps_mem.mp (List.mem_map.mpr ⟨s, hs, rfl⟩)
    have := less g t s.1 h hm
    exact (chance_fra less _ (next_ok h hm) (Nat.le_refl _)).mono (Bt_mono (by omega))
  have part : ∀ (l : List (Tbl × Nat)), ∀ s ∈ l, s.2 ≤ (l.map (·.2)).sum := by
    intro l
    induction l with
    | nil => simp
    | cons a l ih =>
      intro s hs
      rw [List.map_cons, List.sum_cons]
      rcases List.mem_cons.mp hs with rfl | hs
      · omega
      · have := ih s hs
        omega
  have tk : ∀ (l : List (Tbl × Nat)) (i : Nat), ((l.take i).map (·.2)).sum ≤ (l.map (·.2)).sum := by
    intro l
    induction l with
    | nil => simp
    | cons a l ih =>
      intro i
      cases i with
      | zero => simp
      | succ i =>
        rw [List.take_succ_cons, List.map_cons, List.map_cons, List.sum_cons, List.sum_cons]
        have := ih i
        omega
  have key := Fru.fold (f := chance) (B := Bt 5) ((stepsOf t).take i) Fru.zero fun s hs => f5 s (List.mem_of_mem_take hs)
  have h1 : ((stepsOf t).take i).length ≤ (stepsOf t).length := List.length_take_le' ..
  have h2 := tk (stepsOf t) i
  have h3 : ((stepsOf t).take i).length * Bt 5 ≤ 6 * 618 := by
    rw [bt5]
    exact Nat.mul_le_mul_right _ (by omega)
  obtain ⟨a1, a2⟩ := key.sm (by omega) (by omega)
  exact ⟨fun s hs' => ⟨f5 s hs', by have := part _ s hs'; omega⟩, a1, a2⟩
section
variable {P : Program} {w : World} {K : PySem.W.Frag} {mg : Str → Option Value} {base : Heap} {T : List (Addr × Str)} {f c Pt : Addr} {fd : FuncData} {k : Nat}
abbrev pChance (T : List (Addr × Str)) : Sp := SpG T (a1 pT) (fun y => Ok y.1) (pPair pI pI) (fun y z => z = lowP (chance (crowdOf y.1)))
theorem scChance : FnScope ["table", "tally", "here", "top", "bottom", "steps", "later", "many", "mine"] ["table"] (defScope s_first_chance) := ⟨rfl, rfl, rfl, by decide +kernel, rfl, by decide +kernel, by decide +kernel⟩
set_option maxHeartbeats 16000000 in
theorem f_chance {j j2 j3 j4 j5 j6 : Nat} (B : Blt mg) (TB : TabB base mg c Pt) (hmT : (Pt, lamQ "first_chance") ∈ T) (hu : ∀ p ∈ T, p.1 = Pt → p.2 = lamQ "first_chance") (hcd : CodeAt K f c) (Cnt : Cal P w K mg base "need_table" ["table"] j6 (pNeedTable T))
    (Cs : Cal P w K mg base "spread" ["table"] j (pSpread w T)) (Cp : Cal P w K mg base "steps_of" ["told"] j2 (pSteps w T)) (Co : Cal P w K mg base "odds_of" ["table"] j3 (pOdds T)) (Cc : Cal P w K mg base "crowd_of" ["table"] j4 (pCrowd T)) (Cl : Cal P w K mg base "lowest" ["told"] j5 (pLowest T))
    (hj : j ≤ k) (hj2 : j2 ≤ k) (hj3 : j3 + 3 ≤ k) (hj4 : j4 ≤ k) (hj5 : j5 ≤ k) (hj6 : j6 ≤ k) (F : FnP K "first_chance" s_first_chance f fd) :
    FnOk P w K mg base CX0 (k + 1) f fd ["table"] (pChance T) := by
  refine fn_okC F hcd scChance len1 fun A outer s H vs Q E ⟨x, _⟩ hr ⟨v, ws, ev, h1, h4⟩ ⟨g, hok0⟩ hT k => ?_
  obtain rfl : ws = [] := h4
  subst ev
  have hok0 : OkW g x := hok0
  have hok : OkW g (crowdOf x) := hok0.crowd
  refine s_cons (s_drop hT (r := pU) (P := fun _ => True) (v_cl Cnt (hr.mono hj6) (a_1 (v_v 0 h1)) ⟨g, hok0⟩ fun _ h => h) fun _ _ H0 e0 _ _ => ?_)
  have x0 : pT.rel H0 v x := pT.mono e0.1 h1
  generalize hc0 : crowdOf x = c0 at hok
  refine s_cons (s_setF 1 e0.2 (f_dnew (k := kT) (r := pPair pI pI)) scChance.nd fun df f0 H1 e1 fdf rf pf => ?_)
  obtain rfl : f0 = _ := pf
  obtain ⟨_, e, hdf⟩ := rf
  cases e
  have x1 : pT.rel H1 v x := pT.mono e1.1 x0
  have okr : ∀ u, Rch c0 u → OkW g u := fun u ⟨n, p⟩ => p.ok hok
  refine s_cons (s_forX (Pl := fun ys => ∃ z : FM, (∃ g, SpreadOk g c0 z) ∧ ys = (z.map (·.1)).mergeSort fun a b => decide (keyUp a ≤ keyUp b)) (O := LsO) imT e1.2 [df] (fun ys i σ'' H'' => (∀ u, u ∈ ys ↔ Rch c0 u) ∧ (ys.Pairwise fun a b => oddsN a ≤ oddsN b) ∧ ∃ f o2 o3 o4 o5 o6 o7 o8, σ'' = [some v, some (.ref df), o2, o3, o4, o5, o6, o7, o8] ∧ dictAt w kT (pPair pI pI) H'' df f ∧ DictTo g c0 chance f (ys.take i)) rfl rfl (pg_name (i := 2) scChance.nd rfl (.inl rfl)) (i_lst (EvF.ev ?hsrc)) ?_ ?_ ?_ ?_ ?_)
  case hsrc =>
    refine v_sortUp rfl B TB rfl hmT hu (hr.mono hj3) Co (v_cl Cs (hr.mono hj) (a_1 (v_v 0 x1)) ⟨g, hok0⟩ fun z h => by rw [← hc0]; exact h) ?_
    rintro z ⟨g', so⟩ y hy
    exact ⟨g, okr y ((so.mem y).mp hy)⟩
  · rintro H2 p e2 ⟨a, vs, e⟩ hp
    cases e
    have q1 := dict_ne (hdf.ext e2.1) hp
    simp [q1]
  · rintro ys H2 ⟨z, ⟨g', so⟩, rfl⟩ e2
    exact ⟨fun u => (List.mergeSort_perm _ _).mem_iff.trans (so.mem u), sort_up _, [], none, none, none, none, none, none, none, rfl, hdf.ext e2.1, DictTo.first hok⟩
  · rintro ys i σ1 H2 H3 _ ⟨q1, q2, f2, o2, o3, o4, o5, o6, o7, o8, e, q3, q4⟩ e3
    exact ⟨q1, q2, f2, o2, o3, o4, o5, o6, o7, o8, e, q3.ext e3.1, q4⟩
  · rintro ys i here u σ1 H2 _ hx m2 ⟨q1, q2, f2, o2, o3, o4, o5, o6, o7, o8, rfl, q3, q4⟩ ru
    obtain ⟨hoh, hRh, hnx⟩ := up_sorted less hok q1 q2 hx
    refine ⟨_, bnd_name, fun N' hN' => ?_⟩
    refine s_cons (s_asg m2.tabs (r := pPair pI pI) (P := is ((0 : Int), (1 : Int))) (v_pair (v_int (i := 0)) (v_int (i := 1))) (pg_tup rfl (pgs_cons (pg_name (i := 3) scChance.nd rfl (.inl rfl)) (pgs_cons (pg_name (i := 4) scChance.nd rfl (.inl rfl)) pgs_nil))) fun v' x' H3 e3 rv px => ?_)
    obtain ⟨v3, v4, r3, r4, hbn0⟩ := bnd_pair (K := K) (i := 3) (j := 4) (σ := [some v, some (.ref df), some u, o3, o4, o5, o6, o7, o8]) rv
    rw [show x' = _ from px] at r3 r4
    obtain rfl : v3 = _ := r3
    obtain rfl : v4 = _ := r4
    refine hbn0 _ ?_
    refine s_cons (s_set 5 e3.2 (r := pDF w kT pN) (P := is (stepsOf here)) (v_cl Cp (hr.mono hj2) (a_1 (v_v 2 (pT.mono e3.1 ru))) ⟨g, hoh⟩ fun _ h => h) scChance.nd fun vs st H4 e4 rs ps => ?_)
    obtain rfl : st = _ := ps
    have u4 : pT.rel H4 u here := pT.mono (e3.trans e4).1 ru
    have q34 := q3.ext (e3.trans e4).1
    refine s_cons (s_forX (imPair imT imN) e4.2 [] (fun zs jj σ'' H'' => zs = stepsOf here ∧ ∃ o6 o7 o8, σ'' = [some v, some (.ref df), some u, some (.int (chTo (zs.take jj)).1), some (.int (chTo (zs.take jj)).2), some vs, o6, o7, o8] ∧ Ex T H4 H'') rfl rfl (pg_tup rfl (pgs_cons (pg_name (i := 6) scChance.nd rfl (.inl rfl)) (pgs_cons (pg_name (i := 7) scChance.nd rfl (.inl rfl)) pgs_nil))) (i_items (k := kT) (r := pN) imN (v_v 5 rs)) (fun _ _ _ _ _ => by simp) ?_ ?_ ?_ ?_)
    · rintro zs H5 pz e5
      exact ⟨pz, o6, o7, o8, rfl, e5⟩
    · rintro zs jj σ'' H5 H6 _ ⟨pz, o6, o7, o8, e, e5⟩ e6
      exact ⟨pz, o6, o7, o8, e, e5.trans e6⟩
    · rintro zs jj ⟨y, m⟩ r σ'' H5 _ hz m5 ⟨rfl, o6, o7, o8, rfl, e5⟩ rr
      obtain ⟨u1, u2, r1, r2, hbn⟩ := bnd_pair (K := K) (i := 6) (j := 7) (σ := [some v, some (.ref df), some u, some (.int (chTo ((stepsOf here).take jj)).1), some (.int (chTo ((stepsOf here).take jj)).2), some vs, o6, o7, o8]) rr
      refine ⟨_, hbn, fun N hN => ?_⟩
      have hm : (y, m) ∈ stepsOf here := List.mem_of_getElem? hz
      have hyn : y ∈ nextsOf here := steps_mem.mp (List.mem_map.mpr ⟨_, hm, rfl⟩)
      obtain ⟨b1, b2, b3⟩ := chTo_sm hoh jj
      obtain ⟨b4, b5⟩ := b1 _ hm
      obtain ⟨b6, b7, b8⟩ := b4.sm
      have b9 : Sm (m : Int) := sm_nat (Nat.le_trans b5 (by decide))
      refine s_cons (s_set 8 m5.tabs (r := pPair pI pI) (P := is (chance y)) (v_getD (k := kT) (r := pPair pI pI) (un hr 9) (v_v 1 ⟨df, rfl, q34.ext e5.1⟩) (v_v 6 r1) (q4.val y (hnx y hyn))) scChance.nd fun vm ch H6 e6 rm pm => ?_)
      obtain rfl : ch = _ := pm
      have top6 : pI.rel H6 (.int (chTo ((stepsOf here).take jj)).1) (chTo ((stepsOf here).take jj)).1 := rfl
      have bot6 : pI.rel H6 (.int (chTo ((stepsOf here).take jj)).2) (chTo ((stepsOf here).take jj)).2 := rfl
      refine s_cons (s_par 3 4 e6.2 rfl scChance.nd
        (v_add (v_mul (Sm.mul b2 b7) (v_v 3 top6) (v_snd (v_v 8 rm))) (v_mul (sm_prod b9 b8 b3) (v_mul (Sm.mul b9 b8) (ev_i (v_v 7 (pN.mono e6.1 r2))) (v_sub (v_snd (v_v 8 rm)) (v_fst (v_v 8 rm)))) (v_v 4 bot6)))
        (v_mul (Sm.mul b3 b7) (v_v 4 bot6) (v_snd (v_v 8 rm))) fun v5 v6 H7 e7 r5 r6 => ?_)
      obtain rfl : v5 = _ := r5
      obtain rfl : v6 = _ := r6
      refine s_nil (hN _ _ (e6.trans e7).toM ⟨rfl, some u1, some u2, some vm, ?_, e5.trans (e6.trans e7)⟩)
      have : chTo ((stepsOf here).take (jj + 1)) = chStep chance (chTo ((stepsOf here).take jj)) (y, m) := by
        unfold chTo
        rw [List.take_add_one, hz, Option.toList_some, List.foldl_append]
        rfl
      rw [this]
      rfl
    · rintro zs σ'' H5 _ m5 ⟨rfl, o6, o7, o8, rfl, e5⟩
      rw [List.take_length]
      obtain ⟨b1, b2, b3⟩ := chTo_sm hoh (stepsOf here).length
      rw [List.take_length] at b2 b3
      have top5 : pI.rel H5 (.int (chTo (stepsOf here)).1) (chTo (stepsOf here)).1 := rfl
      have bot5 : pI.rel H5 (.int (chTo (stepsOf here)).2) (chTo (stepsOf here)).2 := rfl
      have rs5 := (pDF w kT pN).mono e5.1 rs
      have lf : f2.length ≤ 1957 := by
        have := reach_few less hok q4.nd fun y hy => (q1 y).mp (List.mem_of_mem_take ((q4.mem y).mp hy))
        rwa [List.length_map] at this
      have q35 := q34.ext e5.1
      have hsum : ((stepsOf here).map (·.2)).sum ≤ 6 := by rw [steps_sum]; exact odds_six hoh
      refine s_cons (s_put (k := kT) (r := pPair pI pI) (kvs := f2) (d := df) (x := here) imII m5.tabs (un hr 9) (Pv := is (chance here)) (ev_is (v_if (bx := !decide (stepsOf here = [])) (P := is (if stepsOf here = [] then (0, 1) else ((chTo (stepsOf here)).1, (chTo (stepsOf here)).2 * ((((stepsOf here).map (·.2)).sum : Nat) : Int)))) (t_c (c_neEmptyD (k := kT) (r := pN) (un hr 0) (v_v 5 rs5))) (fun hb => ?_) (fun hb => ?_)) ?_) (v_v 1 ⟨df, rfl, q35⟩) (o_var (ix := 1)) q35 (v_v 2 (pT.mono e5.1 u4)) (Nat.lt_of_le_of_lt lf (by decide)) fun p H8 H9 pp e8 m9 hd9 => ?_)
      · have hb : ¬ stepsOf here = [] := by simpa using hb
        rw [if_neg hb]
        exact v_pair (v_v 3 top5) (v_mul (Sm.mul b3 (sm_nat (Nat.le_trans hsum (by decide)))) (v_v 4 bot5) (ev_i (v_sumVals (k := kT) rfl B (v_v 5 rs5))))
      · have hb : stepsOf here = [] := by simpa using hb
        rw [if_pos hb]
        exact v_pair v_int v_int
      · rw [chance_eq less hoh]
        rfl
      · obtain rfl : p = _ := pp
        refine s_nil (hN' _ _ ((((e3.trans e4).trans (e5.trans e8)).toM).trans m9) ⟨q1, q2, _, _, _, _, _, _, _, _, rfl, hd9, ?_⟩)
        rw [List.take_add_one, hx, Option.toList_some]
        exact q4.put here
  · rintro ys σ1 H2 _ m2 ⟨q1, q2, f2, o2, o3, o4, o5, o6, o7, o8, rfl, q3, q4⟩
    rw [List.take_length] at q4
    have eH2 : Ex T H0 H2 := e1.thenM m2 (by
      intro p hp
      rw [List.mem_singleton.mp hp]
      exact fdf)
    have dk := q4.fin q1
    have x2 : pT.rel H2 v x := pT.mono eH2.1 x0
    refine s_cons (s_ret m2.tabs (r := pPair pI pI) (P := is (lowP (chance c0))) (v_cl Cl (hr.mono hj5) (a_1 (v_getD (k := kT) (r := pPair pI pI) (un hr 9) (v_v 1 ⟨df, rfl, q3⟩) (v_cl Cc (hr.mono hj4) (a_1 (v_v 0 x2)) ⟨g, hok0⟩ fun z h => h.trans hc0) (dk.val c0 (rch0 c0)))) (chance_ok less hok) fun _ h => h) fun u z H3 e3 rl pz => k u z H3 ((e0.trans eH2).trans e3) rl ?_)
    rw [show z = _ from pz, ← hc0]
end
end LT
/-! ## LtM -/
set_option Elab.async false
set_option linter.all false
set_option maxRecDepth 100000
set_option maxHeartbeats 8000000
namespace LT
open PySem PySem.W PySem.Spec PyProof.Rows L2 LamX

/-! ### evaluations that change what stands at M, J kept -/
section
variable {α β γ δ : Type}
def EvM (T : List (Addr × Str)) (M : List Addr) (J : Hp → Prop) (r : Rp α) (te : TE) (σ : L2.St) (H : Hp) (P : α → Prop) : Prop :=
  ∀ H1, ExM M T H H1 → J H1 → ∀ Q : VK, (∀ v x H2, ExM M T H1 H2 → J H2 → r.rel H2 v x → P x → Q v H2) → te σ H1 Q
def EvAM (T : List (Addr × Str)) (M : List Addr) (J : Hp → Prop) (ra : RpA α) (ta : TA) (σ : L2.St) (H : Hp) (P : α → Prop) : Prop :=
  ∀ H1, ExM M T H H1 → J H1 → ∀ Q : List V → Hp → Prop, (∀ vs x H2, ExM M T H1 H2 → J H2 → ra.rel H2 vs x → P x → Q vs H2) → ta σ H1 Q
/-- kept by all that only adds -/
def Stab (T : List (Addr × Str)) (J : Hp → Prop) : Prop := ∀ H1 H2, J H1 → Ex T H1 H2 → J H2
/-- .. and by a change of what has come later -/
structure Kp (T : List (Addr × Str)) (M : List Addr) (J : Hp → Prop) : Prop where
  ext : Stab T J
  put : ∀ H2 H6 D o o', J H2 → H2 D = none → J H6 → H6 D = some o → Soft o → J (L2.upd H6 D o')
  is : ∀ H p, J H → p ∈ M → H p ≠ none
/-- an address -/
def pAd : Rp Addr := ⟨fun _ v a => v = .ref a, fun _ h => h⟩
theorem imAd : Imm pAd := fun _ h => h
abbrev VM (X : Cx) (T : List (Addr × Str)) (M : List Addr) (J : Hp → Prop) (e : Expr) (r : Rp α) (σ : L2.St) (H : Hp) (P : α → Prop) : Prop := EvM T M J r (oE X e) σ H P
abbrev AM (X : Cx) (T : List (Addr × Str)) (M : List Addr) (J : Hp → Prop) (es : List Expr) (ra : RpA α) (σ : L2.St) (H : Hp) (P : α → Prop) : Prop := EvAM T M J ra (oA X es) σ H P
end
section
variable {α β γ δ : Type} {X : Cx} {T : List (Addr × Str)} {M : List Addr} {J : Hp → Prop} {a b c e elt tg iter : Expr} {es ifs : List Expr} {te : TE} {ta : TA} {r : Rp α} {s : Rp β} {q : Rp γ} {ra : RpA β} {σ : L2.St} {H : Hp} {P : α → Prop} {Pb : β → Prop} {v : V} {x : α} {pos p pos' : Pos} {scope : Scope}
theorem EvM.of (st : Kp T M J) (h : ∀ H1, ExM M T H H1 → J H1 → Ev T r te σ H1 P) : EvM T M J r te σ H P := fun H1 e j Q k => h H1 e j H1 (Ex.refl e.tabs) Q fun v x H2 e2 rl px => k v x H2 e2.toM (st.ext _ _ j e2) rl px
theorem EvM.imp {P' : α → Prop} (h : EvM T M J r te σ H P) (i : ∀ x, P x → P' x) : EvM T M J r te σ H P' := fun H1 e j Q k => h H1 e j Q fun v x H2 e2 j2 rl px => k v x H2 e2 j2 rl (i x px)
theorem EvM.as (f : α → β) (h : EvM T M J r te σ H P) (i : ∀ H v x, r.rel H v x → P x → s.rel H v (f x) ∧ Pb (f x)) : EvM T M J s te σ H Pb := fun H1 e j Q k => h H1 e j Q fun v x H2 e2 j2 rl px => let z := i H2 v x rl px; k v (f x) H2 e2 j2 z.1 z.2
theorem vm_of (h : PE X e te) (q : EvM T M J r te σ H P) : VM X T M J e r σ H P := fun H1 e1 j Q k pins s I => h.run pins s σ H1 Q I (q H1 e1 j Q k)
theorem am_of (h : PA X es ta) (q : EvAM T M J ra ta σ H Pb) : AM X T M J es ra σ H Pb := fun H1 e1 j Q k pos pins s I => h.run pos pins s σ H1 Q I (q H1 e1 j Q k)
/-! arguments -/
theorem am_0 : AM X T M J [] a0 σ H (is ()) := am_of pa_nil fun H1 e j Q k => k [] () H1 (ExM.refl e.tabs) j rfl rfl
theorem am_c (im : Imm r) (ha : VM X T M J e r σ H P) (hb : AM X T M J es ra σ H Pb) (hs : starEach (e :: es) X.env = (false, eval e X.env) :: starEach es X.env := by rfl) : AM X T M J (e :: es) (aC r ra) σ H (fun y => P y.1 ∧ Pb y.2) :=
  am_of (pa_cons pe_o pa_o hs) fun H1 e1 j Q k => ha H1 e1 j _ fun v x H2 e2 j2 rx px => hb H2 (e1.trans e2) j2 _ fun ws y H3 e3 j3 ry py => k (v :: ws) (x, y) H3 (e2.trans e3) j3 ⟨v, ws, rfl, im e3.tup rx, ry⟩ ⟨px, py⟩
theorem am_1 (ha : VM X T M J e r σ H P) (hs : starEach [e] X.env = (false, eval e X.env) :: starEach [] X.env := by rfl) : AM X T M J [e] (a1 r) σ H (fun y => P y.1) :=
  am_of (pa_cons pe_o pa_nil hs) fun H1 e1 j Q k => ha H1 e1 j _ fun v x H2 e2 j2 rx px => k [v] (x, ()) H2 e2 j2 ⟨v, [], rfl, rx, rfl⟩ px
theorem am_imp {Pc : β → Prop} (h : AM X T M J es ra σ H Pb) (i : ∀ x, Pb x → Pc x) : AM X T M J es ra σ H Pc := fun H1 e j Q k => h H1 e j Q fun v x H2 e2 j2 rl px => k v x H2 e2 j2 rl (i x px)
end
/-- a def's promise: it may change what stands at M x -/
def SpX {γ β : Type} (T : List (Addr × Str)) (ra : RpA γ) (pre : γ → Prop) (M : γ → List Addr) (J : γ → Hp → Prop) (r : Rp β) (P : γ → β → Prop) : Sp := fun vs H Q _ =>
  ∃ x, ra.rel H vs x ∧ pre x ∧ J x H ∧ Tabs T H ∧ ∀ u y H2, ExM (M x) T H H2 → J x H2 → r.rel H2 u y → P x y → Q u H2
section
variable {P : Program} {w : World} {K : PySem.W.Frag} {mg : Str → Option Value} {base : Heap} {T : List (Addr × Str)} {f : Addr} {fd : FuncData} {k : Nat}
theorem fn_okX {x : Str} {st : Stmt} {N ps : List Str} {α β : Type} {ra : RpA α} {pre : α → Prop} {M : α → List Addr} {J : α → Hp → Prop} {r : Rp β} {Pc : α → β → Prop} (F : FnP K x st f fd) (S : FnScope N ps (defScope st)) (len : ∀ H vs (y : α), ra.rel H vs y → vs.length = ps.length)
    (hbody : ∀ (cdv : Value) (A : Around) (outer : List Env) (s : Shared) (H : Hp) (vs : List V) (Q : VK) (E : XK) (y : α), Room k (A.deeper (envOfC x (defScope st) s.heap.objs.size f cdv)) → ra.rel H vs y → pre y → J y H → Tabs T H →
      (∀ u z H2, ExM (M y) T H H2 → J y H2 → r.rel H2 u z → Pc y z → Q u H2) → oSs (cxOf CX0 P w K mg base N x (defScope st) f cdv A outer s H E).nox (defBody st) { nx := fun _ H' => Q .non H', rt := Q } (start N vs) H) :
    FnOk P w K mg base CX0 (k + 1) f fd ps (SpX T ra pre M J r Pc) :=
  FunD.ok F S (fun vs H Q E ⟨y, h, _⟩ => len H vs y h) fun cdv A outer s H vs Q E hr ⟨y, h1, h2, h3, h4, h5⟩ => ⟨_, pss_o.nox, hbody cdv A outer s H vs Q E y hr h1 h2 h3 h4 h5⟩
end
section
variable {α β γ δ : Type} {X : Cx} {T : List (Addr × Str)} {M : List Addr} {J : Hp → Prop} {a b c e elt tg iter : Expr} {es ifs : List Expr} {te : TE} {ta : TA} {r : Rp α} {s : Rp β} {q : Rp γ} {ra : RpA β} {σ : L2.St} {H : Hp} {P : α → Prop} {Pb : β → Prop} {v : V} {x : α} {pos p pos' : Pos} {scope : Scope} {D : Ends}
theorem vm_call {z : Str} {ps : List Str} {kk : Nat} {pre : β → Prop} {Mx : β → List Addr} {Jx : β → Hp → Prop} {Pc : β → α → Prop} (C : Cal X.prog X.w X.K X.mg X.base z ps kk (SpX T ra pre Mx Jx r Pc)) (hr : Room kk X.A) (ha : AM X T M J (e :: es) ra σ H Pb)
    (hp : ∀ y, Pb y → pre y ∧ Mx y = M ∧ Jx y = J ∧ ∀ u, Pc y u → P u) (hg : Gl X z := by rfl)
    (hdb : (z == ("__debug__" : Str)) = false := by decide) (he : starEach (e :: es) X.env = (false, eval e X.env) :: starEach es X.env := by rfl) (hpl : (backTo pos (starEach es X.env)).any (·.1) = false := by rfl) :
    VM X T M J (.Call (.Name z p) (e :: es) [] pos) r σ H P := by
  obtain ⟨f, fd, F, hm, hk, hb⟩ := C
  refine vm_of (pe_call (ds := []) (dvs := []) F hr hg hm hk hb .nil passE0 pa_o hdb he hpl) fun H1 e1 j Q k => ha H1 e1 j _ fun vs y H2 e2 j2 ry py => ?_
  show SpX T ra pre Mx Jx r Pc (vs ++ []) H2 Q E0
  rw [List.append_nil]
  obtain ⟨h1, h2, h3, h4⟩ := hp y py
  exact ⟨y, ry, h1, by rw [h3]; exact j2, e2.tabs, fun u z H3 e3 j3 rz pz => k u z H3 (e2.trans (by rw [← h2]; exact e3)) (by rw [← h3]; exact j3) rz (h4 z pz)⟩
/-! tuple(list) -/
theorem vm_tup {Pl : List α → Prop} (st : Kp T M J) (B : Blt X.mg) (ha : VM X T M J e (pLst r) σ H Pl) (hg : Gl X "tuple" := by rfl) (he : starEach [e] X.env = (false, eval e X.env) :: starEach [] X.env := by rfl) : VM X T M J (.Call (.Name "tuple" p) [e] [] pos) (pTup r) σ H Pl :=
  vm_of (pe_callTy call_tuple_of hg (B _ (by decide)) PyProof.Rows.boot_tuple (pa_cons pe_o pa_nil he) (by decide) (by decide) he rfl) fun H1 e1 j Q k =>
    ha H1 e1 j _ fun v xs H2 e2 j2 ⟨q, us, ev, h1, h2⟩ px => by
      subst ev
      exact ⟨q, us, rfl, .inl ⟨sq_l h1, fun l hl => k _ xs _ (e2.trans (Ex.new e2.tabs hl).toM) (st.ext _ _ j2 (Ex.new e2.tabs hl)) ⟨l, us, rfl, upd_same, paired_imp (fun _ _ => r.mono (extn_new hl)) h2⟩ px⟩⟩
/-- n + e -/
theorem vm_addN {n : Nat} {Pn Pm : Nat → Prop} (st : Kp T M J) (ha : ∀ H1, ExM M T H H1 → J H1 → VE X T a pN σ H1 (is n)) (hb : VM X T M J b pN σ H Pn) (hi : ∀ m, Pn m → Pm (n + m)) : VM X T M J (.BinOp a .Add b pos) pN σ H Pm :=
  vm_of (pe_op op_add pe_o pe_o) fun H1 e1 j Q k => ha H1 e1 j H1 (Ex.refl e1.tabs) _ fun v x H2 e2 rx px => hb H2 (e1.trans e2.toM) (st.ext _ _ j e2) _ fun w y H3 e3 j3 ry py =>
    ⟨(n : Int), (y : Int), by rw [show v = _ from rx, show x = n from px], show w = _ from ry, k _ (n + y) H3 (e2.toM.trans e3) j3 (by show V.int _ = V.int _; rw [Int.natCast_add]) (hi y py)⟩
/-- things[e] -/
theorem vm_ixT {xs : List α} {Pn : Nat → Prop} (st : Kp T M J) (im : Imm r) (ha : ∀ H1, ExM M T H H1 → J H1 → VE X T a (pTup r) σ H1 (is xs)) (hb : VM X T M J b pN σ H Pn) (hx : ∀ n, Pn n → n < xs.length) (hs : PlainIx b := by intro _ _; rfl) : VM X T M J (.Subscript a b pos) r σ H (· ∈ xs) :=
  vm_of (pe_ix ix_tup pe_o pe_o hs) fun H1 e1 j Q k => ha H1 e1 j H1 (Ex.refl e1.tabs) _ fun v ys H2 e2 rx px => hb H2 (e1.trans e2.toM) (st.ext _ _ j e2) _ fun w m H3 e3 j3 ry py => by
    obtain ⟨p, vs, rfl, h1, h2⟩ := rx
    rw [show ys = xs from px] at h2
    have hx' := hx m py
    obtain ⟨u, hu, ru⟩ := Paired.at1 h2 (List.getElem?_eq_getElem hx')
    exact ⟨p, vs, (m : Int), u, rfl, show w = _ from ry, sq_t (e3.tup _ _ h1), atI_nat hu, k _ _ H3 (e2.toM.trans e3) j3 (im e3.tup ru) (List.getElem_mem hx')⟩
/-! comprehensions -/
theorem ev_lcM {wi : TI} {g : TG} {vs : List Nat} {xs : List α} {O : Option (Addr × HO) → Prop} {R : α → β → Prop} (st : Kp T M J) (imr : Imm r) (ims : Imm s) (hi : ∀ H1, ExM M T H H1 → J H1 → Iv T r wi σ H1 (is xs) O) (hz : xs.length ≤ sizeLine)
    (hO : ∀ H1 p, ExM M T H H1 → J H1 → O (some p) → H1 p.1 = some p.2 → p.1 ∉ M)
    (hb : ∀ x, x ∈ xs → ∀ H1 v, ExM M T H H1 → J H1 → r.rel H1 v x → ∃ σ2, Bnd g v (wipe σ vs) H1 σ2 ∧ wipe σ2 vs = wipe σ vs ∧ EvM T M J s te σ2 H1 (R x)) :
    EvM T M J (pLst s) (tLc wi g tYes te vs) σ H (fun ys => Paired R xs ys) := fun H1 e j Q k => hi H1 e j H1 (Ex.refl e.tabs) _ fun Jt H2 xs' o px po e2 so it D hD => by
  obtain rfl : xs' = xs := px
  have j2 := st.ext _ _ j e2
  have e02 : ExM M T H H2 := e.trans e2.toM
  have hDM : D ∉ M := fun z => st.is H2 D j2 z hD
  have gd : ∀ H', ExM M T H2 H' → Gd r o xs' H2 H' := fun H' e => gd_imm imr e.tup fun p hp => by
    subst hp
    exact e.get (so p rfl).1 (so p rfl).2 (hO H2 p e02 j2 po (so p rfl).1)
  refine ⟨fun i m H' => m = xs'.length - i ∧ i ≤ xs'.length ∧ ExM M T H2 H' ∧ J H' ∧ ∃ acc ys, H' D = some (.lst acc) ∧ Paired (s.rel H') acc ys ∧ Paired R (xs'.take i) ys, ⟨_, rfl, Nat.zero_le _, (Ex.new e2.2 hD).toM, st.ext _ _ j2 (Ex.new e2.2 hD), [], [], upd_same, .nil, .nil⟩, ?_⟩
  rintro i m H' ⟨rfl, hi', e', j', acc, ys, hacc, hp, hR⟩
  obtain ⟨g1, g2⟩ := it H' (gd H' e') e'.tabs i
  by_cases hlt : i < xs'.length
  · obtain ⟨go, yl⟩ := g1 hlt
    refine .inr ⟨go, fun H'' => (ExM M T H2 H'' ∧ J H'' ∧ ∃ acc ys, H'' D = some (.lst acc) ∧ Paired (s.rel H'') acc ys ∧ Paired R (xs'.take (i + 1)) ys), fun H'' q => ⟨xs'.length - (i + 1), by omega, rfl, hlt, q⟩, fun v H4 hy => ?_⟩
    obtain ⟨e4, x, hx, rx⟩ := yl v H4 hy
    have j4 := st.ext _ _ j' e4
    have e04 : ExM M T H H4 := e02.trans (e'.trans e4.toM)
    obtain ⟨σ2, hbn, hw, hte⟩ := hb x (List.mem_of_getElem? hx) H4 v e04 j4 rx
    refine hbn _ ⟨hw, (et_yes (T := T) (σ := σ2) (H := H4)) H4 e4.here _ fun H5 e5 => ?_⟩
    rw [if_pos rfl]
    refine hte H5 e5.toM (st.ext _ _ j4 e5) _ fun y z H6 e6 j6 ry pz => ?_
    have e36 : ExM M T H' H6 := (e4.trans e5).toM.trans e6
    have h6 : H6 D = some (.lst acc) := e36.get hacc (.lst _) hDM
    have hl : acc.length < sizeLine := by
      have h1 := hp.length
      have h2 := hR.length
      have h3 : (xs'.take i).length ≤ i := List.length_take_le ..
      omega
    have em : TupE H6 (upd H6 D (.lst (acc ++ [y]))) := TupE.mut h6 (.lst _)
    have hDH2 : Fr0 H2 D := Fr0.of_none hD
    have e26 : ExM M T H2 (L2.upd H6 D (.lst (acc ++ [y]))) := ⟨fun b o hb hn hbM => by
      have hne : b ≠ D := hDH2.ne hb hn
      rw [upd_ne hne]
      exact (e'.trans e36).1 b o hb hn hbM, (e'.trans e36).tup.trans em, Tabs.mut e36.tabs h6 (.lst _)⟩
    have j7 : J (L2.upd H6 D (.lst (acc ++ [y]))) := st.put H2 H6 D _ _ j2 hD j6 h6 (.lst _)
    refine ⟨acc, h6, hl, e26, j7, acc ++ [y], ys ++ [z], upd_same, Paired.app (paired_imp (fun _ _ z => ims em (ims e36.tup z)) hp) (.cons (ims em ry) .nil), ?_⟩
    rw [List.take_add_one, hx, Option.toList_some]
    exact Paired.app hR (.cons pz .nil)
  · have ei : i = xs'.length := by omega
    subst ei
    refine .inl ⟨g2 (Nat.le_refl _), ?_⟩
    rw [List.take_length] at hR
    exact k _ ys H' (e2.toM.trans e') j' ⟨D, acc, rfl, hacc, hp⟩ hR
end
end LT
/-! ## LtM2 -/
set_option Elab.async false
set_option linter.all false
set_option maxRecDepth 100000
set_option maxHeartbeats 8000000
namespace LT
open PySem PySem.W PySem.Spec PyProof.Rows L2 LamX

section
variable {α β γ δ : Type} {X : Cx} {T : List (Addr × Str)} {M : List Addr} {J : Hp → Prop} {a b c e elt tg iter : Expr} {es ifs : List Expr} {te : TE} {ta : TA} {r : Rp α} {s : Rp β} {q : Rp γ} {ra : RpA β} {σ : L2.St} {H : Hp} {P : α → Prop} {Pb : β → Prop} {v : V} {x : α} {pos p pos' : Pos} {scope : Scope} {D : Ends}
theorem evm_blk (h : ∀ Y, IsBlk X scope Y → VM Y T M J e s σ H Pb) : EvM T M J s (oEB X scope e) σ H Pb := fun H1 e1 j Q k Y hY => h Y hY H1 e1 j Q k
/-- what a comprehension makes, told once for its uses -/
def LCM (X : Cx) (T : List (Addr × Str)) (M : List Addr) (J : Hp → Prop) (elt tg iter : Expr) (scope : Scope) (r : Rp α) (σ : L2.St) (H : Hp) (P : α → Prop) : Prop :=
  ∃ (own : List (Str × Nat)) (g : TG), BlkOk X.N X.env.scope scope own ∧ TgS X scope tg g ∧ EvM T M J r (tLc (oI X tg iter) g tYes (oEB X scope elt) (own.map (·.2))) σ H P
theorem lcm_n {xs : List α} {R : α → β → Prop} {y : Str} {O : Option (Addr × HO) → Prop} (own : List (Str × Nat)) (j : Nat) (st : Kp T M J) (imr : Imm r) (ims : Imm s) (ok : BlkOk X.N X.env.scope scope own) (hg : TgS X scope (.Name y p) (gName j))
    (hi : ∀ H1, ExM M T H H1 → J H1 → VI X T (.Name y p) iter r σ H1 (is xs) O) (hz : xs.length ≤ sizeLine) (hO : ∀ H1 p, ExM M T H H1 → J H1 → O (some p) → H1 p.1 = some p.2 → p.1 ∉ M)
    (hw : ∀ v, wipe ((wipe σ (own.map (·.2))).set j (some v)) (own.map (·.2)) = wipe σ (own.map (·.2)))
    (hb : ∀ x, x ∈ xs → ∀ H1 v, ExM M T H H1 → J H1 → r.rel H1 v x → ∀ Y, IsBlk X scope Y → VM Y T M J elt s ((wipe σ (own.map (·.2))).set j (some v)) H1 (R x)) : LCM X T M J elt (.Name y p) iter scope (pLst s) σ H (fun ys => Paired R xs ys) :=
  ⟨own, gName j, ok, hg, ev_lcM st imr ims hi hz hO fun x hx H1 v e1 j1 rl => ⟨_, bnd_name, hw v, evm_blk (hb x hx H1 v e1 j1 rl)⟩⟩
theorem vm_lc (h : LCM X T M J elt tg iter scope r σ H P) (hc : X.calm = true) (hN : X.N.Nodup) (hs : ∀ x, foldedSetIterable iter X.env x = pure x := by intro _; rfl) : VM X T M J (.ListComp elt [⟨tg, iter, [], 0⟩] scope pos) r σ H P := by
  obtain ⟨own, g, ok, hg, h⟩ := h
  exact vm_of (pe_lc hc hN pi_o ok hg (fun _ _ _ _ _ => pts_nil) (fun s H C cl fp => ⟨fun pins s1 σ H Q I z => z _ ⟨s, _, C, cl, fp, rfl⟩ pins s1 I⟩) hs) h
/-! statements -/
theorem s_setM {z : Str} (i : Nat) (hT : Tabs T H) (hJ : J H) (h : VM X T M J e r σ H P) (hN : X.N.Nodup) (k : ∀ v x H1, ExM M T H H1 → J H1 → r.rel H1 v x → P x → D.nx (σ.set i (some v)) H1) (hi : X.N[i]? = some z := by rfl) (hx : Loc X.env.scope z := by first | exact Or.inl rfl | exact Or.inr rfl)
    (hs : swapsWith e (some (.Name z p)) pos.line X.env = pure false := by rfl) (hf : X.fn z = true ∨ X.env.scope.names.lookup z = some .local := by first | exact .inl rfl | exact .inr rfl) : oS X (.Assign [.Name z p] e pos) D σ H :=
  oS_of (ps_set hN hi hx pe_o hs hf) (h H (ExM.refl hT) hJ _ k)
theorem s_setLcM {z : Str} (i : Nat) (hT : Tabs T H) (hJ : J H) (h : LCM X T M J elt tg iter scope r σ H P) (hc : X.calm = true) (hN : X.N.Nodup) (k : ∀ v x H1, ExM M T H H1 → J H1 → r.rel H1 v x → P x → D.nx (σ.set i (some v)) H1)
    (hsw : swapsWith (.ListComp elt [⟨tg, iter, [], 0⟩] scope pos') (some (.Name z p)) pos.line X.env = pure true) (hi : X.N[i]? = some z := by rfl) (hx : X.env.scope.names.lookup z = some .local := by rfl)
    (hs : ∀ x, foldedSetIterable iter X.env x = pure x := by intro _; rfl) : oS X (.Assign [.Name z p] (.ListComp elt [⟨tg, iter, [], 0⟩] scope pos') pos) D σ H := by
  obtain ⟨own, g, ok, hg, h⟩ := h
  exact oS_of (ps_setLc hc hN hi hx hsw pi_o ok hg (fun _ _ _ _ _ => pts_nil) (fun s H C cl fp => ⟨fun pins s1 σ H Q I z => z _ ⟨s, _, C, cl, fp, rfl⟩ pins s1 I⟩) hs) (h H (ExM.refl hT) hJ _ k)
theorem s_retM (hT : Tabs T H) (hJ : J H) (h : VM X T M J e r σ H P) (k : ∀ v x H1, ExM M T H H1 → J H1 → r.rel H1 v x → P x → D.rt v H1) : oS X (.Return (some e) pos) D σ H := oS_of (ps_ret pe_o) (h H (ExM.refl hT) hJ _ k)
/-- a, b = e, e' -/
theorem s_parM {z w : Str} {px py pt pt2 : Pos} {kt k2 : Nat} (i j : Nat) (im : Imm r) (hT : Tabs T H) (hJ : J H) (hc : X.calm = true) (hN : X.N.Nodup) (ha : VM X T M J a r σ H P) (hb : VM X T M J b s σ H Pb) (k : ∀ u w x y H1, ExM M T H H1 → J H1 → r.rel H1 u x → s.rel H1 w y → P x → Pb y → D.nx ((σ.set i (some u)).set j (some w)) H1)
    (hi : X.N[i]? = some z := by rfl) (hj : X.N[j]? = some w := by rfl) (hij : i ≠ j := by decide) (hx : X.env.scope.names.lookup z = some .local := by rfl) (hy : X.env.scope.names.lookup w = some .local := by rfl)
    (hw : swappedStores [.Tuple [.Name z px, .Name w py] kt pt] (.Tuple [a, b] k2 pt2) X.env = pure (some [z, w]) := by rfl) (hs : swapsWithSole [.Tuple [.Name z px, .Name w py] kt pt] (.Tuple [a, b] k2 pt2) pos.line X.env = pure false := by rfl)
    (s1 : starEach [a, b] X.env = (false, eval a X.env) :: starEach [b] X.env := by rfl) (s2 : starEach [b] X.env = (false, eval b X.env) :: starEach [] X.env := by rfl) :
    oS X (.Assign [.Tuple [.Name z px, .Name w py] kt pt] (.Tuple [a, b] k2 pt2) pos) D σ H :=
  oS_of (ps_par hc hN hi hj hij hx hy (pa_cons pe_o (pa_cons pe_o pa_nil s2) s1) hw hs) (ha H (ExM.refl hT) hJ _ fun u x H1 e1 j1 ru px => hb H1 e1 j1 _ fun q y H2 e2 j2 rq py =>
    ⟨_, _, rfl, k u q x y H2 (e1.trans e2) j2 (im e2.tup ru) rq px py⟩)
/-- a, b = e, e' ; the names cells -/
theorem s_asg2M {z w : Str} {px py pt pt2 : Pos} {kt k2 : Nat} (i j : Nat) (im : Imm r) (im' : Imm s) (st : Kp T M J) (hT : Tabs T H) (hJ : J H) (hc : X.calm = true) (hN : X.N.Nodup) (ha : VM X T M J a r σ H P) (hb : VM X T M J b s σ H Pb)
    (k : ∀ u v x y H1, ExM M T H H1 → J H1 → r.rel H1 u x → s.rel H1 v y → P x → Pb y → D.nx ((σ.set i (some u)).set j (some v)) H1)
    (hi : X.N[i]? = some z := by rfl) (hj : X.N[j]? = some w := by rfl) (hx : Loc X.env.scope z := by first | exact Or.inl rfl | exact Or.inr rfl) (hy : Loc X.env.scope w := by first | exact Or.inl rfl | exact Or.inr rfl)
    (hf : X.fn z = true ∨ X.env.scope.names.lookup z = some .local := by first | exact .inl rfl | exact .inr rfl) (hf' : X.fn w = true ∨ X.env.scope.names.lookup w = some .local := by first | exact .inl rfl | exact .inr rfl)
    (hs : swapsWithSole [.Tuple [.Name z px, .Name w py] kt pt] (.Tuple [a, b] k2 pt2) pos.line X.env = pure false := by rfl) (hw : swappedStores [.Tuple [.Name z px, .Name w py] kt pt] (.Tuple [a, b] k2 pt2) X.env = pure none := by rfl)
    (h1 : (assignEach [.Tuple [.Name z px, .Name w py] kt pt] X.env).map (·.2) = [assign (.Tuple [.Name z px, .Name w py] kt pt) X.env] := by rfl)
    (s1 : starEach [a, b] X.env = (false, eval a X.env) :: starEach [b] X.env := by rfl) (s2 : starEach [b] X.env = (false, eval b X.env) :: starEach [] X.env := by rfl)
    (t1 : (assignEach [.Name z px, .Name w py] X.env).map (·.2) = assign (.Name z px) X.env :: (assignEach [.Name w py] X.env).map (·.2) := by rfl) (t2 : (assignEach [.Name w py] X.env).map (·.2) = assign (.Name w py) X.env :: (assignEach [] X.env).map (·.2) := by rfl)
    (t3 : (assignEach [.Name z px, .Name w py] X.env).length = 2 := by rfl) (t4 : (assignEach [.Name z px, .Name w py] X.env).findIdx? (·.1) = none := by rfl) :
    oS X (.Assign [.Tuple [.Name z px, .Name w py] kt pt] (.Tuple [a, b] k2 pt2) pos) D σ H :=
  oS_of (ps_asg (pe_tup (pa_cons pe_o (pa_cons pe_o pa_nil s2) s1)) (pg_tup hc (pgs_cons (pg_name (i := i) hN hi hx hf) (pgs_cons (pg_name (i := j) hN hj hy hf') pgs_nil t2) t1) t3 t4) hs hw h1)
    (ha H (ExM.refl hT) hJ _ fun u x H1 e1 j1 ru px => hb H1 e1 j1 _ fun v y H2 e2 j2 rv py => ⟨by show 2 ≤ sizeLine; decide, fun p hp => ⟨p, [u, v], rfl, sq_t upd_same, rfl, u, [v], rfl, v, [], rfl, rfl,
      k u v x y _ ((e1.trans e2).trans (Ex.new e2.tabs hp).toM) (st.ext _ _ j2 (Ex.new e2.tabs hp)) (im (TupE.new hp) (im e2.tup ru)) (im' (TupE.new hp) rv) px py⟩⟩)
/-- a, b, c = e, e', e'' -/
theorem s_asg3M {z w y : Str} {px py pz pt pt2 : Pos} {kt k2 : Nat} {Pc : γ → Prop} (i j l : Nat) (im : Imm r) (im' : Imm s) (st : Kp T M J) (hT : Tabs T H) (hJ : J H) (hc : X.calm = true) (hN : X.N.Nodup) (ha : VM X T M J a r σ H P) (hb : VM X T M J b s σ H Pb) (hcc : ∀ H1, ExM M T H H1 → J H1 → VF X T c q σ H1 Pc)
    (k : ∀ u v d x y z H1 Hm, ExM M T H Hm → ExM M T H H1 → J Hm → J H1 → Fr0 Hm d → r.rel H1 u x → s.rel H1 v y → q.rel H1 (.ref d) z → P x → Pb y → Pc z → D.nx (((σ.set i (some u)).set j (some v)).set l (some (.ref d))) H1)
    (hi : X.N[i]? = some z := by rfl) (hj : X.N[j]? = some w := by rfl) (hl : X.N[l]? = some y := by rfl) (hx : Loc X.env.scope z := by first | exact Or.inl rfl | exact Or.inr rfl) (hy : Loc X.env.scope w := by first | exact Or.inl rfl | exact Or.inr rfl) (hz : Loc X.env.scope y := by first | exact Or.inl rfl | exact Or.inr rfl)
    (hf : X.fn z = true ∨ X.env.scope.names.lookup z = some .local := by first | exact .inl rfl | exact .inr rfl) (hf' : X.fn w = true ∨ X.env.scope.names.lookup w = some .local := by first | exact .inl rfl | exact .inr rfl) (hf'' : X.fn y = true ∨ X.env.scope.names.lookup y = some .local := by first | exact .inl rfl | exact .inr rfl)
    (hs : swapsWithSole [.Tuple [.Name z px, .Name w py, .Name y pz] kt pt] (.Tuple [a, b, c] k2 pt2) pos.line X.env = pure false := by rfl) (hw : swappedStores [.Tuple [.Name z px, .Name w py, .Name y pz] kt pt] (.Tuple [a, b, c] k2 pt2) X.env = pure none := by rfl)
    (h1 : (assignEach [.Tuple [.Name z px, .Name w py, .Name y pz] kt pt] X.env).map (·.2) = [assign (.Tuple [.Name z px, .Name w py, .Name y pz] kt pt) X.env] := by rfl)
    (s1 : starEach [a, b, c] X.env = (false, eval a X.env) :: starEach [b, c] X.env := by rfl) (s2 : starEach [b, c] X.env = (false, eval b X.env) :: starEach [c] X.env := by rfl) (s3 : starEach [c] X.env = (false, eval c X.env) :: starEach [] X.env := by rfl)
    (t1 : (assignEach [.Name z px, .Name w py, .Name y pz] X.env).map (·.2) = assign (.Name z px) X.env :: (assignEach [.Name w py, .Name y pz] X.env).map (·.2) := by rfl) (t2 : (assignEach [.Name w py, .Name y pz] X.env).map (·.2) = assign (.Name w py) X.env :: (assignEach [.Name y pz] X.env).map (·.2) := by rfl)
    (t2' : (assignEach [.Name y pz] X.env).map (·.2) = assign (.Name y pz) X.env :: (assignEach [] X.env).map (·.2) := by rfl)
    (t3 : (assignEach [.Name z px, .Name w py, .Name y pz] X.env).length = 3 := by rfl) (t4 : (assignEach [.Name z px, .Name w py, .Name y pz] X.env).findIdx? (·.1) = none := by rfl) :
    oS X (.Assign [.Tuple [.Name z px, .Name w py, .Name y pz] kt pt] (.Tuple [a, b, c] k2 pt2) pos) D σ H :=
  oS_of (ps_asg (pe_tup (pa_cons pe_o (pa_cons pe_o (pa_cons pe_o pa_nil s3) s2) s1)) (pg_tup hc (pgs_cons (pg_name (i := i) hN hi hx hf) (pgs_cons (pg_name (i := j) hN hj hy hf') (pgs_cons (pg_name (i := l) hN hl hz hf'') pgs_nil t2') t2) t1) t3 t4) hs hw h1)
    (ha H (ExM.refl hT) hJ _ fun u x H1 e1 j1 ru px => hb H1 e1 j1 _ fun v y H2 e2 j2 rv py => hcc H2 (e1.trans e2) j2 H2 (Ex.refl e2.tabs) _ fun d z H3 e3 fd rd pz => ⟨by show 3 ≤ sizeLine; decide, fun p hp => ⟨p, [u, v, .ref d], rfl, sq_t upd_same, rfl, u, [v, .ref d], rfl, v, [.ref d], rfl, .ref d, [], rfl, rfl,
      k u v d x y z _ H2 (e1.trans e2) ((e1.trans e2).trans (e3.trans (Ex.new e3.2 hp)).toM) j2 (st.ext _ _ j2 (e3.trans (Ex.new e3.2 hp))) fd (im (TupE.new hp) (im e3.tup (im e2.tup ru))) (im' (TupE.new hp) (im' e3.tup rv)) (q.mono (extn_new hp) rd) px py pz⟩⟩)
end
end LT
/-! ## LtFew -/
set_option Elab.async false
set_option linter.all false
set_option maxRecDepth 100000
set_option maxHeartbeats 8000000
namespace LT
open PySem PySem.W PySem.Spec PyProof.Rows L2 LamX

/-- what `known` holds -/
structure FewK (c0 : Tbl) (kvs : List (FK × Bool)) : Prop where
  nd : (kvs.map (·.1)).Nodup
  val : ∀ x v, getA kvs x = some v → Rch c0 x.1 ∧ ∃ m : Nat, x.2.1 = (m : Int) ∧ m ≤ 15 ∧ v = fewP m x.2.2 x.1
def FewJ (w : World) (c0 : Tbl) (d : Addr) (H : Hp) : Prop := ∃ kvs : List (FK × Bool), dictAt w kF pB H d kvs ∧ FewK c0 kvs
theorem few_kp {w : World} {c0 : Tbl} {d : Addr} {T : List (Addr × Str)} : Kp T [d] (FewJ w c0 d) where
  ext := fun H1 H2 ⟨kvs, h1, h2⟩ e => ⟨kvs, h1.ext e.1, h2⟩
  put := fun H2 H6 D o o' ⟨kv2, h2, _⟩ hD ⟨kvs, h1, h3⟩ h6 so => by
    refine ⟨kvs, h1.keep imB (TupE.upd h6 so.ntup) (upd_ne fun z => ?_), h3⟩
    obtain ⟨o2, q, _⟩ := h2.soft
    rw [z, hD] at q
    cases q
  is := fun H p ⟨kvs, h1, _⟩ hp z => by
    obtain ⟨o2, q, _⟩ := h1.soft
    rw [List.mem_singleton.mp hp, q] at z
    cases z
theorem FewK.len {g : Nat} {c0 : Tbl} {kvs : List (FK × Bool)} (h : FewK c0 kvs) (hok : OkW g c0) : kvs.length ≤ 1957 * 32 := by
  have key := nodup_sub (m := (reachL (oddsN c0) c0).flatMap fun t => (List.range 16).flatMap fun m : Nat => [((t, ((m : Nat) : Int), true) : FK), (t, ((m : Nat) : Int), false)]) h.nd fun x hx => by
    obtain ⟨v, hv⟩ := getA_some_iff.mp hx
    obtain ⟨⟨n, p⟩, m, e, hm, _⟩ := h.val x v hv
    obtain ⟨t, i, b⟩ := x
    simp only at e p
    refine List.mem_flatMap.mpr ⟨t, reachL_mem p (by have := p.odds less hok; omega), List.mem_flatMap.mpr ⟨m, List.mem_range.mpr (by omega), ?_⟩⟩
    rw [e]
    cases b <;> simp
  rw [List.length_map] at key
  refine Nat.le_trans key (Nat.le_trans (flat_len (k := 32) fun t _ => ?_) ?_)
  · exact flat_len (k := 2) (l := List.range 16) fun m _ => by simp
  · have h1 := reachL_len less hok (Nat.le_refl _)
    have h2 := most_mono (odds_six hok)
    have e : most 6 = 1957 := by decide
    exact Nat.mul_le_mul_right _ (by omega)
theorem FewK.put {c0 t : Tbl} {kvs : List (FK × Bool)} {m : Nat} {b : Bool} (h : FewK c0 kvs) (hR : Rch c0 t) (hm : m ≤ 15) : FewK c0 (putA kvs ((t, (m : Int), b) : FK) (fewP m b t)) := by
  refine ⟨put_nodup h.nd _ _, fun x v q => ?_⟩
  rw [getA_put] at q
  by_cases e : x = (t, (m : Int), b)
  · rw [if_pos e] at q
    cases q
    subst e
    exact ⟨hR, m, rfl, hm, rfl⟩
  · rw [if_neg e] at q
    exact h.val x v q
theorem few_nil {c0 : Tbl} : FewK c0 [] := ⟨by simp, fun x v q => by rw [getA_nil] at q; cases q⟩
section
variable {X : Cx} {T : List (Addr × Str)} {a b c : Expr} {σ : L2.St} {H : Hp} {pos : Pos} {t : Tbl} {m : Nat} {bb : Bool}
theorem v_key {k : Nat} (ha : VE X T a pT σ H (is t)) (hb : VE X T b pN σ H (is m)) (hc : VE X T c pB σ H (is bb)) (s1 : starEach [a, b, c] X.env = (false, eval a X.env) :: starEach [b, c] X.env := by rfl) (s2 : starEach [b, c] X.env = (false, eval b X.env) :: starEach [c] X.env := by rfl) (s3 : starEach [c] X.env = (false, eval c X.env) :: starEach [] X.env := by rfl) :
    VE X T (.Tuple [a, b, c] k pos) kF.p σ H (is ((t, (m : Int), bb) : FK)) :=
  ve_of (pe_tup pa_o) fun H1 e1 Q q => a_c ha (a_2 hb hc s2 s3) s1 H1 e1 _ fun vs z H2 e2 rl pz => by
    obtain ⟨v, ws, rfl, h1, w, us, rfl, h2, u, xs, rfl, h3, h4⟩ := rl
    rw [show z = _ from pz] at h1 h2 h3
    obtain rfl : xs = [] := h4
    exact ⟨by show 3 ≤ sizeLine; decide, fun p hp => q _ _ _ (e2.trans (Ex.new e2.2 hp)) ⟨p, v, rfl, by rw [show w = _ from h2, show u = _ from h3]; exact upd_same, pT.mono (extn_new hp) h1⟩ rfl⟩
end
theorem paired_map {α β : Type} {f : α → β} : ∀ {xs : List α} {ys : List β}, Paired (fun x y => y = f x) xs ys → ys = xs.map f
  | _, _, .nil => rfl
  | _, _, .cons h t => by rw [h, paired_map t]; rfl
theorem few_zero {m : Nat} {b : Bool} {t : Tbl} (h : (nextsOf t).isEmpty = true ∨ m = 0) : fewP m b t = (nextsOf t).isEmpty := by
  rcases h with h | rfl
  · rw [few_end (List.isEmpty_iff.mp h), h]
  · rfl
theorem few_step {m : Nat} {b : Bool} {t : Tbl} (h : (nextsOf t).isEmpty = false) : fewP (m + 1) b t = bif b then ((nextsOf t).map (fewP m (!b))).any id else ((nextsOf t).map (fewP m (!b))).all id := by
  rw [List.any_map, List.all_map]
  unfold fewP
  rw [h, Bool.false_or]
  rfl
section
variable {P : Program} {w : World} {K : PySem.W.Frag} {mg : Str → Option Value} {base : Heap} {T : List (Addr × Str)} {f : Addr} {fd : FuncData} {k : Nat}
abbrev pFew (w : World) (T : List (Addr × Str)) (c0 : Tbl) (n : Nat) : Sp := SpX T (aC pT (a3 pN pB pAd)) (fun y => Rch c0 y.1 ∧ y.2.1 ≤ n) (fun y => [y.2.2.2.1]) (fun y => FewJ w c0 y.2.2.2.1) pB (fun y b => b = fewP y.2.1 y.2.2.1 y.1)
abbrev fewPs : List Str := ["here", "most", "is_mine", "known"]
abbrev fewNs : List Str := ["here", "most", "is_mine", "known", "nexts", "key", "some", "later"]
theorem scFew : FnScope fewNs fewPs (defScope s_few) := ⟨rfl, rfl, rfl, by decide +kernel, rfl, by decide +kernel, by decide +kernel⟩
set_option maxHeartbeats 16000000 in
theorem f_few1 {j n : Nat} {g : Nat} {c0 : Tbl} (hok0 : OkW g c0) (hn : n ≤ 15) (B : Blt mg) (Cn : Cal P w K mg base "nexts_of" ["table"] j (pNexts T)) (hj : j ≤ k) (F : FnP K "few" s_few f fd)
    (ih : ∀ n', n' + 1 = n → Cal P w K mg base "few" fewPs k (pFew w T c0 n')) : FnOk P w K mg base CX0 (k + 1) f fd fewPs (pFew w T c0 n) := by
  refine fn_okX F scFew len4 fun cdv A outer s H vs Q E ⟨x, m, b, d, _⟩ hr ⟨v1, ws1, e1, h1, v2, ws2, e2, h2, v3, ws3, e3, h3, v4, ws4, e4, h4, h5⟩ ⟨hR, hmn⟩ hJ hT k => ?_
  obtain rfl : ws4 = [] := h5
  subst e1 e2 e3 e4
  have hR : Rch c0 x := hR
  have hmn : m ≤ n := hmn
  have hJ : FewJ w c0 d H := hJ
  have h1 : pT.rel H v1 x := h1
  obtain rfl : v2 = V.int (m : Int) := h2
  obtain rfl : v3 = V.bl b := h3
  obtain rfl : v4 = V.ref d := h4
  have hok : OkW g x := by obtain ⟨i, p⟩ := hR; exact p.ok hok0
  have hnl : (nextsOf x).length ≤ 6 := Nat.le_trans (nexts_len x) (odds_six hok)
  refine s_cons (s_set 4 hT (r := pLst pT) (P := is (nextsOf x)) (v_cl Cn (hr.mono hj) (a_1 (v_v 0 h1)) ⟨g, hok⟩ fun _ h => h) scFew.nd fun vn z H1 e1 rn pz => ?_)
  obtain rfl : z = _ := pz
  refine s_cons (s_if e1.2 (bx := (nextsOf x).isEmpty || decide (m = 0)) (t_w (w_or (bx := (nextsOf x).isEmpty) (bz := decide (m = 0)) (t_c (c_eqNil (n := 2) encT 2 (by decide) (un hr 64) (v_v 4 rn) (fun _ _ _ => dpT) lay_T depth_T)) fun _ => w_or1 (t_c (c_eqN (n := 0) (v_v 1 (show pN.rel H1 _ m from rfl)) (v_nat (n := 0)))))) (fun hb H2 e2 => ?_) (fun hb H2 e2 => s_nil ?_))
  · refine s_cons (s_ret e2.2 (r := pB) (P := is (nextsOf x).isEmpty) (v_c (c_eqNil (n := 2) encT 2 (by decide) (un hr 64) (v_v 4 ((pLst pT).mono e2.1 rn)) (fun _ _ _ => dpT) lay_T depth_T)) fun u z H3 e3 rl pz => k u z H3 ((e1.trans e2).trans e3).toM (few_kp.ext (T := T) _ _ hJ ((e1.trans e2).trans e3)) rl ?_)
    show z = fewP m b x
    rw [show z = _ from pz, few_zero]
    rcases Bool.or_eq_true_iff.mp hb with h | h
    · exact .inl h
    · exact .inr (of_decide_eq_true h)
  have hb0 : (nextsOf x).isEmpty = false := (Bool.or_eq_false_iff.mp hb).1
  have hm0 : ¬ m = 0 := of_decide_eq_false (Bool.or_eq_false_iff.mp hb).2
  obtain ⟨m', rfl⟩ : ∃ m', m = m' + 1 := ⟨m - 1, by omega⟩
  have hJ2 : FewJ w c0 d H2 := few_kp.ext (T := T) _ _ hJ (e1.trans e2)
  have r12 : pT.rel H2 v1 x := pT.mono (e1.trans e2).1 h1
  have rn2 := (pLst pT).mono e2.1 rn
  refine s_cons (s_set 5 e2.2 (r := kF.p) (P := is ((x, ((m' + 1 : Nat) : Int), b) : FK)) (v_key (v_v 0 r12) (v_v 1 (show pN.rel H2 _ (m' + 1) from rfl)) (v_v 2 (show pB.rel H2 _ b from rfl))) scFew.nd fun vk z H3 e3 rk pz => ?_)
  obtain rfl : z = _ := pz
  have hJ3 : FewJ w c0 d H3 := few_kp.ext (T := T) _ _ hJ2 e3
  obtain ⟨kvs, hd, hk⟩ := id hJ3
  have rn3 := (pLst pT).mono e3.1 rn2
  have e03 : Ex T H H3 := (e1.trans e2).trans e3
  refine s_cons (s_if e3.2 (bx := !(getA kvs ((x, ((m' + 1 : Nat) : Int), b) : FK)).isSome) (t_c (c_notInD (k := kF) (r := pB) (un hr 9) (v_v 5 rk) (v_v 3 ⟨d, rfl, hd⟩))) (fun hnew H4 e4 => ?_) (fun hold H4 e4 => s_nil ?_))
  · have hJ4 : FewJ w c0 d H4 := few_kp.ext (T := T) _ _ hJ3 e4
    obtain ⟨an, vs, rfl, hl4, hp4⟩ := (pLst pT).mono e4.1 rn3
    have nd : an ≠ d := by
      obtain ⟨kv, hd4, _⟩ := id hJ4
      exact dict_ne hd4 hl4
    have e04 : Ex T H H4 := e03.trans e4
    have at4 : ∀ H', ExM [d] T H4 H' → (pLst pT).rel H' (.ref an) (nextsOf x) := fun H' e' => ⟨an, vs, rfl, e'.get hl4 (.lst _) (by simp [nd]), paired_imp (fun _ _ => imT e'.tup) hp4⟩
    refine s_cons (s_setLcM (M := [d]) (J := FewJ w c0 d) (r := pLst pB) (P := fun ys => Paired (fun y bb => bb = fewP m' (!b) y) (nextsOf x) ys) 6 e4.2 hJ4 (lcm_n (r := pT) (O := LsO) [("later", 7)] 7 few_kp imT imB (blkOk_by (N := fewNs) (sc := defScope s_few) (by decide +kernel)) (tg_name scFew.nd) (fun H' e' _ => i_lst (v_v 4 (at4 H' e'))) (Nat.le_of_lt (small1000 (show (nextsOf x).length ≤ 1000 by omega))) ?_ (fun _ => rfl) ?_) rfl scFew.nd (fun vb bs H5 e5 hJ5 rb pb => ?_) (sw_true rfl rfl rfl (by decide +kernel)))
    · rintro H' p e' j' ⟨a, us, e⟩ hp
      cases e
      obtain ⟨kv, hd', _⟩ := j'
      have := dict_ne hd' hp
      simp [this]
    · rintro y hy H' u e' j' ru _ ⟨s', H0, C', cl, fp, rfl⟩
      refine vm_call (Pb := fun z : Tbl × Nat × Bool × Addr × Unit => z.1 = y ∧ z.2.1 = m' ∧ z.2.2.1 = (!b) ∧ z.2.2.2.1 = d) (ih (n - 1) (by omega)) hr (am_imp (am_c imT (EvM.of few_kp fun H'' e'' _ => v_v 7 (imT e''.tup ru)) (am_c imN (EvM.of few_kp fun H'' e'' _ => v_subN (m := m' + 1) (n := 1) (v_v 1 rfl) (v_nat (n := 1)) (by omega)) (am_c imB (EvM.of few_kp fun H'' e'' _ => v_not (v_v 2 rfl)) (am_1 (r := pAd) (P := is d) (EvM.of few_kp fun H'' e'' _ => v_v 3 rfl))))) ?_) ?_
      · rintro ⟨z1, z2, z3, z4, _⟩ ⟨p1, p2, p3, p4⟩
        exact ⟨p1, p2, p3, p4⟩
      · rintro ⟨z1, z2, z3, z4, _⟩ ⟨rfl, rfl, rfl, rfl⟩
        refine ⟨⟨?_, by have h : z2 + 1 ≤ n := hmn; show z2 ≤ n - 1; omega⟩, rfl, rfl, fun u h => h⟩
        obtain ⟨i, p⟩ := hR
        exact ⟨i + 1, .snoc p hy⟩
    · obtain rfl := paired_map pb
      obtain ⟨kv5, hd5, hk5⟩ := id hJ5
      have rk5 : kF.p.rel H5 vk _ := imFK e5.tup (kF.p.mono e4.1 rk)
      refine s_cons (s_put (k := kF) (r := pB) (kvs := kv5) (d := d) (x := ((x, ((m' + 1 : Nat) : Int), b) : FK)) imB e5.tabs (un hr 9) (Pv := is (fewP (m' + 1) b x)) (ev_is (v_if (bx := b) (P := is (bif b then ((nextsOf x).map (fewP m' (!b))).any id else ((nextsOf x).map (fewP m' (!b))).all id)) (t_v (v_v 2 (show pB.rel H5 _ b from rfl))) (fun hb => ?_) (fun hb => ?_)) (few_step hb0).symm) (v_v 3 ⟨d, rfl, hd5⟩) (o_var (ix := 3)) hd5 (v_v 5 rk5) (Nat.lt_of_le_of_lt (hk5.len hok0) (by decide)) fun p H8 H9 pp e8 m9 hd9 => ?_)
      · subst hb
        exact v_any rfl B (v_v 6 rb)
      · subst hb
        exact v_all rfl B (v_v 6 rb)
      · obtain rfl : p = _ := pp
        refine s_nil ?_
        have hk9 := hk5.put (b := b) hR (show m' + 1 ≤ 15 by omega)
        have e09 : ExM [d] T H H9 := (e04.toM.trans (e5.trans e8.toM)).trans m9
        have rk9 : kF.p.rel H9 vk _ := imFK m9.tup (kF.p.mono e8.1 rk5)
        exact s_cons (s_ret m9.tabs (r := pB) (P := is (fewP (m' + 1) b x)) (v_getD (k := kF) (r := pB) (un hr 9) (v_v 3 ⟨d, rfl, hd9⟩) (v_v 5 rk9) (by rw [getA_put, if_pos rfl])) fun u z H10 e10 rl pz => k u z H10 (e09.trans e10.toM) (few_kp.ext (T := T) _ _ ⟨_, hd9, hk9⟩ e10) rl pz)
  · cases hg : getA kvs ((x, ((m' + 1 : Nat) : Int), b) : FK) with
    | none => rw [hg] at hold; cases hold
    | some v0 =>
      obtain ⟨_, m2, q1, q2, q3⟩ := hk.val _ _ hg
      obtain rfl : m2 = m' + 1 := by
        have q1 : ((m' + 1 : Nat) : Int) = (m2 : Int) := q1
        omega
      exact s_cons (s_ret e4.2 (r := pB) (P := is v0) (v_getD (k := kF) (r := pB) (un hr 9) (v_v 3 ⟨d, rfl, hd.ext e4.1⟩) (v_v 5 (kF.p.mono e4.1 rk)) hg) fun u z H10 e10 rl pz => k u z H10 ((e03.trans e4).trans e10).toM (few_kp.ext (T := T) _ _ hJ ((e03.trans e4).trans e10)) rl (by rw [show z = v0 from pz]; exact q3))
theorem c_few {j k0 : Nat} {g : Nat} {c0 : Tbl} (hok0 : OkW g c0) (B : Blt mg) (Cn : Cal P w K mg base "nexts_of" ["table"] j (pNexts T)) (hj : j ≤ k0) (F : FnP K "few" s_few f fd) (hm : mg "few" = some (.ref f)) : ∀ n, n ≤ 15 → Cal P w K mg base "few" fewPs (k0 + n + 1) (pFew w T c0 n)
  | 0, h => cal_of F hm (f_few1 hok0 h B Cn hj F fun n' e => by omega) (fun _ _ _ _ _ _ us h => by
    match us, h with
    | [a, b, c, d], _ => rfl)
  | n + 1, h => cal_of F hm (f_few1 hok0 h B Cn (by omega) F fun n' e => by
      obtain rfl : n' = n := by omega
      exact c_few hok0 B Cn hj F hm n' (by omega)) (fun _ _ _ _ _ _ us h => by
    match us, h with
    | [a, b, c, d], _ => rfl)
abbrev pDeedsLeft (T : List (Addr × Str)) : Sp := SpG T (a2 pT pN) (fun y => Ok y.1 ∧ y.2.1 ≤ 15) pB (fun y b => b = fewP y.2.1 true (crowdOf y.1))
theorem scDeedsLeft : FnScope ["table", "most"] ["table", "most"] (defScope s_deeds_left) := ⟨rfl, rfl, rfl, by decide +kernel, rfl, by decide +kernel, by decide +kernel⟩
theorem v_fewCall {X : Cx} {T : List (Addr × Str)} {c0 x : Tbl} {σ : L2.St} {H : Hp} {a b c d : Expr} {p pos : Pos} {kk m n : Nat} {bb : Bool} (C : Cal X.prog X.w X.K X.mg X.base "few" fewPs kk (pFew X.w T c0 n)) (hr : Room kk X.A) (ha : VE X T a pT σ H (is x)) (hb : VE X T b pN σ H (is m)) (hc : VE X T c pB σ H (is bb)) (hd : VF X T d (pD X.w kF pB) σ H (is []))
    (hR : Rch c0 x) (hmn : m ≤ n) (hg : Gl X "few" := by rfl) (s1 : starEach [a, b, c, d] X.env = (false, eval a X.env) :: starEach [b, c, d] X.env := by rfl) (s2 : starEach [b, c, d] X.env = (false, eval b X.env) :: starEach [c, d] X.env := by rfl) (s3 : starEach [c, d] X.env = (false, eval c X.env) :: starEach [d] X.env := by rfl) (s4 : starEach [d] X.env = (false, eval d X.env) :: starEach [] X.env := by rfl)
    (hpl : (backTo pos (starEach [b, c, d] X.env)).any (·.1) = false := by rfl) : VE X T (.Call (.Name "few" p) [a, b, c, d] [] pos) pB σ H (is (fewP m bb x)) := by
  obtain ⟨f, fd, F, hm, hk, hbd⟩ := C
  refine ve_of (pe_call (ds := []) (dvs := []) F hr hg hm hk hbd .nil passE0 (pa_cons pe_o (pa_cons pe_o (pa_cons pe_o (pa_cons pe_o pa_nil s4) s3) s2) s1) (by decide) s1 hpl) fun H1 e1 Q k => ha H1 e1 _ fun v1 x1 H2 e2 r1 p1 => hb H2 (e1.trans e2) _ fun v2 x2 H3 e3 r2 p2 => hc H3 ((e1.trans e2).trans e3) _ fun v3 x3 H4 e4 r3 p3 => hd H4 (((e1.trans e2).trans e3).trans e4) _ fun q z H5 e5 fq rq pq => ?_
  obtain rfl : z = [] := pq
  obtain ⟨q', eq', hdq⟩ := rq
  cases eq'
  show pFew X.w T c0 n ([v1, v2, v3, .ref q] ++ []) H5 Q E0
  rw [List.append_nil]
  refine ⟨(x, m, bb, q, ()), ⟨v1, _, rfl, pT.mono ((e3.trans e4).trans e5).1 (by rw [← show x1 = x from p1]; exact r1), v2, _, rfl, (by rw [← show x2 = m from p2]; exact r2), v3, _, rfl, (by rw [← show x3 = bb from p3]; exact r3), _, _, rfl, rfl, rfl⟩, ⟨hR, hmn⟩, ⟨[], hdq, few_nil⟩, e5.2, fun u y H6 e6 _ ry py => k u y H6 ((e2.trans (e3.trans e4)).trans (e5.thenM e6 fun b hb => by rw [List.mem_singleton.mp hb]; exact fq)) ry py⟩
theorem f_deeds_left {j j2 j3 j4 : Nat} (Cn : Cal P w K mg base "need_table" ["table"] j (pNeedTable T)) (Cm : Cal P w K mg base "need_number" ["value", "low", "high"] j2 (pNeedNumber T)) (Cc : Cal P w K mg base "crowd_of" ["table"] j3 (pCrowd T)) (Cf : ∀ g c0, OkW g c0 → Cal P w K mg base "few" fewPs j4 (pFew w T c0 15))
    (hj : j ≤ k) (hj2 : j2 ≤ k) (hj3 : j3 ≤ k) (hj4 : j4 ≤ k) (F : FnP K "deeds_left" s_deeds_left f fd) : FnOk P w K mg base CX0 (k + 1) f fd ["table", "most"] (pDeedsLeft T) := by
  refine fn_ok F scDeedsLeft len2 fun cdv A outer s H vs Q E ⟨x, m, _⟩ hr ⟨v, ws, ev, h1, v2, ws2, e2, h2, h4⟩ ⟨⟨g, hok⟩, hm⟩ hT k => ?_
  obtain rfl : ws2 = [] := h4
  subst ev e2
  have hok : OkW g x := hok
  have hm : m ≤ 15 := hm
  obtain rfl : v2 = V.int (m : Int) := h2
  refine s_cons (s_drop hT (r := pU) (P := fun _ => True) (v_cl Cn (hr.mono hj) (a_1 (v_v 0 h1)) ⟨g, hok⟩ fun _ h => h) fun _ _ H1 e1 _ _ => ?_)
  refine s_cons (s_drop e1.2 (r := pU) (P := fun _ => True) (v_cl Cm (hr.mono hj2) (a_c (v_v 1 (show pI.rel H1 _ (m : Int) from rfl)) (a_2 (v_int (i := 0)) (v_int (i := 15)))) ⟨by show (0 : Int) ≤ (m : Int); omega, by show (m : Int) ≤ 15; omega⟩ fun _ h => h) fun _ _ H2 e2 _ _ => ?_)
  exact s_cons (s_ret e2.2 (r := pB) (P := is (fewP m true (crowdOf x))) (v_fewCall (Cf g (crowdOf x) hok.crowd) (hr.mono hj4) (v_cl Cc (hr.mono hj3) (a_1 (v_v 0 (pT.mono (e1.trans e2).1 h1))) ⟨g, hok⟩ fun _ h => h) (v_v 1 rfl) v_bl (f_dnew (k := kF) (r := pB)) (rch0 _) hm) fun u z H3 e3 rl pz => k u z H3 ((e1.trans e2).trans e3) rl pz)
end
end LT
/-! ## LtTake -/
set_option Elab.async false
set_option linter.all false
set_option maxRecDepth 100000
set_option maxHeartbeats 8000000
namespace LT
open PySem PySem.W PySem.Spec PyProof.Rows L2 LamX

/-! ### the row of draws -/
theorem sql_ext {K : PySem.W.Frag} {H H' : Hp} {l : Addr} {vs : List V} (h : SqL K H l vs) (e : ExtN H H') : SqL K H' l vs :=
  h.elim (fun h => .inl (h.elim (fun h => .inl (e _ _ h fun _ z => by cases z)) fun ⟨o, h⟩ => .inr ⟨o, e _ _ h fun _ z => by cases z⟩)) fun h => .inr h
def RowAt (K : PySem.W.Frag) (ns : List Int) (l a : Addr) (H : Hp) : Prop := (∃ i seed rest : Int, H a = some (.lst [.ref l, .int i, .int seed, .int rest]) ∧ 0 ≤ i ∧ 0 ≤ seed ∧ seed < 2147483648) ∧ SqL K H l (ns.map V.int)
theorem row_kp {K : PySem.W.Frag} {ns : List Int} {l a : Addr} {T : List (Addr × Str)} : Kp T [a] (RowAt K ns l a) where
  ext := fun H1 H2 ⟨⟨i, s, r, h1, h2⟩, h3⟩ e => ⟨⟨i, s, r, e.1 _ _ h1 (fun _ z => by cases z), h2⟩, sql_ext h3 e.1⟩
  put := fun H2 H6 D o o' ⟨⟨i2, s2, r2, g1, _⟩, g3⟩ hD ⟨⟨i, s, r, h1, h2⟩, h3⟩ h6 so => by
    have ne : a ≠ D := fun z => by rw [z, hD] at g1; cases g1
    refine ⟨⟨i, s, r, by rw [upd_ne ne]; exact h1, h2⟩, ?_⟩
    rcases g3 with g3 | g3
    · have nl : l ≠ D := fun z => by
        rw [z] at g3
        rcases g3 with q | ⟨_, q⟩ <;> (rw [hD] at q; cases q)
      rcases h3 with h3 | h3
      · refine .inl (h3.elim (fun q => .inl ?_) fun ⟨ob, q⟩ => .inr ⟨ob, ?_⟩) <;> (rw [upd_ne nl]; exact q)
      · exact .inr h3
    · exact .inr g3
  is := fun H p ⟨⟨i, s, r, h1, _⟩, _⟩ hp z => by
    rw [List.mem_singleton.mp hp, h1] at z
    cases z
/-- the row written -/
theorem row_upd {K : PySem.W.Frag} {ns : List Int} {l a : Addr} {H : Hp} {i s r i' s' r' : Int} (h : H a = some (.lst [.ref l, .int i, .int s, .int r])) (hs : SqL K H l (ns.map V.int)) (h1 : 0 ≤ i') (h2 : 0 ≤ s') (h3 : s' < 2147483648) :
    RowAt K ns l a (L2.upd H a (.lst [.ref l, .int i', .int s', .int r'])) := by
  refine ⟨⟨i', s', r', upd_same, h1, h2, h3⟩, ?_⟩
  rcases hs with q | q
  · have nl : l ≠ a := fun z => by
      subst z
      rcases q with q | ⟨ob, q⟩
      · rw [h] at q
        cases ns with
        | nil => simp at q
        | cons n ns => simp at q
      · rw [h] at q
        cases q
    rcases q with q | ⟨ob, q⟩
    · exact .inl (.inl (by rw [upd_ne nl]; exact q))
    · exact .inl (.inr ⟨ob, by rw [upd_ne nl]; exact q⟩)
  · exact .inr q
section
variable {α β : Type} {X : Cx} {T : List (Addr × Str)} {a b e o : Expr} {r : Rp α} {σ : L2.St} {H : Hp} {P : α → Prop} {x : α} {pos p : Pos} {i j : Int} {n m : Nat} {d l : Addr} {us : List V} {u : V} {D : Ends}
/-- xs[n], the list known by its address -/
theorem v_at (hv : ∀ H1, Ex T H H1 → ∀ Q : VK, Q (.ref d) H1 → oE X e σ H1 Q) (h : H d = some (.lst us)) (hb : VE X T b pN σ H (is n)) (hn : us[n]? = some u) (rl : r.rel H u x) (hs : PlainIx b := by intro _ _; rfl) : VE X T (.Subscript e b pos) r σ H (is x) :=
  ve_of (pe_ix ix_list pe_o pe_o hs) fun H1 e1 Q k => hv H1 e1 _ (hb H1 e1 _ fun w m H2 e2 rw' pm => ⟨d, us, (n : Int), u, rfl, by rw [show w = _ from rw', show m = n from pm], sq_l ((e1.trans e2).get h (.lst _)), atI_nat hn, k _ _ H2 e2 (r.mono (e1.trans e2).1 rl) rfl⟩)
/-- ints[n], the list the law's own -/
theorem v_ixS {ns : List Int} (ha : VE X T a pAd σ H (is l)) (hS : SqL X.K H l (ns.map V.int)) (hb : VE X T b pN σ H (is n)) (hn : ns[n]? = some i) (hs : PlainIx b := by intro _ _; rfl) : VE X T (.Subscript a b pos) pI σ H (is i) :=
  ve_of (pe_ix ix_list pe_o pe_o hs) (ev_op ha hb fun v w ys m H1 e1 rx ry px py Q k => by
    refine ⟨l, ns.map V.int, (n : Int), .int i, by rw [show v = _ from rx, show ys = l from px], by rw [show w = _ from ry, show m = n from py], sql_ext hS e1.1, atI_nat (by rw [List.getElem?_map, hn]; rfl), k _ _ H1 e1.here rfl rfl⟩)
theorem v_lenS {ns : List Int} (B : Blt X.mg) (ha : VE X T e pAd σ H (is l)) (hS : SqL X.K H l (ns.map V.int)) (hg : Gl X "len" := by rfl) (he : starEach [e] X.env = (false, eval e X.env) :: starEach [] X.env := by rfl) : VE X T (.Call (.Name "len" p) [e] [] pos) pN σ H (is ns.length) :=
  v_cB call_len (B _ (by decide)) boot_len (a_1 ha he) (fun vs x H1 e1 rl px Q k => by
    obtain ⟨v, ws, rfl, hv, h3⟩ := rl
    rw [show x = _ from px] at hv
    obtain rfl : v = .ref l := hv
    exact ⟨.ref l, ns.length, by rw [show ws = [] from h3], .inl ⟨ns.map V.int, sql_ext hS e1.1, by rw [List.length_map]⟩, k _ ns.length H1 e1.here rfl rfl⟩) hg (by decide) (by decide) he rfl
/-- int(n) -/
theorem v_int1 (B : Blt X.mg) (ha : VE X T e pI σ H (is i)) (hg : Gl X "int" := by rfl) (he : starEach [e] X.env = (false, eval e X.env) :: starEach [] X.env := by rfl) : VE X T (.Call (.Name "int" p) [e] [] pos) pI σ H (is i) :=
  v_cT call_int1 (B _ (by decide)) PyProof.Rows.boot_int (a_1 ha he) (fun vs x H1 e1 rl px Q k => by
    obtain ⟨v, ws, rfl, hv, h3⟩ := rl
    rw [show x = _ from px] at hv
    obtain rfl : v = .int i := hv
    exact .inl ⟨i, by rw [show ws = [] from h3], k _ i H1 e1.here rfl rfl⟩) hg (by decide) (by decide) he rfl
theorem v_mod (hj : 0 < j) (ha : VE X T a pI σ H (is i)) (hb : VE X T b pI σ H (is j)) : VE X T (.BinOp a .Mod b pos) pI σ H (is (i % j)) := ve_of (pe_op op_mod pe_o pe_o) (ev_II (fun _ => rfl) hj ha hb)
theorem v_pow (hC : CPow i j) (ha : VE X T a pI σ H (is i)) (hb : VE X T b pI σ H (is j)) : VE X T (.BinOp a .Pow b pos) pI σ H (is (i ^ j.toNat)) := ve_of (pe_op op_pow pe_o pe_o) (ev_II (fun _ => rfl) hC ha hb)
/-- n % j as a number -/
theorem v_modN (hj : 0 < j) (h : VE X T e pI σ H (is (i % j))) : VE X T e pN σ H (is (i % j).toNat) := ev_n (ev_is h (Int.toNat_of_nonneg (Int.emod_nonneg _ (by omega))).symm)
/-- xs[n] = e, the list known by its address -/
theorem s_setAt {vx : Expr} {jj : Nat} (hT : Tabs T H) (hv : VE X T vx r σ H P) (ho : ∀ H1, Ex T H H1 → ∀ Q : VK, Q (.ref d) H1 → oE X o σ H1 Q) (h : H d = some (.lst us)) (hn : n < us.length)
    (k : ∀ u x H1, Ex T H H1 → r.rel H1 u x → P x → D.nx σ (L2.upd H1 d (.lst (us.set n u))))
    (ha : ∀ v, assign (.Subscript o (.Constant (.int (n : Int)) jj p) pos) X.env v = (do
      let ov ← holding [v] (eval o X.env)
      let iv ← holding [v, ov] (eval (.Constant (.int (n : Int)) jj p) X.env)
      standAt pos
      holding [v, ov, iv] (setItem ov iv v)
      release [v, ov, iv] []) := by intro _; rfl) {spos : Pos}
    (hs : swapsWithSole [.Subscript o (.Constant (.int (n : Int)) jj p) pos] vx spos.line X.env = pure false := by rfl) (hw : swappedStores [.Subscript o (.Constant (.int (n : Int)) jj p) pos] vx X.env = pure none := by rfl) (h1 : (assignEach [.Subscript o (.Constant (.int (n : Int)) jj p) pos] X.env).map (·.2) = [assign (.Subscript o (.Constant (.int (n : Int)) jj p) pos) X.env] := by rfl) :
    oS X (.Assign [.Subscript o (.Constant (.int (n : Int)) jj p) pos] vx spos) D σ H :=
  s_asg hT hv (pg_sub pe_o pe_o set_list ha) (fun v y H1 e1 rv py => ho H1 e1 _ ((v_nat (X := X) (T := T) (σ := σ) (H := H) (n := n)) H1 e1 _ fun w m H2 e2 rw' pm => by
    refine ⟨d, us, (n : Int), n, rfl, by rw [show w = _ from rw', show m = n from pm], (e1.trans e2).get h (.lst _), ?_, k v y H2 (e1.trans e2) (r.mono e2.1 rv) py⟩
    unfold ixN
    rw [if_pos (by omega), if_pos (by omega)]
    simp)) hs hw h1
end
end LT
/-! ## LtTake2 -/
set_option Elab.async false
set_option linter.all false
set_option maxRecDepth 100000
set_option maxHeartbeats 8000000
namespace LT
open PySem PySem.W PySem.Spec PyProof.Rows L2 LamX

theorem lenTk {α β : Type} {r : Rp α} {s : Rp β} (H : Hp) (vs : List V) (y : α × β × Unit) (h : (aC r (a1 s)).rel H vs y) : vs.length = 2 := len2 H vs y h
section
variable {P : Program} {w : World} {K : PySem.W.Frag} {mg : Str → Option Value} {base : Heap} {T : List (Addr × Str)} {f : Addr} {fd : FuncData} {k : Nat} {ns : List Int} {l : Addr}
abbrev pTaken (K : PySem.W.Frag) (ns : List Int) (l : Addr) (T : List (Addr × Str)) : Sp := SpX T (aC pAd (a1 pN)) (fun y => 0 < y.2.1 ∧ y.2.1 ≤ 1000) (fun y => [y.1]) (fun y => RowAt K ns l y.1) pN (fun y n => n < y.2.1)
abbrev tkNs : List Str := ["_law_row", "_law_many", "_law_found", "_law_cell"]
theorem scTaken : FnScope tkNs ["_law_row", "_law_many"] (defScope s__law_taken) := ⟨rfl, rfl, rfl, by decide +kernel, rfl, by decide +kernel, by decide +kernel⟩
theorem mod_lt {m : Nat} (h : 0 < m) (x : Int) : (x % (m : Int)).toNat < m := by
  have h1 := Int.emod_lt_of_pos x (show (0 : Int) < (m : Int) by omega)
  have h2 := Int.emod_nonneg x (show (m : Int) ≠ 0 by omega)
  omega
theorem seed_mul {s : Int} (h0 : 0 ≤ s) (h1 : s < 2147483648) : CMulW s 48271 := wide_mul (a := 31) (b := 16) (by omega) (by decide) (by decide) (by decide) (by decide)
set_option maxHeartbeats 16000000 in
theorem f_taken (B : Blt mg) (F : FnP K "_law_taken" s__law_taken f fd) : FnOk P w K mg base CX0 (k + 1) f fd ["_law_row", "_law_many"] (pTaken K ns l T) := by
  refine fn_okX F scTaken len2 fun cdv A outer s H vs Q E ⟨a, m, _⟩ hr ⟨v, ws, e1, h1, v2, ws2, e2, h2, h4⟩ ⟨hm0, hm1⟩ hJ hT k => ?_
  obtain rfl : ws2 = [] := h4
  subst e1 e2
  obtain rfl : v = V.ref a := h1
  have h2 : v2 = V.int (m : Int) := h2
  subst h2
  have hm0 : 0 < m := hm0
  have hm1 : m ≤ 1000 := hm1
  obtain ⟨⟨i, sd, rs, hH, hi0, hs0, hs1⟩, hS⟩ : RowAt K ns l a H := hJ
  have hmP : (0 : Int) < (m : Int) := by omega
  have hdm : ∀ x : Int, CDivW x (m : Int) := fun x => wide_div hmP (b := 10) (by rw [Int.natAbs_natCast]; omega) (by decide) (by decide)
  -- reading, writing the row
  refine s_cons (s_if hT (bx := decide ((0 : Int) < rs)) (t_c (c_gt (v_at (d := a) (n := 3) (us := [.ref l, .int i, .int sd, .int rs]) (o_var (ix := 0)) hH (v_nat (n := 3)) rfl (show pI.rel H (.int rs) rs from rfl)) (v_int (i := 0)))) (fun hb H1 e1 => ?_) (fun hb H1 e1 => s_nil ?_))
  · have hH1 : H1 a = some (.lst [.ref l, .int i, .int sd, .int rs]) := e1.get hH (.lst _)
    refine s_cons (s_set 2 e1.2 (r := pN) (P := is (rs % (m : Int)).toNat) (v_modN hmP (v_mod hmP (v_int1 B (v_at (d := a) (n := 3) (o_var (ix := 0)) hH1 (v_nat (n := 3)) rfl (show pI.rel H1 (.int rs) rs from rfl))) (ev_i (v_v 1 (show pN.rel H1 _ m from rfl))))) scTaken.nd fun vf z H2 e2 rf pz => ?_)
    obtain rfl : z = _ := pz
    have hH2 : H2 a = some (.lst [.ref l, .int i, .int sd, .int rs]) := e2.get hH1 (.lst _)
    refine s_cons (s_setAt (n := 3) (d := a) e2.2 (r := pI) (P := is (rs / (m : Int))) (v_fdiv (hdm rs) (v_at (d := a) (n := 3) (o_var (ix := 0)) hH2 (v_nat (n := 3)) rfl (show pI.rel H2 (.int rs) rs from rfl)) (ev_i (v_v 1 (show pN.rel H2 _ m from rfl)))) (o_var (ix := 0)) hH2 (by simp) fun u z H3 e3 ru pz => ?_)
    obtain rfl : z = _ := pz
    obtain rfl : u = _ := ru
    have hH3 : H3 a = some (.lst [.ref l, .int i, .int sd, .int rs]) := e3.get hH2 (.lst _)
    have e03 : Ex T H H3 := (e1.trans e2).trans e3
    have hR : RowAt K ns l a (L2.upd H3 a (.lst [.ref l, .int i, .int sd, .int (rs / (m : Int))])) := row_upd hH3 (sql_ext hS e03.1) hi0 hs0 hs1
    have eM : ExM [a] T H3 (L2.upd H3 a (.lst [.ref l, .int i, .int sd, .int (rs / (m : Int))])) := ExM.mut hH3 (.lst _) (by simp) e3.2
    exact s_cons (s_ret eM.tabs (r := pN) (P := is (rs % (m : Int)).toNat) (v_v 2 (show pN.rel _ vf _ from rf)) fun u z H4 e4 rl pz => k u z H4 (e03.toM.trans (eM.trans e4.toM)) (row_kp.ext (T := T) _ _ hR e4) rl (by rw [show z = _ from pz]; exact mod_lt hm0 rs))
  have hH1 : H1 a = some (.lst [.ref l, .int i, .int sd, .int rs]) := e1.get hH (.lst _)
  refine s_cons (s_setAt (n := 1) (d := a) e1.2 (r := pI) (P := is (i + 1)) (v_add (v_at (d := a) (n := 1) (o_var (ix := 0)) hH1 (v_nat (n := 1)) rfl (show pI.rel H1 (.int i) i from rfl)) (v_int (i := 1))) (o_var (ix := 0)) hH1 (by simp) fun u z H2 e2 ru pz => ?_)
  obtain rfl : z = _ := pz
  obtain rfl : u = _ := ru
  have hH2 : H2 a = some (.lst [.ref l, .int i, .int sd, .int rs]) := e2.get hH1 (.lst _)
  have e02 : Ex T H H2 := e1.trans e2
  have hR3 : RowAt K ns l a (L2.upd H2 a (.lst [.ref l, .int (i + 1), .int sd, .int rs])) := row_upd hH2 (sql_ext hS e02.1) (by omega) hs0 hs1
  have eM3 : ExM [a] T H (L2.upd H2 a (.lst [.ref l, .int (i + 1), .int sd, .int rs])) := e02.toM.trans (ExM.mut hH2 (.lst _) (by simp) e2.2)
  have hH3 : (L2.upd H2 a (.lst [.ref l, .int (i + 1), .int sd, .int rs])) a = some (.lst [.ref l, .int (i + 1), .int sd, .int rs]) := upd_same
  show oSs _ _ _ _ (L2.upd H2 a (.lst [.ref l, .int (i + 1), .int sd, .int rs]))
  generalize (L2.upd H2 a (.lst [.ref l, .int (i + 1), .int sd, .int rs])) = H3 at hR3 eM3 hH3
  have hS3 := hR3.2
  have rd : ∀ {H' : Hp}, Ex T H3 H' → H' a = some (.lst [.ref l, .int (i + 1), .int sd, .int rs]) := fun e => e.get hH3 (.lst _)
  refine s_cons (s_if eM3.tabs (bx := decide ((ns.length : Int) < i + 1)) (t_c (c_gt (v_at (d := a) (n := 1) (o_var (ix := 0)) hH3 (v_nat (n := 1)) rfl (show pI.rel H3 (.int (i + 1)) (i + 1) from rfl)) (ev_i (v_lenS B (v_at (r := pAd) (d := a) (n := 0) (o_var (ix := 0)) hH3 (v_nat (n := 0)) rfl rfl) hS3)))) (fun hb H4 e4 => ?_) (fun hb H4 e4 => s_nil ?_))
  · have hH4 := rd e4
    refine s_cons (s_setAt (n := 2) (d := a) e4.2 (r := pI) (P := is ((sd * 48271 + 11) % 2147483647)) (v_mod (by decide) (v_int1 B (v_add (v_mul (seed_mul hs0 hs1) (v_at (d := a) (n := 2) (o_var (ix := 0)) hH4 (v_nat (n := 2)) rfl (show pI.rel H4 (.int sd) sd from rfl)) (v_int (i := 48271))) (v_int (i := 11)))) (v_int (i := 2147483647))) (o_var (ix := 0)) hH4 (by simp) fun u z H5 e5 ru pz => ?_)
    obtain rfl : z = _ := pz
    obtain rfl : u = _ := ru
    have hH5 := rd (e4.trans e5)
    have hq0 := Int.emod_nonneg (sd * 48271 + 11) (show (2147483647 : Int) ≠ 0 by decide)
    have hq1 := Int.emod_lt_of_pos (sd * 48271 + 11) (show (0 : Int) < 2147483647 by decide)
    generalize (sd * 48271 + 11) % 2147483647 = sd' at hq0 hq1
    have hR6 : RowAt K ns l a (L2.upd H5 a (.lst [.ref l, .int (i + 1), .int sd', .int rs])) := row_upd hH5 (sql_ext hS3 (e4.trans e5).1) (by omega) hq0 (by omega)
    have eM6 : ExM [a] T H (L2.upd H5 a (.lst [.ref l, .int (i + 1), .int sd', .int rs])) := eM3.trans ((e4.trans e5).toM.trans (ExM.mut hH5 (.lst _) (by simp) e5.2))
    have hH6 : (L2.upd H5 a (.lst [.ref l, .int (i + 1), .int sd', .int rs])) a = some (.lst [.ref l, .int (i + 1), .int sd', .int rs]) := upd_same
    show oSs _ _ _ _ (L2.upd H5 a (.lst [.ref l, .int (i + 1), .int sd', .int rs]))
    generalize (L2.upd H5 a (.lst [.ref l, .int (i + 1), .int sd', .int rs])) = H6 at hR6 eM6 hH6
    exact s_cons (s_ret eM6.tabs (r := pN) (P := is (sd' / 7 % (m : Int)).toNat) (v_modN hmP (v_mod hmP (v_int1 B (v_fdiv (wide_div (b := 3) (by decide) (by decide) (by decide) (by decide)) (v_at (d := a) (n := 2) (o_var (ix := 0)) hH6 (v_nat (n := 2)) rfl (show pI.rel H6 (.int sd') sd' from rfl)) (v_int (i := 7)))) (ev_i (v_v 1 (show pN.rel H6 _ m from rfl))))) fun u z H7 e7 rl pz => k u z H7 (eM6.trans e7.toM) (row_kp.ext (T := T) _ _ hR6 e7) rl (by rw [show z = _ from pz]; exact mod_lt hm0 _))
  have hb : ¬ (ns.length : Int) < i + 1 := of_decide_eq_false hb
  have hil : i.toNat < ns.length := by omega
  have hH4 := rd e4
  refine s_cons (s_set 3 e4.2 (r := pI) (P := is ns[i.toNat]) (v_ixS (l := l) (v_at (r := pAd) (d := a) (n := 0) (o_var (ix := 0)) hH4 (v_nat (n := 0)) rfl rfl) (sql_ext hS3 e4.1) (ev_n (n := i.toNat) (ev_is (v_sub (v_at (d := a) (n := 1) (o_var (ix := 0)) hH4 (v_nat (n := 1)) rfl (show pI.rel H4 (.int (i + 1)) (i + 1) from rfl)) (v_int (i := 1))) (by omega))) (List.getElem?_eq_getElem hil)) scTaken.nd fun vc z H5 e5 rc pz => ?_)
  obtain rfl : z = _ := pz
  generalize ns[i.toNat] = c at rc
  have hH5 := rd (e4.trans e5)
  obtain rfl : vc = V.int c := rc
  refine s_cons (s_setAt (n := 2) (d := a) e5.2 (r := pI) (P := is ((sd * 48271 + c + 11) % 2147483647)) (v_mod (by decide) (v_int1 B (v_add (v_add (v_mul (seed_mul hs0 hs1) (v_at (d := a) (n := 2) (o_var (ix := 0)) hH5 (v_nat (n := 2)) rfl (show pI.rel H5 (.int sd) sd from rfl)) (v_int (i := 48271))) (v_v 3 (show pI.rel H5 _ c from rfl))) (v_int (i := 11)))) (v_int (i := 2147483647))) (o_var (ix := 0)) hH5 (by simp) fun u z H6 e6 ru pz => ?_)
  obtain rfl : z = _ := pz
  obtain rfl : u = _ := ru
  have hH6 := rd ((e4.trans e5).trans e6)
  have hq0 := Int.emod_nonneg (sd * 48271 + c + 11) (show (2147483647 : Int) ≠ 0 by decide)
  have hq1 := Int.emod_lt_of_pos (sd * 48271 + c + 11) (show (0 : Int) < 2147483647 by decide)
  generalize (sd * 48271 + c + 11) % 2147483647 = sd' at hq0 hq1
  have hR7 : RowAt K ns l a (L2.upd H6 a (.lst [.ref l, .int (i + 1), .int sd', .int rs])) := row_upd hH6 (sql_ext hS3 ((e4.trans e5).trans e6).1) (by omega) hq0 (by omega)
  have eM7 : ExM [a] T H (L2.upd H6 a (.lst [.ref l, .int (i + 1), .int sd', .int rs])) := eM3.trans (((e4.trans e5).trans e6).toM.trans (ExM.mut hH6 (.lst _) (by simp) e6.2))
  have hH7 : (L2.upd H6 a (.lst [.ref l, .int (i + 1), .int sd', .int rs])) a = some (.lst [.ref l, .int (i + 1), .int sd', .int rs]) := upd_same
  show oSs _ _ _ _ (L2.upd H6 a (.lst [.ref l, .int (i + 1), .int sd', .int rs]))
  generalize (L2.upd H6 a (.lst [.ref l, .int (i + 1), .int sd', .int rs])) = H7 at hR7 eM7 hH7
  refine s_cons (s_if eM7.tabs (t_c (c_ge (v_v 3 (show pI.rel H7 _ c from rfl)) (v_pow ⟨by decide, by decide, by decide⟩ (v_int (i := 10)) (v_int (i := 18))))) (fun hb H8 e8 => ?_) (fun hb H8 e8 => s_nil ?_))
  · have hH8 : H8 a = some (.lst [.ref l, .int (i + 1), .int sd', .int rs]) := e8.get hH7 (.lst _)
    refine s_cons (s_setAt (n := 3) (d := a) e8.2 (r := pI) (P := is (c / (m : Int))) (v_fdiv (hdm c) (v_v 3 (show pI.rel H8 _ c from rfl)) (ev_i (v_v 1 (show pN.rel H8 _ m from rfl)))) (o_var (ix := 0)) hH8 (by simp) fun u z H9 e9 ru pz => ?_)
    obtain rfl : z = _ := pz
    obtain rfl : u = _ := ru
    have hH9 : H9 a = some (.lst [.ref l, .int (i + 1), .int sd', .int rs]) := e9.get hH8 (.lst _)
    have hR10 : RowAt K ns l a (L2.upd H9 a (.lst [.ref l, .int (i + 1), .int sd', .int (c / (m : Int))])) := row_upd hH9 (sql_ext hR7.2 (e8.trans e9).1) (by omega) hq0 (by omega)
    have eM10 : ExM [a] T H (L2.upd H9 a (.lst [.ref l, .int (i + 1), .int sd', .int (c / (m : Int))])) := eM7.trans ((e8.trans e9).toM.trans (ExM.mut hH9 (.lst _) (by simp) e9.2))
    exact s_nil (s_cons (s_ret eM10.tabs (r := pN) (P := is (c % (m : Int)).toNat) (v_modN hmP (v_mod hmP (v_int1 B (v_v 3 (show pI.rel _ _ c from rfl))) (ev_i (v_v 1 (show pN.rel _ _ m from rfl))))) fun u z H11 e11 rl pz => k u z H11 (eM10.trans e11.toM) (row_kp.ext (T := T) _ _ hR10 e11) rl (by rw [show z = _ from pz]; exact mod_lt hm0 _)))
  · exact s_cons (s_ret e8.2 (r := pN) (P := is (c % (m : Int)).toNat) (v_modN hmP (v_mod hmP (v_int1 B (v_v 3 (show pI.rel _ _ c from rfl))) (ev_i (v_v 1 (show pN.rel _ _ m from rfl))))) fun u z H11 e11 rl pz => k u z H11 (eM7.trans (e8.trans e11).toM) (row_kp.ext (T := T) _ _ hR7 (e8.trans e11)) rl (by rw [show z = _ from pz]; exact mod_lt hm0 _))
end
end LT
/-! ## LtTake3 -/
set_option Elab.async false
set_option linter.all false
set_option maxRecDepth 100000
set_option maxHeartbeats 8000000
namespace LT
open PySem PySem.W PySem.Spec PyProof.Rows L2 LamX

section
variable {α : Type} {X : Cx} {T : List (Addr × Str)} {M : List Addr} {J : Hp → Prop} {a b e1 e2 : Expr} {r : Rp α} {σ : L2.St} {H : Hp} {pos p : Pos} {kk n : Nat} {ad l : Addr} {ns : List Int}
/-- list[e] -/
theorem vm_ixL {xs : List α} {Pn : Nat → Prop} (st : Kp T M J) (im : Imm r) (ha : ∀ H1, ExM M T H H1 → J H1 → VE X T a (pLst r) σ H1 (is xs)) (hne : ∀ H1 b vs, J H1 → H1 b = some (.lst vs) → Paired (r.rel H1) vs xs → b ∉ M) (hb : VM X T M J b pN σ H Pn) (hx : ∀ n, Pn n → n < xs.length) (hs : PlainIx b := by intro _ _; rfl) : VM X T M J (.Subscript a b pos) r σ H (· ∈ xs) :=
  vm_of (pe_ix ix_list pe_o pe_o hs) fun H1 e1 j Q k => ha H1 e1 j H1 (Ex.refl e1.tabs) _ fun v ys H2 e2 rx px => hb H2 (e1.trans e2.toM) (st.ext _ _ j e2) _ fun w m H3 e3 j3 ry py => by
    obtain ⟨p, vs, rfl, h1, h2⟩ := rx
    rw [show ys = xs from px] at h2
    have hx' := hx m py
    obtain ⟨u, hu, ru⟩ := Paired.at1 h2 (List.getElem?_eq_getElem hx')
    have hp := hne H2 p vs (st.ext _ _ j e2) h1 h2
    exact ⟨p, vs, (m : Int), u, rfl, show w = _ from ry, sq_l (e3.get h1 (.lst _) hp), atI_nat hu, k _ _ H3 (e2.toM.trans e3) j3 (im e3.tup ru) (List.getElem_mem hx')⟩
/-- a draw -/
theorem vm_take {K : PySem.W.Frag} (Ct : Cal X.prog X.w X.K X.mg X.base "_law_taken" ["_law_row", "_law_many"] kk (pTaken K ns l T)) (hr : Room kk X.A) (ha : ∀ H1, ExM [ad] T H H1 → RowAt K ns l ad H1 → VE X T e1 pAd σ H1 (is ad)) (hb : ∀ H1, ExM [ad] T H H1 → RowAt K ns l ad H1 → VE X T e2 pN σ H1 (is n)) (h0 : 0 < n) (h1 : n ≤ 1000)
    (hg : Gl X "_law_taken" := by rfl) (he : starEach [e1, e2] X.env = (false, eval e1 X.env) :: starEach [e2] X.env := by rfl) (he2 : starEach [e2] X.env = (false, eval e2 X.env) :: starEach [] X.env := by rfl) (hpl : (backTo pos (starEach [e2] X.env)).any (·.1) = false := by rfl) :
    VM X T [ad] (RowAt K ns l ad) (.Call (.Name "_law_taken" p) [e1, e2] [] pos) pN σ H (· < n) :=
  vm_call (Pb := fun y : Addr × Nat × Unit => y.1 = ad ∧ y.2.1 = n) Ct hr (am_imp (am_c (P := is ad) imAd (EvM.of row_kp ha) (am_1 (P := is n) (EvM.of row_kp hb) he2) he) fun y h => h) (fun ⟨y1, y2, _⟩ ⟨q1, q2⟩ => by
    simp only at q1 q2
    subst q1 q2
    exact ⟨⟨h0, h1⟩, rfl, rfl, fun u h => h⟩) hg (by decide) he hpl
end
theorem row_ne {K : PySem.W.Frag} {ns : List Int} {l a b : Addr} {H : Hp} {vs : List V} {xs : List Tbl} (h : RowAt K ns l a H) (hb : H b = some (.lst vs)) (hp : Paired (pT.rel H) vs xs) : b ∉ [a] := fun hm => by
  obtain ⟨⟨i, s, r, hH, _⟩, _⟩ := h
  rw [List.mem_singleton.mp hm, hH] at hb
  cases hb
  cases hp with
  | cons q1 t =>
    cases t with
    | cons q2 _ =>
      obtain ⟨_, _, e, _⟩ := q2
      cases e
section
variable {P : Program} {w : World} {K : PySem.W.Frag} {mg : Str → Option Value} {base : Heap} {T : List (Addr × Str)} {f : Addr} {fd : FuncData} {k : Nat} {ns : List Int} {l : Addr}
abbrev pPick (K : PySem.W.Frag) (ns : List Int) (l : Addr) (T : List (Addr × Str)) : Sp := SpX T (aC pAd (a1 (pLst pT))) (fun y => 0 < y.2.1.length ∧ y.2.1.length ≤ 1000) (fun y => [y.1]) (fun y => RowAt K ns l y.1) pT (fun y t => t ∈ y.2.1)
theorem scPick : FnScope ["_law_row", "_law_things"] ["_law_row", "_law_things"] (defScope s__law_pick) := ⟨rfl, rfl, rfl, by decide +kernel, rfl, by decide +kernel, by decide +kernel⟩
theorem f_pick {j : Nat} (B : Blt mg) (Ct : Cal P w K mg base "_law_taken" ["_law_row", "_law_many"] j (pTaken K ns l T)) (hj : j ≤ k) (F : FnP K "_law_pick" s__law_pick f fd) : FnOk P w K mg base CX0 (k + 1) f fd ["_law_row", "_law_things"] (pPick K ns l T) := by
  refine fn_okX F scPick len2 fun cdv A outer s H vs Q E ⟨a, xs, _⟩ hr ⟨v, ws, e1, h1, v2, ws2, e2, h2, h4⟩ ⟨h0, h1000⟩ hJ hT k => ?_
  obtain rfl : ws2 = [] := h4
  subst e1 e2
  obtain rfl : v = V.ref a := h1
  have hJ : RowAt K ns l a H := hJ
  have h0 : 0 < xs.length := h0
  have h1000 : xs.length ≤ 1000 := h1000
  obtain ⟨b, vs, rfl, hb, hp⟩ : (pLst pT).rel H v2 xs := h2
  have at' : ∀ H', ExM [a] T H H' → (pLst pT).rel H' (.ref b) xs := fun H' e' => ⟨b, vs, rfl, e'.get hb (.lst _) (row_ne hJ hb hp), paired_imp (fun _ _ => imT e'.tup) hp⟩
  exact s_cons (s_retM (M := [a]) (J := RowAt K ns l a) (r := pT) (P := (· ∈ xs)) hT hJ (vm_ixL (xs := xs) row_kp imT (fun H1 e1 _ => v_v 1 (at' H1 e1)) (fun H1 b vs j hb hp => row_ne j hb hp) (vm_take Ct (hr.mono hj) (fun H1 _ _ => v_v 0 rfl) (fun H1 e1 _ => v_lenL B (v_v 1 (at' H1 e1))) h0 h1000) fun n h => h) fun u z H1 e1 j1 rl pz => k u z H1 e1 j1 rl pz)
abbrev pTable (K : PySem.W.Frag) (ns : List Int) (l : Addr) (T : List (Addr × Str)) : Sp := SpX T (aC pAd (a3 pN pN pN)) (fun y => (1 ≤ y.2.1 ∧ y.2.1 ≤ 4) ∧ (1 ≤ y.2.2.1 ∧ y.2.2.1 ≤ 5) ∧ y.2.2.2.1 ≤ 99) (fun y => [y.1]) (fun y => RowAt K ns l y.1) pT (fun y t => Ok t)
abbrev tbNs : List Str := ["_law_row", "_law_crowded", "_law_sorts", "_law_top", "_law_many", "_law_wide", "_law_person", "_law_good"]
theorem scTable : FnScope tbNs ["_law_row", "_law_crowded", "_law_sorts", "_law_top"] (defScope s__law_table) := ⟨rfl, rfl, rfl, by decide +kernel, rfl, by decide +kernel, by decide +kernel⟩
theorem paired_len {α β : Type} {R : α → β → Prop} {xs : List α} {ys : List β} (h : Paired R xs ys) : ys.length = xs.length := h.length.symm
theorem paired_all {α β : Type} {Q : β → Prop} : ∀ {xs : List α} {ys : List β}, Paired (fun _ y => Q y) xs ys → ∀ y ∈ ys, Q y
  | _, _, .nil, y, h => by cases h
  | _, _, .cons q t, y, h => (List.mem_cons.mp h).elim (fun e => e ▸ q) fun h => paired_all t y h
theorem f_table {j : Nat} (B : Blt mg) (Ct : Cal P w K mg base "_law_taken" ["_law_row", "_law_many"] j (pTaken K ns l T)) (hj : j ≤ k) (F : FnP K "_law_table" s__law_table f fd) : FnOk P w K mg base CX0 (k + 1) f fd ["_law_row", "_law_crowded", "_law_sorts", "_law_top"] (pTable K ns l T) := by
  refine fn_okX F scTable len4 fun cdv A outer s H vs Q E ⟨a, c, so, tp, _⟩ hr ⟨v1, ws1, e1, h1, v2, ws2, e2, h2, v3, ws3, e3, h3, v4, ws4, e4, h4, h5⟩ ⟨⟨hc1, hc2⟩, ⟨hs1, hs2⟩, ht⟩ hJ hT k => ?_
  obtain rfl : ws4 = [] := h5
  subst e1 e2 e3 e4
  obtain rfl : v1 = V.ref a := h1
  obtain rfl : v2 = V.int (c : Int) := h2
  obtain rfl : v3 = V.int (so : Int) := h3
  obtain rfl : v4 = V.int (tp : Int) := h4
  have hJ : RowAt K ns l a H := hJ
  have hc1 : 1 ≤ c := hc1
  have hc2 : c ≤ 4 := hc2
  have hs1 : 1 ≤ so := hs1
  have hs2 : so ≤ 5 := hs2
  have ht : tp ≤ 99 := ht
  refine s_cons (s_asg2M (M := [a]) (J := RowAt K ns l a) (r := pN) (s := pN) (P := fun n => 1 ≤ n ∧ n ≤ c) (Pb := fun n => 1 ≤ n ∧ n ≤ so) 4 5 imN imN row_kp hT hJ rfl scTable.nd
    (vm_addN (n := 1) row_kp (fun H1 _ _ => v_nat (n := 1)) (vm_take Ct (hr.mono hj) (fun H1 _ _ => v_v 0 rfl) (fun H1 _ _ => v_v 1 rfl) hc1 (by omega)) fun m h => by omega)
    (vm_addN (n := 1) row_kp (fun H1 _ _ => v_nat (n := 1)) (vm_take Ct (hr.mono hj) (fun H1 _ _ => v_v 0 rfl) (fun H1 _ _ => v_v 2 rfl) hs1 (by omega)) fun m h => by omega) fun vm vw many wide H1 e1 j1 rm rw' ⟨m1, m2⟩ ⟨w1, w2⟩ => ?_)
  obtain rfl : vm = _ := rm
  obtain rfl : vw = _ := rw'
  refine s_cons (s_retM (M := [a]) (J := RowAt K ns l a) (r := pT) (P := fun t => OkW wide t) e1.tabs j1 (EvM.imp (vm_tup row_kp B (vm_lc (lcm_n (xs := List.range many) (R := fun _ (row : Row) => row.length = wide ∧ ∀ x ∈ row, 0 ≤ x ∧ x ≤ 99) (r := pN) (s := pR) (O := NoO) [("_law_person", 6)] 6 row_kp imN imR (blkOk_by (N := tbNs) (sc := defScope s__law_table) (by decide +kernel)) (tg_name scTable.nd) (fun H2 _ _ => i_rng1 B (v_v 4 (show pN.rel H2 _ many from rfl)) (by omega)) (Nat.le_of_lt (small1000 (by rw [List.length_range]; omega))) (fun _ p _ _ h => by cases h) (fun _ => rfl) ?_) rfl scTable.nd)) ?_) fun u z H2 e2 j2 rl pz => k u z H2 (e1.trans e2) j2 rl ⟨wide, pz⟩)
  · rintro x hx H2 u e2 j2 ru _ ⟨s', H0, C', cl, fp, rfl⟩
    refine EvM.imp (vm_tup row_kp B (vm_lc (lcm_n (xs := List.range wide) (R := fun _ (x : Int) => 0 ≤ x ∧ x ≤ 99) (r := pN) (s := pI) (O := NoO) [("_law_good", 7)] 7 row_kp imN imI (blkOk_by (N := tbNs) (sc := relS _ (defScope s__law_table)) (by decide +kernel)) (tg_name scTable.nd) (fun H3 _ _ => i_rng1 B (v_v 5 (show pN.rel H3 _ wide from rfl)) (by omega)) (Nat.le_of_lt (small1000 (by rw [List.length_range]; omega))) (fun _ p _ _ h => by cases h) (fun _ => rfl) ?_) rfl scTable.nd)) ?_
    · rintro y hy H3 u3 e3 j3 ru3 _ ⟨s2, H02, C2, cl2, fp2, rfl⟩
      refine EvM.as (r := pN) (P := (· < tp + 1)) (fun n : Nat => (n : Int)) ?_ fun H4 v4 n rl hn => ⟨rl, by omega, by omega⟩
      exact vm_take (n := tp + 1) Ct (hr.mono hj) (fun H4 _ _ => v_v 0 rfl) (fun H4 _ _ => v_addN (v_v 3 rfl) (v_nat (n := 1))) (by omega) (by omega)
    · exact fun row h => ⟨by rw [paired_len h, List.length_range], paired_all h⟩
  · intro t h
    have hl : t.length = many := by rw [paired_len h, List.length_range]
    exact ⟨fun e => by rw [e] at hl; simp at hl; omega, by omega, w1, by omega, paired_all h⟩
end
end LT
/-! ## LtTake4 -/
set_option Elab.async false
set_option linter.all false
set_option maxRecDepth 100000
set_option maxHeartbeats 8000000
namespace LT
open PySem PySem.W PySem.Spec PyProof.Rows L2 LamX

theorem ExM.fr0 {M : List Addr} {T : List (Addr × Str)} {H H1 : Hp} {p : Addr} (e : ExM M T H H1) (f : Fr0 H1 p) (n : p ∉ M) : Fr0 H p := fun o q => Classical.byContradiction fun z => by
  obtain ⟨ps, e2⟩ := f o (e.1 p o q (fun ps h => z ⟨ps, h⟩) n)
  exact z ⟨ps, e2⟩
/-- what is new may be forgotten -/
theorem ExM.drop {M M' : List Addr} {T : List (Addr × Str)} {H H1 H2 : Hp} (e : ExM M T H H1) (m : ExM M' T H1 H2) (h : ∀ p ∈ M', p ∈ M ∨ Fr0 H p) : ExM M T H H2 :=
  ⟨fun b o q n nb => m.1 b o (e.1 b o q n nb) n fun hb => (h b hb).elim nb fun f => f.ne q n rfl, e.tup.trans m.tup, m.tabs⟩
theorem ixn_nat {n j : Nat} (h : j < n) : ixN n (j : Int) = some j := by
  unfold ixN
  rw [if_pos (by omega), if_pos (by omega)]
  simp
section
variable {X : Cx} {T : List (Addr × Str)} {M : List Addr} {J : Hp → Prop} {o1 o2 c : Expr} {σ : L2.St} {H : Hp} {pos p apos apos2 cpos cpos2 : Pos} {D : Ends} {dd dl : Addr} {us vs : List V}
/-- side.append(left.pop(draw)) -/
theorem s_appPop (hT : Tabs T H) (hJ : J H) (h1 : ∀ H1, Ex T H H1 → ∀ Q : VK, Q (.ref dd) H1 → oE X o1 σ H1 Q) (h2 : ∀ H1, Ex T H H1 → ∀ Q : VK, Q (.ref dl) H1 → oE X o2 σ H1 Q) (hd1 : H dd = some (.lst us)) (hd2 : H dl = some (.lst vs)) (hc : VM X T M J c pN σ H (· < vs.length))
    (n1 : dd ∉ M) (n2 : dl ∉ M) (n3 : dl ≠ dd) (hz : us.length < sizeLine) (hv : vs.length ≤ 1000)
    (k : ∀ n y H1, vs[n]? = some y → ExM M T H H1 → J H1 → H1 dd = some (.lst us) → H1 dl = some (.lst vs) → D.nx σ (L2.upd (L2.upd H1 dl (.lst (vs.eraseIdx n))) dd (.lst (us ++ [y]))))
    (hbase : attributeBase o1 "append" X.env (eval o1 X.env) = eval o1 X.env := by rfl)
    (hfew : ((backTo cpos (starEach [.Call (.Attribute o2 "pop" apos2) [c] [] cpos2] X.env)).all (fun x => !x.1) && (backToKw cpos (keywordEach [] X.env)).all (fun x => x.1.isSome)
      && decide (([.Call (.Attribute o2 "pop" apos2) [c] [] cpos2] : List Expr).length + ([] : List Keyword).length + (if ([] : List Keyword).isEmpty then 0 else 1) < 30)) = true := by rfl)
    (hline : (apos.endLine == cpos.line) = true := by rfl) (hs : starEach [.Call (.Attribute o2 "pop" apos2) [c] [] cpos2] X.env = (false, eval (.Call (.Attribute o2 "pop" apos2) [c] [] cpos2) X.env) :: starEach [] X.env := by rfl) (hplain : (backTo cpos (starEach [] X.env)).any (·.1) = false := by rfl)
    (hsw : swapsWith (.Call (.Attribute o1 "append" apos) [.Call (.Attribute o2 "pop" apos2) [c] [] cpos2] [] cpos) none pos.line X.env = pure false := by rfl)
    (hbase2 : attributeBase o2 "pop" X.env (eval o2 X.env) = eval o2 X.env := by rfl)
    (hfew2 : ((backTo cpos2 (starEach [c] X.env)).all (fun x => !x.1) && (backToKw cpos2 (keywordEach [] X.env)).all (fun x => x.1.isSome)
      && decide (([c] : List Expr).length + ([] : List Keyword).length + (if ([] : List Keyword).isEmpty then 0 else 1) < 30)) = true := by rfl)
    (hline2 : (apos2.endLine == cpos2.line) = true := by rfl) (hs2 : starEach [c] X.env = (false, eval c X.env) :: starEach [] X.env := by rfl) (hplain2 : (backTo cpos2 (starEach [] X.env)).any (·.1) = false := by rfl) :
    oS X (.Expr (.Call (.Attribute o1 "append" apos) [.Call (.Attribute o2 "pop" apos2) [c] [] cpos2] [] cpos) pos) D σ H :=
  oS_of (ps_expr (pe_bm PySem.F.plainAttrs_list PySem.F.slot_list_append PySem.F.type_list_append mt_append pe_o (pa_cons (pe_bm PySem.F.plainAttrs_list PySem.F.slot_list_pop PySem.F.type_list_pop mt_popAt pe_o (pa_cons pe_o pa_nil hs2) hbase2 hfew2 hline2 hs2 hplain2) pa_nil hs) hbase hfew hline hs hplain) hsw)
    (h1 H (Ex.refl hT) _ ⟨.inl ⟨rfl, us, sq_l hd1⟩, h2 H (Ex.refl hT) _ ⟨.inl ⟨rfl, vs, sq_l hd2⟩, hc H (ExM.refl hT) hJ _ fun u n H1 e1 j1 ru hn => by
      obtain rfl : u = V.int (n : Int) := ru
      have hn : n < vs.length := hn
      have a1 : H1 dd = some (.lst us) := e1.get hd1 (.lst _) n1
      have a2 : H1 dl = some (.lst vs) := e1.get hd2 (.lst _) n2
      refine ⟨dl, vs, (n : Int), n, vs[n], rfl, rfl, a2, by omega, by omega, (ixN_seq (ixn_nat hn)).1, List.getElem?_eq_getElem hn, ?_⟩
      exact ⟨dd, us, vs[n], rfl, rfl, by rw [upd_ne n3.symm]; exact a1, hz, k n vs[n] H1 (List.getElem?_eq_getElem hn) e1 j1 a1 a2⟩⟩⟩)
end
section
variable {P : Program} {w : World} {K : PySem.W.Frag} {mg : Str → Option Value} {base : Heap} {T : List (Addr × Str)} {f : Addr} {fd : FuncData} {k : Nat} {ns : List Int} {l : Addr}
abbrev pUnlike (K : PySem.W.Frag) (ns : List Int) (l : Addr) (T : List (Addr × Str)) : Sp := SpX T (aC pAd (a2 pN pN)) (fun y => (1 ≤ y.2.1 ∧ y.2.1 ≤ 4) ∧ (1 ≤ y.2.2.1 ∧ y.2.2.1 ≤ 5)) (fun y => [y.1]) (fun y => RowAt K ns l y.1) pT (fun y t => Ok t)
abbrev ulNs : List Str := ["_law_row", "_law_crowded", "_law_sorts", "_law_many", "_law_wide", "_law_sides", "_law_good", "_law_left", "_law_side", "_law_person"]
theorem scUnlike : FnScope ulNs ["_law_row", "_law_crowded", "_law_sorts"] (defScope s__law_unlike) := ⟨rfl, rfl, rfl, by decide +kernel, rfl, by decide +kernel, by decide +kernel⟩
/-- the sides so far -/
def SideOk (a ds : Addr) (H : Hp) (vs : List V) (sides : List (List Int)) : Prop := Paired (fun v (x : List Int) => ∃ b, v = V.ref b ∧ b ≠ a ∧ b ≠ ds ∧ H b = some (.lst (x.map V.int))) vs sides
def Sml (many : Nat) (x : List Int) : Prop := x.length = many ∧ ∀ y ∈ x, 0 ≤ y ∧ y ≤ 99
theorem row_ex {a : Addr} {H H' : Hp} (h : RowAt K ns l a H) (e : Ex T H H') : RowAt K ns l a H' := row_kp.ext (T := T) _ _ h e
/-- .. and by a change elsewhere -/
theorem row_oth {a d : Addr} {H H0 : Hp} {u : HO} (h : RowAt K ns l a H) (h0 : RowAt K ns l a H0) (hd : H0 d = none ∨ ∃ ps, H0 d = some (.tbl ps)) (ha : d ≠ a) : RowAt K ns l a (L2.upd H d u) := by
  obtain ⟨⟨i, s, r, h1, h2⟩, h3⟩ := h
  obtain ⟨_, g3⟩ := h0
  refine ⟨⟨i, s, r, by rw [upd_ne ha.symm]; exact h1, h2⟩, ?_⟩
  rcases g3 with g3 | g3
  · have nl : l ≠ d := fun z => by
      rw [z] at g3
      rcases g3 with q | ⟨_, q⟩ <;> (rcases hd with hd | ⟨ps, hd⟩ <;> (rw [hd] at q; cases q))
    rcases h3 with h3 | h3
    · refine .inl (h3.elim (fun q => .inl ?_) fun ⟨ob, q⟩ => .inr ⟨ob, ?_⟩) <;> (rw [upd_ne nl]; exact q)
    · exact .inr h3
  · exact .inr g3
theorem fr0_cases {H : Hp} {d : Addr} (h : Fr0 H d) : H d = none ∨ ∃ ps, H d = some (.tbl ps) := by
  cases e : H d with
  | none => exact .inl rfl
  | some o =>
    obtain ⟨ps, rfl⟩ := h o e
    exact .inr ⟨ps, rfl⟩
end
end LT
/-! ## LtTake5 -/
set_option Elab.async false
set_option linter.all false
set_option maxRecDepth 100000
set_option maxHeartbeats 8000000
namespace LT
open PySem PySem.W PySem.Spec PyProof.Rows L2 LamX

theorem erase_mem {α : Type} {xs : List α} {n : Nat} {x : α} (h : x ∈ xs.eraseIdx n) : x ∈ xs := (List.eraseIdx_sublist xs n).subset h
theorem erase_map {α β : Type} (f : α → β) : ∀ (xs : List α) (n : Nat), (xs.map f).eraseIdx n = (xs.eraseIdx n).map f
  | [], n => by simp
  | x :: xs, 0 => rfl
  | x :: xs, n + 1 => by rw [List.map_cons, List.eraseIdx_cons_succ, List.eraseIdx_cons_succ, List.map_cons, erase_map f xs n]
theorem paired_imp2 {α β : Type} {F G : α → β → Prop} {l : List α} {m : List β} (p : Paired F l m) (h : ∀ a b, F a b → G a b) : Paired G l m := paired_imp h p
theorem take_fin {many wide : Nat} {sides : List (List Int)} (h1 : 1 ≤ many) (h2 : many ≤ 4) (h3 : 1 ≤ wide) (h4 : wide ≤ 5) (hl : sides.length = wide) (hs : ∀ x ∈ sides, Sml many x) : Ok ((List.range many).map fun i => sides.map fun x => x.getD i 0) := by
  refine ⟨wide, fun e => ?_, by simpa using h2, h3, h4, fun r hr => ?_⟩
  · have := congrArg List.length e
    simp at this
    omega
  · obtain ⟨i, hi, rfl⟩ := List.mem_map.mp hr
    have hi := List.mem_range.mp hi
    refine ⟨by rw [List.length_map]; exact hl, fun x hx => ?_⟩
    obtain ⟨y, hy, rfl⟩ := List.mem_map.mp hx
    obtain ⟨q1, q2⟩ := hs y hy
    rw [List.getD_eq_getElem?_getD, List.getElem?_eq_getElem (by omega)]
    exact q2 _ (List.getElem_mem _)
section
variable {P : Program} {w : World} {K : PySem.W.Frag} {mg : Str → Option Value} {base : Heap} {T : List (Addr × Str)} {f : Addr} {fd : FuncData} {k : Nat} {ns : List Int} {l : Addr}
set_option maxHeartbeats 16000000 in
theorem f_unlike {j : Nat} (B : Blt mg) (Ct : Cal P w K mg base "_law_taken" ["_law_row", "_law_many"] j (pTaken K ns l T)) (hj : j ≤ k) (F : FnP K "_law_unlike" s__law_unlike f fd) : FnOk P w K mg base CX0 (k + 1) f fd ["_law_row", "_law_crowded", "_law_sorts"] (pUnlike K ns l T) := by
  refine fn_okX F scUnlike len3 fun cdv A outer s H vs Q E ⟨a, c, so, _⟩ hr ⟨v1, ws1, e1, h1, v2, ws2, e2, h2, v3, ws3, e3, h3, h5⟩ ⟨⟨hc1, hc2⟩, ⟨hs1, hs2⟩⟩ hJ hT k => ?_
  obtain rfl : ws3 = [] := h5
  subst e1 e2 e3
  obtain rfl : v1 = V.ref a := h1
  obtain rfl : v2 = V.int (c : Int) := h2
  obtain rfl : v3 = V.int (so : Int) := h3
  have hJ : RowAt K ns l a H := hJ
  have hc1 : 1 ≤ c := hc1
  have hc2 : c ≤ 4 := hc2
  have hs1 : 1 ≤ so := hs1
  have hs2 : so ≤ 5 := hs2
  refine s_cons (s_asg3M (M := [a]) (J := RowAt K ns l a) (r := pN) (s := pN) (q := pLst (pLst pI)) (P := fun n => 1 ≤ n ∧ n ≤ c) (Pb := fun n => 1 ≤ n ∧ n ≤ so) (Pc := is []) 3 4 5 imN imN row_kp hT hJ rfl scUnlike.nd
    (vm_addN (n := 1) row_kp (fun H1 _ _ => v_nat (n := 1)) (vm_take Ct (hr.mono hj) (fun H1 _ _ => v_v 0 rfl) (fun H1 _ _ => v_v 1 rfl) hc1 (by omega)) fun m h => by omega)
    (vm_addN (n := 1) row_kp (fun H1 _ _ => v_nat (n := 1)) (vm_take Ct (hr.mono hj) (fun H1 _ _ => v_v 0 rfl) (fun H1 _ _ => v_v 2 rfl) hs1 (by omega)) fun m h => by omega)
    (fun H1 _ _ => f_nil) fun vm vw ds many wide zs H1 Hm em e1 jm j1 fds rm rw' rz ⟨m1, m2⟩ ⟨w1, w2⟩ pz => ?_)
  obtain rfl : vm = _ := rm
  obtain rfl : vw = _ := rw'
  obtain rfl : zs = [] := pz
  obtain ⟨_, vs0, e, hds1, hp0⟩ := rz
  cases e
  cases hp0
  have nds : ds ≠ a := fun z => by
    obtain ⟨⟨i, s, r, q, _⟩, _⟩ := jm
    subst z
    exact fds.ne q (fun _ z => by cases z) rfl
  have fdsH : Fr0 H ds := em.fr0 fds (by simp [nds])
  refine s_cons (s_forX (r := pN) (Pl := is (List.range wide)) (O := NoO) imN e1.tabs [a, ds] (fun zs i σ' H' => ∃ o6 o7 o8 o9, σ' = [some (.ref a), some (.int (c : Int)), some (.int (so : Int)), some (.int (many : Int)), some (.int (wide : Int)), some (.ref ds), o6, o7, o8, o9] ∧ RowAt K ns l a H' ∧ ∃ us sides, H' ds = some (.lst us) ∧ SideOk a ds H' us sides ∧ sides.length = i ∧ ∀ x ∈ sides, Sml many x) rfl rfl (pg_name (i := 6) scUnlike.nd rfl (.inl rfl)) (i_rng1 B (v_v 4 rfl) (by omega)) (fun _ _ _ h _ => by cases h) ?_ ?_ ?_ ?_)
  · rintro zs H2 pz e2
    exact ⟨none, none, none, none, rfl, row_ex j1 e2, [], [], e2.get hds1 (.lst _), .nil, rfl, by simp⟩
  · rintro zs i σ' H2 H3 _ ⟨o6, o7, o8, o9, e, q1, us, sides, q2, q3, q4, q5⟩ e3
    exact ⟨o6, o7, o8, o9, e, row_ex q1 e3, us, sides, e3.get q2 (.lst _), paired_imp2 q3 fun v x ⟨b, z1, z2, z3, z4⟩ => ⟨b, z1, z2, z3, e3.get z4 (.lst _)⟩, q4, q5⟩
  · rintro zs i gd u σ' H2 pz hx m2' ⟨o6, o7, o8, o9, rfl, q1, us, sides, q2, q3, q4, q5⟩ ru
    obtain rfl : zs = _ := pz
    have hi : i < wide := by
      have := (List.getElem?_eq_some_iff.mp hx).1
      rwa [List.length_range] at this
    refine ⟨_, bnd_name, fun N hN => ?_⟩
    refine s_cons (s_parF (r := pLst pN) (s := pLst pI) (P := is (List.range many)) (Pb := is []) 7 8 m2'.tabs rfl scUnlike.nd (f_listRg rfl B (v_v 3 rfl) (by omega)) f_nil fun dl dd xl xd H3 e3 fl fd' rl rd px py => ?_)
    obtain rfl : xl = _ := px
    obtain rfl : xd = _ := py
    obtain ⟨_, vl, e, hl3, hpl⟩ := rl
    cases e
    obtain ⟨_, vd, e, hd3, hpd⟩ := rd
    cases e
    cases hpd
    obtain rfl := nats_of hpl
    have nla : dl ≠ a := fun z => by
      obtain ⟨⟨i, s, r, q, _⟩, _⟩ := q1
      subst z
      exact fl.ne q (fun _ z => by cases z) rfl
    have nda : dd ≠ a := fun z => by
      obtain ⟨⟨i, s, r, q, _⟩, _⟩ := q1
      subst z
      exact fd'.ne q (fun _ z => by cases z) rfl
    have nls : dl ≠ ds := fun z => by subst z; exact fl.ne q2 (fun _ z => by cases z) rfl
    have nds' : dd ≠ ds := fun z => by subst z; exact fd'.ne q2 (fun _ z => by cases z) rfl
    have nld : dl ≠ dd := fun z => by
      subst z
      rw [hl3] at hd3
      have := congrArg List.length (HO.lst.inj (Option.some.inj hd3))
      simp at this
      omega
    refine s_cons (s_forX (r := pN) (Pl := is (List.range many)) (O := NoO) imN e3.2 [a, dl, dd] (fun zs j σ' H' => ∃ o9 lv sv, σ' = [some (.ref a), some (.int (c : Int)), some (.int (so : Int)), some (.int (many : Int)), some (.int (wide : Int)), some (.ref ds), some u, some (.ref dl), some (.ref dd), o9] ∧ RowAt K ns l a H' ∧ H' dl = some (.lst ((lv : List Int).map V.int)) ∧ H' dd = some (.lst ((sv : List Int).map V.int)) ∧ lv.length + j = many ∧ sv.length = j ∧ (∀ y ∈ lv, 0 ≤ y ∧ y ≤ 99) ∧ ∀ y ∈ sv, 0 ≤ y ∧ y ≤ 99) rfl rfl (pg_name (i := 9) scUnlike.nd rfl (.inl rfl)) (i_rng1 B (v_v 3 rfl) (by omega)) (fun _ _ _ h _ => by cases h) ?_ ?_ ?_ ?_)
    · rintro zs H4 pz e4
      refine ⟨o9, (List.range many).map fun n : Nat => (n : Int), [], rfl, row_ex q1 (e3.trans e4), e4.get hl3 (.lst _), e4.get hd3 (.lst _), by simp, rfl, fun y hy => ?_, by simp⟩
      obtain ⟨n, hn, rfl⟩ := List.mem_map.mp hy
      have := List.mem_range.mp hn
      omega
    · rintro zs j' σ' H4 H5 _ ⟨o9, lv, sv, e, z1, z2, z3, z4, z5, z6, z7⟩ e5
      exact ⟨o9, lv, sv, e, row_ex z1 e5, e5.get z2 (.lst _), e5.get z3 (.lst _), z4, z5, z6, z7⟩
    · rintro zs j' pn u' σ' H4 pz hx' m4 ⟨o9, lv, sv, rfl, z1, z2, z3, z4, z5, z6, z7⟩ ru'
      obtain rfl : zs = _ := pz
      have hj' : j' < many := by
        have := (List.getElem?_eq_some_iff.mp hx').1
        rwa [List.length_range] at this
      refine ⟨_, bnd_name, fun N' hN' => ?_⟩
      have rdl : ∀ H', ExM [a] T H4 H' → (pLst pI).rel H' (.ref dl) lv := fun H' e' => ⟨dl, lv.map V.int, rfl, e'.get z2 (.lst _) (by simp [nla]), ints_to⟩
      refine s_cons (s_appPop (M := [a]) (J := RowAt K ns l a) (dd := dd) (dl := dl) m4.tabs z1 (o_var (ix := 8)) (o_var (ix := 7)) z3 z2 ?_ (by simp [nda]) (by simp [nla]) nld ?_ ?_ ?_)
      · rw [List.length_map]
        exact vm_take Ct (hr.mono hj) (fun H5 _ _ => v_v 0 rfl) (fun H5 e5 _ => v_lenL B (v_v 7 (rdl H5 e5))) (by omega) (by omega)
      · rw [List.length_map]
        exact Nat.lt_of_le_of_lt (show sv.length ≤ 4 by omega) (by decide)
      · rw [List.length_map]
        omega
      · rintro n y H5 hy e5 j5 a5 b5
        have f1 : RowAt K ns l a (L2.upd H5 dl (.lst ((lv.map V.int).eraseIdx n))) := row_oth j5 q1 (fr0_cases fl) nla
        have f2 : RowAt K ns l a (L2.upd (L2.upd H5 dl (.lst ((lv.map V.int).eraseIdx n))) dd (.lst (sv.map V.int ++ [y]))) := row_oth f1 q1 (fr0_cases fd') nda
        have g1 : ExM [a, dl, dd] T H5 (L2.upd H5 dl (.lst ((lv.map V.int).eraseIdx n))) := ExM.mut b5 (.lst _) (by simp) e5.tabs
        have a6 : (L2.upd H5 dl (.lst ((lv.map V.int).eraseIdx n))) dd = some (.lst (sv.map V.int)) := by rw [upd_ne nld.symm]; exact a5
        have g2 : ExM [a, dl, dd] T H5 (L2.upd (L2.upd H5 dl (.lst ((lv.map V.int).eraseIdx n))) dd (.lst (sv.map V.int ++ [y]))) := g1.trans (ExM.mut a6 (.lst _) (by simp) g1.tabs)
        rw [List.getElem?_map] at hy
        obtain ⟨y0, hy0, rfl⟩ := Option.map_eq_some_iff.mp hy
        have hn : n < lv.length := (List.getElem?_eq_some_iff.mp hy0).1
        refine s_nil (hN' _ _ ((e5.sub (by simp)).trans g2) ⟨some u', lv.eraseIdx n, sv ++ [y0], rfl, f2, ?_, ?_, ?_, ?_, ?_, ?_⟩)
        · rw [upd_ne nld, upd_same, erase_map]
        · rw [upd_same, List.map_append]
          rfl
        · rw [List.length_eraseIdx, if_pos hn]
          omega
        · rw [List.length_append, List.length_singleton]
          omega
        · exact fun y hy => z6 y (erase_mem hy)
        · intro y hy
          rcases List.mem_append.mp hy with hy | hy
          · exact z7 y hy
          · rw [List.mem_singleton.mp hy]
            exact z6 _ (List.mem_of_getElem? hy0)
    · rintro zs σ' H4 pz m4 ⟨o9, lv, sv, rfl, z1, z2, z3, z4, z5, z6, z7⟩
      obtain rfl : zs = _ := pz
      rw [List.length_range] at z5
      have ds4 : H4 ds = some (.lst us) := m4.get (e3.get q2 (.lst _)) (.lst _) (by simp [nds, nls.symm, nds'.symm])
      have hul : us.length = i := q3.length.trans q4
      refine s_cons (s_app (d := ds) (r := pAd) (Pv := is dd) m4.tabs (o_var (ix := 5)) ds4 (v_v 8 rfl) (Nat.lt_of_le_of_lt (show us.length ≤ 5 by omega) (by decide)) fun u5 x5 H5 H6 p5 e5 r5 m6 h5 h6 => ?_)
      obtain rfl : x5 = dd := p5
      obtain rfl : u5 = V.ref x5 := r5
      have m25 : ExM [a, ds] T H2 H5 := (e3.toM.drop m4 (by
        intro p hp
        rcases List.mem_cons.mp hp with rfl | hp
        · exact .inl (by simp)
        · rcases List.mem_cons.mp hp with rfl | hp
          · exact .inr fl
          · rw [List.mem_singleton.mp hp]
            exact .inr fd')).trans e5.toM
      have m26 : ExM [a, ds] T H2 H6 := m25.trans (m6.sub (by simp))
      have z15 : RowAt K ns l a H5 := row_ex z1 e5
      have z16 : RowAt K ns l a H6 := by
        rw [h6]
        exact row_oth z15 jm (fr0_cases fds) nds
      refine s_nil (hN _ _ m26 ⟨some u, some (.ref dl), some (.ref x5), o9, rfl, z16, us ++ [.ref x5], sides ++ [sv], by rw [h6, upd_same], ?_, ?_, ?_⟩)
      · refine Paired.app (paired_imp2 q3 fun v x ⟨b, y1, y2, y3, y4⟩ => ⟨b, y1, y2, y3, m26.get y4 (.lst _) (by simp [y2, y3])⟩) (.cons ⟨x5, rfl, nda, nds', ?_⟩ .nil)
        rw [h6, upd_ne nds']
        exact e5.get z3 (.lst _)
      · rw [List.length_append, List.length_singleton, q4]
      · intro x hx
        rcases List.mem_append.mp hx with hx | hx
        · exact q5 x hx
        · rw [List.mem_singleton.mp hx]
          exact ⟨z5, z7⟩
  · rintro zs σ' H2 pz m2' ⟨o6, o7, o8, o9, rfl, q1, us, sides, q2, q3, q4, q5⟩
    obtain rfl : zs = _ := pz
    rw [List.length_range] at q4
    have eM : ExM [a] T H H2 := e1.drop m2' (by
      intro p hp
      rcases List.mem_cons.mp hp with rfl | hp
      · exact .inl (by simp)
      · rw [List.mem_singleton.mp hp]
        exact .inr fdsH)
    have rsd : (pLst (pLst pI)).rel H2 (.ref ds) sides := ⟨ds, us, rfl, q2, paired_imp2 q3 fun v x ⟨b, y1, y2, y3, y4⟩ => ⟨b, x.map V.int, y1, y4, ints_to⟩⟩
    refine s_cons (s_ret m2'.tabs (r := pT) (P := is ((List.range many).map fun i => sides.map fun x => x.getD i 0)) (v_tup B (v_lc (lc_n (r := pN) (f := fun i : Nat => sides.map fun x => x.getD i 0) [("_law_person", 9)] 9 imR scUnlike.nd (blkOk_by (N := ulNs) (sc := defScope s__law_unlike) (by decide +kernel)) (tg_name scUnlike.nd) (i_rng1 B (v_v 3 rfl) (by omega)) (Nat.le_of_lt (small1000 (by rw [List.length_range]; omega))) (fun _ => rfl) ?_) rfl scUnlike.nd)) fun u z H3 e3 rl pz => k u z H3 (eM.trans e3.toM) (row_ex q1 e3) rl ?_)
    · rintro x hx H3 u e3 ru _ ⟨s', H0, C', cl, fp, rfl⟩
      have hx := List.mem_range.mp hx
      refine v_tup B (v_lc (lc_n (r := pLst pI) (f := fun y : List Int => y.getD x 0) [("_law_side", 8)] 8 imI scUnlike.nd (blkOk_by (N := ulNs) (sc := relS _ (defScope s__law_unlike)) (by decide +kernel)) (tg_name scUnlike.nd) (i_lst (v_v 5 ((pLst (pLst pI)).mono e3.1 rsd))) (Nat.le_of_lt (small1000 (show sides.length ≤ 1000 by omega))) (fun _ => rfl) ?_) rfl scUnlike.nd)
      rintro y hy H4 u4 e4 ru4 _ ⟨s2, H02, C2, cl2, fp2, rfl⟩
      obtain ⟨y1, y2⟩ := q5 y hy
      exact v_ixL (v_v 8 ru4) (v_v 9 (pN.mono e4.1 ru)) (by rw [List.getD_eq_getElem?_getD, List.getElem?_eq_getElem (by omega)]; rfl)
    · rw [show z = _ from pz]
      exact take_fin m1 (by omega) w1 (by omega) q4 q5
end
end LT
/-! ## LtLaw0 -/
set_option Elab.async false
set_option linter.all false
set_option maxRecDepth 100000
set_option maxHeartbeats 4000000
namespace LT
/-! ### what the law asks, plain -/
section
variable {g g' : Nat} {t s : Tbl}
theorem lf_in (h : OkW g t) : decide (worth (crowdOf t) ∈ (nextsOf t).map worth) = false := by
  refine decide_eq_false fun hm => ?_
  obtain ⟨u, hu, e⟩ := List.mem_map.mp hm
  rw [← nextC g t h] at hu
  exact worth_next h.crowd hu e
theorem lf_less (h : OkW g t) : (((List.range (worth (crowdOf t))).filter fun n => !decide (n ∈ (nextsOf t).map worth)).map fun n => n).isEmpty = true := by
  rw [List.isEmpty_iff, List.map_eq_nil_iff, List.filter_eq_nil_iff]
  intro n hn
  obtain ⟨u, hu, e⟩ := worth_less h.crowd (List.mem_range.mp hn)
  rw [nextC g t h] at hu
  have : n ∈ (nextsOf t).map worth := List.mem_map.mpr ⟨u, hu, e⟩
  simp [this]
theorem lf_le (h : OkW g t) : decide ((nextsOf t).length < worth (crowdOf t)) = false := by
  have := worth_le h.crowd
  rw [nextC g t h] at this
  exact decide_eq_false (by omega)
theorem lf_win (h : OkW g t) : (!((nextsOf t).filter fun u => decide (worth u = 0)).isEmpty) = decide (0 < worth (crowdOf t)) := by
  have := win_iff h.crowd
  rw [nextC g t h] at this
  cases e : ((nextsOf t).filter fun u => decide (worth u = 0)).isEmpty with
  | true =>
    rw [List.isEmpty_iff, List.filter_eq_nil_iff] at e
    have : ¬ 0 < worth (crowdOf t) := fun z => by
      obtain ⟨u, hu, e'⟩ := this.mpr z
      exact e u hu (by simp [e'])
    simp [this]
  | false =>
    have hne : (nextsOf t).filter (fun u => decide (worth u = 0)) ≠ [] := fun z => by rw [z] at e; cases e
    obtain ⟨u, l, eq⟩ := List.exists_cons_of_ne_nil hne
    have hm : u ∈ (nextsOf t).filter (fun u => decide (worth u = 0)) := by rw [eq]; exact List.mem_cons_self
    obtain ⟨h1, h2⟩ := List.mem_filter.mp hm
    have : 0 < worth (crowdOf t) := this.mp ⟨u, h1, of_decide_eq_true h2⟩
    simp [this]
theorem lf_both (h : OkW g t) (h' : OkW g' s) : decide (true ∈ (nextsOf t).map (fun u => decide (worth (crowdOf u) = worth (crowdOf s))) ++ (nextsOf s).map fun u => decide (worth (crowdOf u) = worth (crowdOf t))) = !decide (worth (crowdOf t) = worth (crowdOf s)) := by
  have key := both_iff h.crowd h'.crowd
  rw [nextC g t h, nextC g' s h'] at key
  have e : (true ∈ (nextsOf t).map (fun u => decide (worth (crowdOf u) = worth (crowdOf s))) ++ (nextsOf s).map fun u => decide (worth (crowdOf u) = worth (crowdOf t))) ↔ ((∃ u ∈ nextsOf t, worth u = worth (crowdOf s)) ∨ ∃ u ∈ nextsOf s, worth u = worth (crowdOf t)) := by
    rw [List.mem_append, List.mem_map, List.mem_map]
    refine or_congr (exists_congr fun u => ⟨fun ⟨a, b⟩ => ⟨a, ?_⟩, fun ⟨a, b⟩ => ⟨a, ?_⟩⟩) (exists_congr fun u => ⟨fun ⟨a, b⟩ => ⟨a, ?_⟩, fun ⟨a, b⟩ => ⟨a, ?_⟩⟩)
    · rw [next_crowd a] at b
      exact of_decide_eq_true b
    · rw [next_crowd a]
      exact decide_eq_true b
    · rw [next_crowd a] at b
      exact of_decide_eq_true b
    · rw [next_crowd a]
      exact decide_eq_true b
  rw [← decide_not]
  exact decide_eq_decide.mpr (e.trans key)
theorem lf_map (h : OkW g t) : (nextsOf t).map (fun u => worth (crowdOf u)) = (nextsOf t).map worth := List.map_congr_left fun u hu => by rw [next_crowd hu]
theorem lf_filter (h : OkW g t) : ((nextsOf t).filter fun u => decide (worth (crowdOf u) = 0)).map (fun u => u) = (nextsOf t).filter fun u => decide (worth u = 0) := by
  rw [List.map_id']
  exact List.filter_congr fun u hu => by rw [next_crowd hu]
theorem lf_top (h : OkW g t) : worth (crowdOf (towerOf t)) = 0 := by
  rw [tower_crowd h]
  exact worth_end (tower_ok h) (nexts_nil.mpr (rch_tower h).2)
theorem lf_like (h : OkW g t) : Rch (crowdOf t) (crowdOf (towerOf t)) := by
  rw [tower_crowd h]
  exact (rch_tower h).1
theorem lf_odd (h : OkW g t) : decide (((glen (crowdOf t) : Nat) : Int) - ((glen (crowdOf t) : Nat) : Int) / 2 * 2 = 1) = decide (0 < worth (crowdOf t)) := by
  have := glen_parity _ h.crowd (Nat.le_refl _)
  refine decide_eq_decide.mpr (Iff.trans ?_ this)
  omega
theorem least_uniq {a b : Tbl} {l l' : Nat} (h : (∀ n, Path n a b → l ≤ n) ∧ Path l a b) (h' : (∀ n, Path n a b → l' ≤ n) ∧ Path l' a b) : l = l' := Nat.le_antisymm (h.1 _ h'.2) (h'.1 _ h.2)
/-! the play -/
theorem play_chain {c0 u : Tbl} {xs : List Tbl} (p : PlayTo g c0 xs u) : ∀ q ∈ xs.zip xs.tail, q.2 ∈ nextsOf q.1 := fun q hq => (p.step q hq).1
theorem mem_tail_zip {α : Type} : ∀ {xs : List α} {a x : α}, xs.head? = some a → x ∈ xs → x = a ∨ ∃ y, (y, x) ∈ xs.zip xs.tail
  | [], _, _, h, _ => by simp at h
  | [b], a, x, h, hx => by
    simp at h hx
    exact .inl (hx.trans h)
  | b :: c :: l, a, x, h, hx => by
    simp at h
    subst h
    rcases List.mem_cons.mp hx with e | hx
    · exact .inl e
    · rcases mem_tail_zip (xs := c :: l) (a := c) rfl hx with e | ⟨y, hy⟩
      · exact .inr ⟨b, by rw [e]; simp⟩
      · refine .inr ⟨y, ?_⟩
        show (y, x) ∈ (b :: c :: l).zip (c :: l)
        rw [List.zip_cons_cons]
        exact List.mem_cons_of_mem _ hy
theorem play_crowd {u : Tbl} {xs : List Tbl} (p : PlayTo g (crowdOf t) xs u) : ∀ x ∈ xs, crowdOf x = x := fun x hx => by
  rcases mem_tail_zip p.head hx with e | ⟨y, hy⟩
  · rw [e]
    exact crowd_idem t
  · exact next_crowd (play_chain p _ hy)
theorem play_end (h : OkW g t) {u : Tbl} {xs : List Tbl} {g' : Nat} (p : PlayTo g' (crowdOf t) xs u) (h0 : glen u = 0) : u = towerOf t := by
  have hm : u ∈ xs := List.mem_of_getLast? p.last
  obtain ⟨n, q⟩ := p.mem u hm
  have hu : OkW g u := q.ok h.crowd
  refine end_tower h q (nexts_nil.mp (Classical.byContradiction fun z => ?_))
  have := glen_pos hu z
  omega
theorem play_second {u : Tbl} {xs : List Tbl} (p : PlayTo g (crowdOf t) xs u) (h0 : glen u = 0) (hl : 0 < glen (crowdOf t)) : ∃ y, xs[1]? = some y ∧ crowdOf y = y ∧ OkW g y ∧ glen y + 1 = glen (crowdOf t) := by
  have hlen := p.len
  have h1 : 1 < xs.length := by omega
  have hy : xs[1]? = some xs[1] := List.getElem?_eq_getElem h1
  refine ⟨xs[1], hy, play_crowd p _ (List.getElem_mem h1), ?_, ?_⟩
  · obtain ⟨n, q⟩ := p.mem _ (List.getElem_mem h1)
    exact q.ok p.ok
  · match xs, p, h1 with
    | a :: b :: l, p, _ =>
      have := p.step (a, b) (by simp)
      have e := p.head
      simp at e
      subst e
      exact this.2.1
/-! few -/
def fewL (c : Tbl) : List Bool := (List.range 16).map fun m => fewP m true c
theorem fewL_at {c : Tbl} {m : Nat} (h : m < 16) : (fewL c)[m]? = some (fewP m true c) := by
  unfold fewL
  rw [List.getElem?_map, List.getElem?_range h]
  rfl
theorem lf_mono (c : Tbl) : (((List.range 15).filter fun m => fewP m true c && !fewP (m + 1) true c).map fun m => m).isEmpty = true := by
  rw [List.isEmpty_iff, List.map_eq_nil_iff, List.filter_eq_nil_iff]
  intro m _ z
  rw [Bool.and_eq_true, Bool.not_eq_true'] at z
  rw [few_mono m true z.1] at z
  cases z.2
theorem lf_zero (h : OkW g t) : fewP 0 true (crowdOf t) = (oddsOf t).isEmpty := by
  have e : oddsOf (crowdOf t) = [] ↔ oddsOf t = [] := by rw [← oddsN_zero, oddsN_perm (crowd_perm t), oddsN_zero]
  show (nextsOf (crowdOf t)).isEmpty = _
  cases q : (oddsOf t).isEmpty with
  | true => rw [List.isEmpty_iff, nexts_nil, e, ← List.isEmpty_iff]; exact q
  | false =>
    cases q2 : (nextsOf (crowdOf t)).isEmpty with
    | false => rfl
    | true =>
      rw [List.isEmpty_iff, nexts_nil, e, ← List.isEmpty_iff, q] at q2
      cases q2
theorem lf_glen (h : OkW g t) (hw : 0 < worth (crowdOf t)) : fewP (glen (crowdOf t)) true (crowdOf t) = true := by
  have := few_glen _ h.crowd (Nat.le_refl _)
  rwa [decide_eq_true hw] at this
/-! the chance -/
theorem lf_one (h : OkW g t) (ho : (oddsOf t).length = 1) : lowP (chance (crowdOf t)) = (1, 1) := by
  rw [chance_one h.crowd (by rw [oddsN_perm (crowd_perm t)]; exact ho)]
  decide
theorem lf_none (h : OkW g t) (ho : (oddsOf t).isEmpty = true) : lowP (chance (crowdOf t)) = (0, 1) := by
  rw [chance_none h.crowd (by rw [oddsN_perm (crowd_perm t), oddsN_zero]; exact List.isEmpty_iff.mp ho)]
  decide
theorem lf_chance (h : OkW g t) : 0 ≤ (lowP (chance (crowdOf t))).1 ∧ (lowP (chance (crowdOf t))).1 ≤ (lowP (chance (crowdOf t))).2 := by
  have := chance_ok less h.crowd
  exact low_ok this.n0 this.le
/-! the other way round -/
theorem lf_moved (h : OkW g t) {m : Tbl} (hm : m.Perm (revG t)) : worth (crowdOf m) = worth (crowdOf t) ∧ glen (crowdOf m) = glen (crowdOf t) ∧ chance (crowdOf m) = chance (crowdOf t) := by
  have e : crowdOf m = flip (crowdOf t) := crowd_congr (hm.trans (revG_perm (crowd_perm t)).symm)
  rw [e]
  exact ⟨worth_flip _ h.crowd (Nat.le_refl _), glen_flip _ h.crowd (Nat.le_refl _), chance_flip _ h.crowd (Nat.le_refl _)⟩
theorem rev_goods (h : OkW g t) : (t.map fun r => ((List.range g).reverse).map fun i => r.getD i 0) = revG t := by
  unfold revG
  refine List.map_congr_left fun r hr => ?_
  have hl := h.row_len hr
  rw [List.map_reverse]
  congr 1
  refine List.ext_getElem (by simp [hl]) fun i h1 h2 => ?_
  rw [List.getElem_map, List.getElem_range, List.getD_eq_getElem?_getD, List.getElem?_eq_getElem h2]
  rfl
theorem rev_people (t : Tbl) : (((List.range t.length).reverse).map fun i => t.getD i []) = t.reverse := by
  rw [List.map_reverse]
  congr 1
  refine List.ext_getElem (by simp) fun i h1 h2 => ?_
  rw [List.getElem_map, List.getElem_range, List.getD_eq_getElem?_getD, List.getElem?_eq_getElem h2]
  rfl
theorem lf_perm (h : OkW g t) : ((((List.range (revG t).length).reverse).map fun i => (revG t).getD i [])).Perm (revG t) := by
  rw [rev_people]
  exact List.reverse_perm _
end
end LT
/-! ## LtLaw1 -/
set_option Elab.async false
set_option linter.all false
set_option maxRecDepth 100000
set_option maxHeartbeats 8000000
namespace LT
open PySem PySem.W PySem.Spec PyProof.Rows L2 LamX

theorem Cal.mono {P : Program} {w : World} {K : PySem.W.Frag} {mg : Str → Option Value} {base : Heap} {z : Str} {ps : List Str} {j k : Nat} {sp : Sp} (C : Cal P w K mg base z ps j sp) (h : j ≤ k) : Cal P w K mg base z ps k sp := by
  obtain ⟨f, fd, F, a, b, c⟩ := C
  exact ⟨f, fd, F.mono h, a, b, c⟩
theorem eqv_N (x y : Nat) : PyData.eqv (.int (x : Int)) (.int (y : Int)) = decide (x = y) := by
  rw [eqv_I]
  exact decide_eq_decide.mpr Int.natCast_inj
theorem eqv_B (x y : Bool) : PyData.eqv (.bool x) (.bool y) = decide (x = y) := by
  cases x <;> cases y <;> simp [PyData.eqv, BEq.beq]
theorem dpB {K : PySem.W.Frag} {H : Hp} {v : V} {x : Bool} (e : pB.rel H v x) : Dp K H v (.bool x) := by cases e; exact .bl _
def encII (p : Int × Int) : PyData := .tuple [.int p.1, .int p.2]
theorem dpII {K : PySem.W.Frag} {H : Hp} {v : V} {x : Int × Int} (h : (pPair pI pI).rel H v x) : Dp K H v (encII x) := dp_pair (e1 := PyData.int) (e2 := PyData.int) (fun _ _ h => dpI h) (fun _ _ h => dpI h) h
theorem shp_II (x : Int × Int) : SeqAt.shaped (encII x) = true := by simp [SeqAt.shaped, encII, PyData.canLay0, PyData.canLayAll0, PyData.depth, PyData.depthAll]
theorem eqv_II (x y : Int × Int) : PyData.eqv (encII x) (encII y) = decide (x = y) := by
  obtain ⟨a, b⟩ := x
  obtain ⟨c, d⟩ := y
  simp only [encII, PyData.eqv, PyData.eqvAll, Bool.and_true, BEq.beq]
  by_cases h1 : a = c <;> by_cases h2 : b = d <;> simp [h1, h2]
section
variable {α β γ : Type} {X : Cx} {T : List (Addr × Str)} {M : List Addr} {J : Hp → Prop} {a b c e : Expr} {r : Rp α} {s : Rp β} {q : Rp γ} {σ : L2.St} {H : Hp} {P : α → Prop} {Pb : β → Prop} {Pc : γ → Prop} {pos p : Pos} {D : Ends} {l : Addr} {i j k : Int}
theorem t_leleI (ha : VE X T a pI σ H (is i)) (hb : VE X T b pI σ H (is j)) (hc : VE X T c pI σ H (is k)) (hm : lastMarks [.LtE, .LtE] [b, c] = false := by with_unfolding_all rfl) : VT X T (.Compare a [.LtE, .LtE] [b, c] pos) σ H (decide (i ≤ j) && decide (j ≤ k)) :=
  vt_of (pt_chain op_le op_le pe_o pe_o pe_o hm) (et_test (ev_chain (g := fun i j => decide (i ≤ j)) (g' := fun i j => decide (i ≤ j)) ha hb hc))
theorem c_eqII {x y : Int × Int} (hu : X.A.units + 64 < cLine) (ha : VE X T a (pPair pI pI) σ H (is x)) (hb : VE X T b (pPair pI pI) σ H (is y)) : VC X T .Eq a b σ H (decide (x = y)) := c_eqD encII encII hu ha hb (fun _ _ _ => dpII) (fun _ _ _ => dpII) (shp_II _) (shp_II _) (eqv_II _ _)
theorem c_neII {x y : Int × Int} (hu : X.A.units + 64 < cLine) (ha : VE X T a (pPair pI pI) σ H (is x)) (hb : VE X T b (pPair pI pI) σ H (is y)) : VC X T .NotEq a b σ H (!decide (x = y)) := c_neD encII encII hu ha hb (fun _ _ _ => dpII) (fun _ _ _ => dpII) (shp_II _) (shp_II _) (eqv_II _ _)
theorem c_neLT {x y : List Tbl} (hu : X.A.units + 64 < cLine) (ha : VE X T a (pLst pT) σ H (is x)) (hb : VE X T b (pLst pT) σ H (is y)) : VC X T .NotEq a b σ H (!decide (x = y)) :=
  c_neD (fun xs => .list (xs.map encT)) (fun xs : List Tbl => .list (xs.map encT)) hu ha hb (fun _ _ _ h => dp_lst (fun _ _ => dpT) h) (fun _ _ _ h => dp_lst (fun _ _ => dpT) h) (shp_l 2 (by decide) lay_T depth_T _) (shp_l 2 (by decide) lay_T depth_T _) (by
    simp only [PyData.eqv]
    exact eqv_map eqv_T x y)
theorem c_inLN {n : Nat} {xs : List Nat} (hu : X.A.units + 65 < cLine) (ha : VE X T a pN σ H (is n)) (hb : VE X T b (pLst pN) σ H (is xs)) : VC X T .In a b σ H (decide (n ∈ xs)) := c_inL (n := 0) (fun n : Nat => .int (n : Int)) 0 (by decide) eqv_N hu ha hb (fun _ _ _ => dpN) (fun _ => by simp [PyData.canLay0]) (fun _ => by simp [PyData.depth])
theorem c_notInLN {n : Nat} {xs : List Nat} (hu : X.A.units + 65 < cLine) (ha : VE X T a pN σ H (is n)) (hb : VE X T b (pLst pN) σ H (is xs)) : VC X T .NotIn a b σ H (!decide (n ∈ xs)) := c_notInL (n := 0) (fun n : Nat => .int (n : Int)) 0 (by decide) eqv_N hu ha hb (fun _ _ _ => dpN) (fun _ => by simp [PyData.canLay0]) (fun _ => by simp [PyData.depth])
theorem c_inLB {n : Bool} {xs : List Bool} (hu : X.A.units + 65 < cLine) (ha : VE X T a pB σ H (is n)) (hb : VE X T b (pLst pB) σ H (is xs)) : VC X T .In a b σ H (decide (n ∈ xs)) := c_inL (n := 0) (fun n : Bool => .bool n) 0 (by decide) eqv_B hu ha hb (fun _ _ _ => dpB) (fun _ => by simp [PyData.canLay0]) (fun _ => by simp [PyData.depth])
theorem c_neNilN {xs : List Nat} (hu : X.A.units + 64 < cLine) (ha : VE X T a (pLst pN) σ H (is xs)) : VC X T .NotEq a (.List [] p) σ H (!xs.isEmpty) := c_neNil (n := 0) (fun n : Nat => .int (n : Int)) 0 (by decide) hu ha (fun _ _ _ => dpN) (fun _ => by simp [PyData.canLay0]) (fun _ => by simp [PyData.depth])
theorem c_neNilT {xs : List Tbl} (hu : X.A.units + 64 < cLine) (ha : VE X T a (pLst pT) σ H (is xs)) : VC X T .NotEq a (.List [] p) σ H (!xs.isEmpty) := c_neNil (n := 2) encT 2 (by decide) hu ha (fun _ _ _ => dpT) lay_T depth_T
/-- the row of draws, new -/
def pRow0 (l : Addr) : Rp Unit := ⟨fun H v _ => ∃ a, v = .ref a ∧ H a = some (.lst [.ref l, .int 0, .int 8063, .int 0]), fun e ⟨a, h1, h2⟩ => ⟨a, h1, e _ _ h2 (fun _ z => by cases z)⟩⟩
theorem f_row0 {k1 k2 k3 : Nat} {p1 p2 p3 : Pos} (ha : VE X T e pAd σ H (is l)) (s1 : starEach [e, .Constant (.int 0) k1 p1, .Constant (.int 8063) k2 p2, .Constant (.int 0) k3 p3] X.env = (false, eval e X.env) :: starEach [.Constant (.int 0) k1 p1, .Constant (.int 8063) k2 p2, .Constant (.int 0) k3 p3] X.env := by rfl)
    (s2 : starEach [.Constant (.int 0) k1 p1, .Constant (.int 8063) k2 p2, .Constant (.int 0) k3 p3] X.env = (false, eval (.Constant (.int 0) k1 p1) X.env) :: starEach [.Constant (.int 8063) k2 p2, .Constant (.int 0) k3 p3] X.env := by rfl) (s3 : starEach [.Constant (.int 8063) k2 p2, .Constant (.int 0) k3 p3] X.env = (false, eval (.Constant (.int 8063) k2 p2) X.env) :: starEach [.Constant (.int 0) k3 p3] X.env := by rfl) (s4 : starEach [.Constant (.int 0) k3 p3] X.env = (false, eval (.Constant (.int 0) k3 p3) X.env) :: starEach [] X.env := by rfl) :
    VF X T (.List [e, .Constant (.int 0) k1 p1, .Constant (.int 8063) k2 p2, .Constant (.int 0) k3 p3] pos) (pRow0 l) σ H (fun _ => True) :=
  vf_of (pe_lst pa_o) fun H1 e1 Q q => a_c ha (a_c (v_int (X := X) (i := 0)) (a_2 (v_int (X := X) (i := 8063)) (v_int (X := X) (i := 0)) s3 s4) s2) s1 H1 e1 _ fun vs z H2 e2 rl pz => by
    obtain ⟨v, ws, rfl, h1, v2, ws2, rfl, h2, v3, ws3, rfl, h3, v4, ws4, rfl, h4, h5⟩ := rl
    rw [show z = _ from pz] at h1 h2 h3 h4
    obtain rfl : ws4 = [] := h5
    obtain rfl : v = _ := h1
    obtain rfl : v2 = _ := h2
    obtain rfl : v3 = _ := h3
    obtain rfl : v4 = _ := h4
    exact ⟨by show 4 ≤ sizeLine; decide, fun p hp => q p () _ (e2.trans (Ex.new e2.2 hp)) (e2.fr0 hp) ⟨p, rfl, upd_same⟩ trivial⟩
/-- [e, e'] -/
theorem vm_lst2 {P' : α → Prop} (st : Kp T M J) (im : Imm r) (ha : VM X T M J a r σ H P) (hb : VM X T M J b r σ H P') (s1 : starEach [a, b] X.env = (false, eval a X.env) :: starEach [b] X.env := by rfl) (s2 : starEach [b] X.env = (false, eval b X.env) :: starEach [] X.env := by rfl) :
    VM X T M J (.List [a, b] pos) (pLst r) σ H (fun zs => ∃ x y, zs = [x, y] ∧ P x ∧ P' y) :=
  vm_of (pe_lst (pa_cons pe_o (pa_cons pe_o pa_nil s2) s1)) fun H1 e1 j Q k => ha H1 e1 j _ fun v x H2 e2 j2 rx px => hb H2 (e1.trans e2) j2 _ fun w y H3 e3 j3 ry py =>
    ⟨by show 2 ≤ sizeLine; decide, fun p hp => k _ [x, y] _ ((e2.trans e3).trans (Ex.new e3.tabs hp).toM) (st.ext _ _ j3 (Ex.new e3.tabs hp)) ⟨p, [v, w], rfl, upd_same, .cons (im (TupE.new hp) (im e3.tup rx)) (.cons (im (TupE.new hp) ry) .nil)⟩ ⟨x, y, rfl, px, py⟩⟩
/-- a, b, c = e, e', e'' -/
theorem s_asg3P {z w y : Str} {px py pz pt pt2 : Pos} {kt k2 : Nat} (i j l : Nat) (hT : Tabs T H) (hc : X.calm = true) (hN : X.N.Nodup) (ha : VE X T a r σ H P) (hb : VE X T b s σ H Pb) (hcc : VE X T c q σ H Pc)
    (k : ∀ u v d x y z H1, Ex T H H1 → r.rel H1 u x → s.rel H1 v y → q.rel H1 d z → P x → Pb y → Pc z → D.nx (((σ.set i (some u)).set j (some v)).set l (some d)) H1)
    (hi : X.N[i]? = some z := by rfl) (hj : X.N[j]? = some w := by rfl) (hl : X.N[l]? = some y := by rfl) (hx : Loc X.env.scope z := by first | exact Or.inl rfl | exact Or.inr rfl) (hy : Loc X.env.scope w := by first | exact Or.inl rfl | exact Or.inr rfl) (hz : Loc X.env.scope y := by first | exact Or.inl rfl | exact Or.inr rfl)
    (hf : X.fn z = true ∨ X.env.scope.names.lookup z = some .local := by first | exact .inl rfl | exact .inr rfl) (hf' : X.fn w = true ∨ X.env.scope.names.lookup w = some .local := by first | exact .inl rfl | exact .inr rfl) (hf'' : X.fn y = true ∨ X.env.scope.names.lookup y = some .local := by first | exact .inl rfl | exact .inr rfl)
    (hs : swapsWithSole [.Tuple [.Name z px, .Name w py, .Name y pz] kt pt] (.Tuple [a, b, c] k2 pt2) pos.line X.env = pure false := by rfl) (hw : swappedStores [.Tuple [.Name z px, .Name w py, .Name y pz] kt pt] (.Tuple [a, b, c] k2 pt2) X.env = pure none := by rfl)
    (h1 : (assignEach [.Tuple [.Name z px, .Name w py, .Name y pz] kt pt] X.env).map (·.2) = [assign (.Tuple [.Name z px, .Name w py, .Name y pz] kt pt) X.env] := by rfl)
    (s1 : starEach [a, b, c] X.env = (false, eval a X.env) :: starEach [b, c] X.env := by rfl) (s2 : starEach [b, c] X.env = (false, eval b X.env) :: starEach [c] X.env := by rfl) (s3 : starEach [c] X.env = (false, eval c X.env) :: starEach [] X.env := by rfl)
    (t1 : (assignEach [.Name z px, .Name w py, .Name y pz] X.env).map (·.2) = assign (.Name z px) X.env :: (assignEach [.Name w py, .Name y pz] X.env).map (·.2) := by rfl) (t2 : (assignEach [.Name w py, .Name y pz] X.env).map (·.2) = assign (.Name w py) X.env :: (assignEach [.Name y pz] X.env).map (·.2) := by rfl)
    (t2' : (assignEach [.Name y pz] X.env).map (·.2) = assign (.Name y pz) X.env :: (assignEach [] X.env).map (·.2) := by rfl)
    (t3 : (assignEach [.Name z px, .Name w py, .Name y pz] X.env).length = 3 := by rfl) (t4 : (assignEach [.Name z px, .Name w py, .Name y pz] X.env).findIdx? (·.1) = none := by rfl) :
    oS X (.Assign [.Tuple [.Name z px, .Name w py, .Name y pz] kt pt] (.Tuple [a, b, c] k2 pt2) pos) D σ H :=
  oS_of (ps_asg (pe_tup (pa_cons pe_o (pa_cons pe_o (pa_cons pe_o pa_nil s3) s2) s1)) (pg_tup hc (pgs_cons (pg_name (i := i) hN hi hx hf) (pgs_cons (pg_name (i := j) hN hj hy hf') (pgs_cons (pg_name (i := l) hN hl hz hf'') pgs_nil t2') t2) t1) t3 t4) hs hw h1)
    (ha H (Ex.refl hT) _ fun u x H1 e1 ru px => hb H1 e1 _ fun v y H2 e2 rv py => hcc H2 (e1.trans e2) _ fun d z H3 e3 rd pz => ⟨by show 3 ≤ sizeLine; decide, fun p hp => ⟨p, [u, v, d], rfl, sq_t upd_same, rfl, u, [v, d], rfl, v, [d], rfl, d, [], rfl, rfl,
      k u v d x y z _ (((e1.trans e2).trans e3).trans (Ex.new e3.2 hp)) (r.mono (extn_new hp) (r.mono (e2.trans e3).1 ru)) (s.mono (extn_new hp) (s.mono e3.1 rv)) (q.mono (extn_new hp) rd) px py pz⟩⟩)
/-- a <= b <= c, c told by a bound -/
theorem t_leleP {Pk : Nat → Prop} {m n : Nat} (ha : VE X T a pN σ H (is m)) (hb : VE X T b pN σ H (is n)) (hc : VE X T c pN σ H Pk) (h1 : m ≤ n) (h2 : ∀ k, Pk k → n ≤ k) (hm : lastMarks [.LtE, .LtE] [b, c] = false := by with_unfolding_all rfl) : VT X T (.Compare a [.LtE, .LtE] [b, c] pos) σ H true :=
  vt_of (pt_chain op_le op_le pe_o pe_o pe_o hm) (et_test fun H1 e Q kk => ha H1 e _ fun v x H2 e2 rx px => hb H2 (e.trans e2) _ fun w y H3 e3 ry py => by
    refine ⟨(m : Int), (n : Int), by rw [show v = _ from rx, show x = m from px], by rw [show w = _ from ry, show y = n from py], true, ?_, ?_⟩
    · show V.bl (decide ((m : Int) ≤ (n : Int))) = V.bl true
      rw [decide_eq_true (by omega)]
    rw [if_pos rfl]
    refine hc H3 ((e.trans e2).trans e3) _ fun u z H4 e4 rz pz => ⟨(n : Int), (z : Int), by rw [show w = _ from ry, show y = n from py], show u = _ from rz, ?_⟩
    have := h2 z pz
    show Q (.bl (decide ((n : Int) ≤ (z : Int)))) H4
    rw [decide_eq_true (by omega)]
    exact kk _ true H4 ((e2.trans e3).trans e4) rfl rfl)
/-- xs[n], n told by a promise -/
theorem v_ixLP {xs : List α} {x : α} {Pn : Nat → Prop} (ha : VE X T a (pLst r) σ H (is xs)) (hb : VE X T b pN σ H Pn) (hx : ∀ n, Pn n → xs[n]? = some x) (hs : PlainIx b := by intro _ _; rfl) : VE X T (.Subscript a b pos) r σ H (is x) :=
  ve_of (pe_ix ix_list pe_o pe_o hs) (ev_op ha hb fun v w ys m H1 e rx ry px py Q k => by
    obtain ⟨p, vs, rfl, h1, h2⟩ := rx
    rw [show ys = xs from px] at h2
    obtain ⟨u, hu, ru⟩ := Paired.at1 h2 (hx m py)
    exact ⟨p, vs, (m : Int), u, rfl, show w = _ from ry, sq_l h1, atI_nat hu, k _ _ H1 e.here ru rfl⟩)
end
theorem has_least {a b : Tbl} (h : Rch a b) : ∃ l, (∀ n, Path n a b → l ≤ n) ∧ Path l a b := by
  obtain ⟨n, p⟩ := h
  induction n using Nat.strongRecOn with
  | ind n ih =>
    by_cases q : ∃ m, m < n ∧ Path m a b
    · obtain ⟨m, hm, pm⟩ := q
      exact ih m hm pm
    · exact ⟨n, fun m pm => Nat.le_of_not_lt fun z => q ⟨m, z, pm⟩, p⟩
end LT
/-! ## LtLaw2 -/
set_option Elab.async false
set_option linter.all false
set_option maxRecDepth 100000
set_option maxHeartbeats 8000000
namespace LT
open PySem PySem.W PySem.Spec PyProof.Rows L2 LamX

/-- all that the law calls -/
structure LawC (P : Program) (w : World) (K : PySem.W.Frag) (mg : Str → Option Value) (base : Heap) (T : List (Addr × Str)) (k : Nat) : Prop where
  B : Blt mg
  pick : ∀ ns l, Cal P w K mg base "_law_pick" ["_law_row", "_law_things"] k (pPick K ns l T)
  table : ∀ ns l, Cal P w K mg base "_law_table" ["_law_row", "_law_crowded", "_law_sorts", "_law_top"] k (pTable K ns l T)
  unlike : ∀ ns l, Cal P w K mg base "_law_unlike" ["_law_row", "_law_crowded", "_law_sorts"] k (pUnlike K ns l T)
  tower : Cal P w K mg base "tower" ["table"] k (pTower T)
  nexts : Cal P w K mg base "next_crowds" ["table"] k (pNexts T)
  worth : Cal P w K mg base "worth" ["table"] k (pWorth T)
  first : Cal P w K mg base "first_wins" ["table"] k (pFirst T)
  winning : Cal P w K mg base "winning_next" ["table"] k (pWinning T)
  both : Cal P w K mg base "both_games" ["one", "other"] k (pBoth T)
  game : Cal P w K mg base "game_length" ["table"] k (pGame T)
  least : Cal P w K mg base "least_deeds" ["one", "other"] k (pLeast T)
  most : Cal P w K mg base "most_deeds" ["one", "other"] k (pMost T)
  play : Cal P w K mg base "best_play" ["table"] k (pPlay T)
  shows : Cal P w K mg base "shows_play" ["table", "value"] k (pShowsPlay T)
  showsT : Cal P w K mg base "shows_to_tower" ["table", "value"] k (pShowsTower T)
  left : Cal P w K mg base "deeds_left" ["table", "most"] k (pDeedsLeft T)
  isTower : Cal P w K mg base "is_tower" ["table"] k (pIsTower T)
  chance : Cal P w K mg base "first_chance" ["table"] k (pChance T)
  count : Cal P w K mg base "count_at_odds" ["table"] k (pCount T)
  goodsIn : Cal P w K mg base "goods_in_order" ["table", "order"] k (pGoodsIn T)
  peopleIn : Cal P w K mg base "people_in_order" ["table", "order"] k (pPeopleIn T)
  crowd : Cal P w K mg base "crowd" ["table"] k (pCrowd T)
abbrev lawNs : List Str := ["_law_script", "_law_row", "_law_table_here", "_law_top", "_law_nexts", "_law_value", "_law_some", "_law_other", "_law_moves", "_law_length", "_law_play", "_law_few", "_law_chance", "_law_moved", "_law_told", "_law_number", "_law_most", "_law_at"]
theorem scLaw : FnScope lawNs ["_law_script"] (defScope s_law) := ⟨rfl, rfl, rfl, by decide +kernel, rfl, by decide +kernel, by decide +kernel⟩
abbrev SpLaw (K : PySem.W.Frag) (T : List (Addr × Str)) : Sp := fun vs H Q _ => ∃ (l : Addr) (ns : List Int), vs = [V.ref l] ∧ SqL K H l (ns.map V.int) ∧ Tabs T H ∧ ∀ H2, Q (.bl true) H2
section
variable {P : Program} {w : World} {K : PySem.W.Frag} {mg : Str → Option Value} {base : Heap} {T : List (Addr × Str)} {f : Addr} {fd : FuncData} {k : Nat}
set_option maxHeartbeats 32000000 in
theorem f_law (C : LawC P w K mg base T k) (F : FnP K "law" s_law f fd) : FnOk P w K mg base CX0 (k + 1) f fd ["_law_script"] (SpLaw K T) := by
  have B := C.B
  refine FunD.ok F scLaw (fun vs H Q E ⟨l, ns, e, _⟩ => by rw [e]; rfl) fun cdv A outer s H vs Q E hr ⟨l, ns, ev, hS, hT, hQ⟩ => ⟨_, pss_o.nox, ?_⟩
  subst ev
  have hr : Room k _ := hr
  refine s_cons (s_setF 1 hT (f_row0 (l := l) (v_v 0 rfl)) scLaw.nd fun a _ H1 e1 fa ra _ => ?_)
  obtain ⟨_, e, hH1⟩ := ra
  cases e
  have j1 : RowAt K ns l a H1 := ⟨⟨0, 8063, 0, hH1, by omega, by omega, by omega⟩, sql_ext hS e1.1⟩
  refine s_cons (s_setM (M := [a]) (J := RowAt K ns l a) (r := pT) (P := Ok) 2 e1.2 j1 (vm_call (Pb := fun y : Addr × List Tbl × Unit => y.1 = a ∧ y.2.1.length = 2 ∧ ∀ t ∈ y.2.1, Ok t) (C.pick ns l) hr (am_imp (am_c (P := is a) imAd (EvM.of row_kp fun _ _ _ => v_v 1 rfl) (am_1 (r := pLst pT) (vm_lst2 (P := Ok) (P' := Ok) row_kp imT
      (vm_call (Pb := fun y : Addr × Nat × Nat × Nat × Unit => y.1 = a ∧ y.2.1 = 4 ∧ y.2.2.1 = 3 ∧ y.2.2.2.1 = 4) (C.table ns l) hr (am_imp (am_c (P := is a) imAd (EvM.of row_kp fun _ _ _ => v_v 1 rfl) (am_c imN (EvM.of row_kp fun _ _ _ => v_nat (n := 4)) (am_c imN (EvM.of row_kp fun _ _ _ => v_nat (n := 3)) (am_1 (EvM.of row_kp fun _ _ _ => v_nat (n := 4)))))) ?_) ?_)
      (vm_call (Pb := fun y : Addr × Nat × Nat × Unit => y.1 = a ∧ y.2.1 = 4 ∧ y.2.2.1 = 3) (C.unlike ns l) hr (am_imp (am_c (P := is a) imAd (EvM.of row_kp fun _ _ _ => v_v 1 rfl) (am_c imN (EvM.of row_kp fun _ _ _ => v_nat (n := 4)) (am_1 (EvM.of row_kp fun _ _ _ => v_nat (n := 3))))) ?_) ?_)))) ?_) ?_) scLaw.nd fun vt t H2 e2 j2 rt ⟨g, ok⟩ => ?_)
  · rintro ⟨y1, y2, y3, y4, _⟩ ⟨p1, p2, p3, p4⟩
    exact ⟨p1, p2, p3, p4⟩
  · rintro ⟨y1, y2, y3, y4, _⟩ ⟨rfl, rfl, rfl, rfl⟩
    exact ⟨⟨(by decide : 1 ≤ 4 ∧ 4 ≤ 4), (by decide : 1 ≤ 3 ∧ 3 ≤ 5), (by decide : 4 ≤ 99)⟩, rfl, rfl, fun u h => h⟩
  · rintro ⟨y1, y2, y3, _⟩ ⟨p1, p2, p3⟩
    exact ⟨p1, p2, p3⟩
  · rintro ⟨y1, y2, y3, _⟩ ⟨rfl, rfl, rfl⟩
    exact ⟨⟨(by decide : 1 ≤ 4 ∧ 4 ≤ 4), (by decide : 1 ≤ 3 ∧ 3 ≤ 5)⟩, rfl, rfl, fun u h => h⟩
  · rintro ⟨y1, y2, _⟩ ⟨p1, x, y, e, p2, p3⟩
    refine ⟨p1, by rw [show y2 = _ from e]; rfl, fun t ht => ?_⟩
    rw [show y2 = [x, y] from e] at ht
    rcases List.mem_cons.mp ht with rfl | ht
    · exact p2
    · rw [List.mem_singleton.mp ht]
      exact p3
  · rintro ⟨y1, y2, _⟩ ⟨rfl, p2, p3⟩
    exact ⟨⟨by show 0 < y2.length; rw [show y2.length = 2 from p2]; decide, by show y2.length ≤ 1000; rw [show y2.length = 2 from p2]; decide⟩, rfl, rfl, fun u h => p3 u h⟩
  have okT : Ok t := ⟨g, ok⟩
  have hnl : (nextsOf t).length ≤ 6 := Nat.le_trans (nexts_len t) (odds_six ok)
  show oSs _ _ _ [some (V.ref l), some (V.ref a), some vt, none, none, none, none, none, none, none, none, none, none, none, none, none, none, none] _
  refine s_cons (s_asg3P (r := pT) (s := pLst pT) (q := pN) (P := is (towerOf t)) (Pb := is (nextsOf t)) (Pc := is (worth (crowdOf t))) 3 4 5 e2.tabs rfl scLaw.nd (v_cl C.tower hr (a_1 (v_v 2 rt)) okT fun _ h => h) (v_cl C.nexts hr (a_1 (v_v 2 rt)) okT fun _ h => h) (v_cl C.worth hr (a_1 (v_v 2 rt)) okT fun _ h => h) fun vtop vnx vval top nx val H3 e3 rtop rnx rval p1 p2 p3 => ?_)
  obtain rfl : top = _ := p1
  obtain rfl : nx = _ := p2
  obtain rfl : val = _ := p3
  obtain rfl : vval = V.int ((worth (crowdOf t) : Nat) : Int) := rval
  have xt : ∀ {H'}, Ex T H3 H' → pT.rel H' vt t := fun e => pT.mono (e3.trans e).1 rt
  have xtop : ∀ {H'}, Ex T H3 H' → pT.rel H' vtop (towerOf t) := fun e => pT.mono e.1 rtop
  have xnx : ∀ {H'}, Ex T H3 H' → (pLst pT).rel H' vnx (nextsOf t) := fun e => (pLst pT).mono e.1 rnx
  have j3 : RowAt K ns l a H3 := row_ex j2 e3
  have okTop : OkW g (towerOf t) := tower_ok ok
  show oSs _ _ _ [some (V.ref l), some (V.ref a), some vt, some vtop, some vnx, some (V.int ((worth (crowdOf t) : Nat) : Int)), none, none, none, none, none, none, none, none, none, none, none, none] _
  -- the worths of what comes next
  refine s_cons (s_set 6 e3.2 (r := pLst pN) (P := is ((nextsOf t).map fun u => worth (crowdOf u))) (v_lc (lc_n (f := fun u : Tbl => worth (crowdOf u)) [("_law_told", 14)] 14 imN scLaw.nd (blkOk_by (N := lawNs) (sc := defScope s_law) (by decide +kernel)) (tg_name scLaw.nd) (i_lst (v_v 4 rnx)) (Nat.le_of_lt (small1000 (by omega))) (fun _ => rfl) ?_) rfl scLaw.nd) scLaw.nd fun vsome z H4 e4 rsome pz => ?_)
  · rintro y hy H' u e' ru _ ⟨s', H0, C', cl, fp, rfl⟩
    exact v_cl C.worth hr (a_1 (v_v 14 ru)) ⟨g, next_ok ok hy⟩ fun _ h => h
  obtain rfl : z = _ := pz
  rw [lf_map ok] at rsome
  show oSs _ _ _ [some (V.ref l), some (V.ref a), some vt, some vtop, some vnx, some (V.int ((worth (crowdOf t) : Nat) : Int)), some vsome, none, none, none, none, none, none, none, none, none, none, none] _
  refine s_cons (s_if e4.2 (bx := false) (t_w (w_or (bx := false) (bz := false) (t_c (c_is (c_inLN (n := worth (crowdOf t)) (un hr 65) (v_v 5 rfl) (v_v 6 rsome)) (lf_in ok))) fun _ => w_or1 (t_c (c_is (c_neNilN (un hr 64) (v_lc (lc_nif (r := pN) (f := fun n : Nat => n) (t := fun n => !decide (n ∈ (nextsOf t).map worth)) [("_law_number", 15)] 15 imN scLaw.nd (blkOk_by (N := lawNs) (sc := defScope s_law) (by decide +kernel)) (tg_name scLaw.nd) (i_rng1 B (v_v 5 rfl) ?_) ?_ (fun _ => rfl) ?_) rfl scLaw.nd)) (by rw [lf_less ok]; rfl))))) (fun h => by cases h) fun _ H5 e5 => s_nil ?_)
  · have := worth_le ok.crowd
    rw [nextC g t ok] at this
    omega
  · have := worth_le ok.crowd
    rw [nextC g t ok] at this
    rw [List.length_range]
    exact Nat.le_of_lt (small1000 (by omega))
  · rintro y hy H' u e' ru _ ⟨s', H0, C', cl, fp, rfl⟩
    exact ⟨t_c (c_notInLN (un hr 65) (v_v 15 ru) (v_v 6 ((pLst pN).mono e'.1 rsome))), fun _ => v_v 15 ru⟩
  refine s_cons (s_if e5.2 (bx := false) (t_c (c_is (c_gtN (m := worth (crowdOf t)) (v_v 5 rfl) (v_lenL B (v_v 4 (xnx (e4.trans e5))))) (lf_le ok))) (fun h => by cases h) fun _ H6 e6 => s_nil ?_)
  have E6 : Ex T H3 H6 := (e4.trans e5).trans e6
  -- who wins
  refine s_cons (s_if e6.2 (bx := false) (t_w (w_or (bx := false) (bz := false) (t_c (c_is (c_neB (v_cl C.first hr (a_1 (v_v 2 (xt E6))) okT fun _ h => h) (v_c (c_gtN (m := worth (crowdOf t)) (n := 0) (v_v 5 rfl) (v_nat (n := 0))))) (bne_self_eq_false _))) fun _ => w_or1 (t_c (c_is (c_neB (v_c (c_neNilT (un hr 64) (v_cl C.winning hr (a_1 (v_v 2 (xt E6))) okT fun _ h => h))) (v_cl C.first hr (a_1 (v_v 2 (xt E6))) okT fun _ h => h)) (by rw [lf_win ok]; exact bne_self_eq_false _))))) (fun h => by cases h) fun _ H7 e7 => s_nil ?_)
  have E7 : Ex T H3 H7 := E6.trans e7
  refine s_cons (s_if e7.2 (bx := false) (t_c (c_is (c_neLT (un hr 64) (v_cl C.winning hr (a_1 (v_v 2 (xt E7))) okT fun _ h => h) (v_lc (lc_nif (r := pT) (f := fun u : Tbl => u) (t := fun u => decide (worth (crowdOf u) = 0)) [("_law_told", 14)] 14 imT scLaw.nd (blkOk_by (N := lawNs) (sc := defScope s_law) (by decide +kernel)) (tg_name scLaw.nd) (i_lst (v_v 4 (xnx E7))) (Nat.le_of_lt (small1000 (by omega))) (fun _ => rfl) ?_) rfl scLaw.nd)) ?_)) (fun h => by cases h) fun _ H8 e8 => s_nil ?_)
  · rintro y hy H' u e' ru _ ⟨s', H0, C', cl, fp, rfl⟩
    exact ⟨t_c (c_eqN (n := 0) (v_cl C.worth hr (a_1 (v_v 14 ru)) ⟨g, next_ok ok hy⟩ fun _ h => h) (v_nat (n := 0))), fun _ => v_v 14 ru⟩
  · rw [lf_filter ok]
    simp
  -- another table
  have E8 : Ex T H3 H8 := E7.trans e8
  have j8 : RowAt K ns l a H8 := row_ex j3 E8
  refine s_cons (s_setM (M := [a]) (J := RowAt K ns l a) (r := pT) (P := Ok) 7 e8.2 j8 (vm_call (Pb := fun y : Addr × Nat × Nat × Nat × Unit => y.1 = a ∧ y.2.1 = 3 ∧ y.2.2.1 = 3 ∧ y.2.2.2.1 = 4) (C.table ns l) hr (am_imp (am_c (P := is a) imAd (EvM.of row_kp fun _ _ _ => v_v 1 rfl) (am_c imN (EvM.of row_kp fun _ _ _ => v_nat (n := 3)) (am_c imN (EvM.of row_kp fun _ _ _ => v_nat (n := 3)) (am_1 (EvM.of row_kp fun _ _ _ => v_nat (n := 4)))))) ?_) ?_) scLaw.nd fun vs s H9 e9 j9 rs ⟨g', oks⟩ => ?_)
  · rintro ⟨y1, y2, y3, y4, _⟩ ⟨p1, p2, p3, p4⟩
    exact ⟨p1, p2, p3, p4⟩
  · rintro ⟨y1, y2, y3, y4, _⟩ ⟨rfl, rfl, rfl, rfl⟩
    exact ⟨⟨(by decide : 1 ≤ 3 ∧ 3 ≤ 4), (by decide : 1 ≤ 3 ∧ 3 ≤ 5), (by decide : 4 ≤ 99)⟩, rfl, rfl, fun u h => h⟩
  have okS : Ok s := ⟨g', oks⟩
  have hsl : (nextsOf s).length ≤ 6 := Nat.le_trans (nexts_len s) (odds_six oks)
  have rt9 : pT.rel H9 vt t := imT e9.tup (xt E8)
  have rtop9 : pT.rel H9 vtop (towerOf t) := imT e9.tup (xtop E8)
  have rnx9 : (pLst pT).rel H9 vnx (nextsOf t) := by
    obtain ⟨b, us, rfl, hb, hp⟩ := xnx E8
    exact ⟨b, us, rfl, e9.get hb (.lst _) (row_ne j8 hb hp), paired_imp (fun _ _ => imT e9.tup) hp⟩
  clear xt xtop xnx rt rtop rnx
  have xt : ∀ {H'}, Ex T H9 H' → pT.rel H' vt t := fun e => pT.mono e.1 rt9
  have xtop : ∀ {H'}, Ex T H9 H' → pT.rel H' vtop (towerOf t) := fun e => pT.mono e.1 rtop9
  have xnx : ∀ {H'}, Ex T H9 H' → (pLst pT).rel H' vnx (nextsOf t) := fun e => (pLst pT).mono e.1 rnx9
  have xs : ∀ {H'}, Ex T H9 H' → pT.rel H' vs s := fun e => pT.mono e.1 rs
  have E9 : Ex T H9 H9 := Ex.refl e9.tabs
  show oSs _ _ _ [some (V.ref l), some (V.ref a), some vt, some vtop, some vnx, some (V.int ((worth (crowdOf t) : Nat) : Int)), some vsome, some vs, none, none, none, none, none, none, none, none, none, none] _
  refine s_cons (s_set 8 e9.tabs (r := pLst pB) (P := is ((nextsOf t).map (fun u => decide (worth (crowdOf u) = worth (crowdOf s))) ++ (nextsOf s).map fun u => decide (worth (crowdOf u) = worth (crowdOf t)))) (v_cat (v_lc (lc_n (r := pT) (f := fun u : Tbl => decide (worth (crowdOf u) = worth (crowdOf s))) [("_law_told", 14)] 14 imB scLaw.nd (blkOk_by (N := lawNs) (sc := defScope s_law) (by decide +kernel)) (tg_name scLaw.nd) (i_lst (v_v 4 rnx9)) (Nat.le_of_lt (small1000 (by omega))) (fun _ => rfl) ?_) rfl scLaw.nd) (v_lc (lc_n (r := pT) (f := fun u : Tbl => decide (worth (crowdOf u) = worth (crowdOf t))) [("_law_told", 14)] 14 imB scLaw.nd (blkOk_by (N := lawNs) (sc := defScope s_law) (by decide +kernel)) (tg_name scLaw.nd) (i_lst (v_cl C.nexts hr (a_1 (v_v 7 rs)) okS fun _ h => h)) (Nat.le_of_lt (small1000 (by omega))) (fun _ => rfl) ?_) rfl scLaw.nd) ?_) scLaw.nd fun vmv z H10 e10 rmv pz => ?_)
  · rintro y hy H' u e' ru _ ⟨s', H0, C', cl, fp, rfl⟩
    exact v_c (c_eqN (v_cl C.worth hr (a_1 (v_v 14 ru)) ⟨g, next_ok ok hy⟩ fun _ h => h) (v_cl C.worth hr (a_1 (v_v 7 (xs e'))) okS fun _ h => h))
  · rintro y hy H' u e' ru _ ⟨s', H0, C', cl, fp, rfl⟩
    exact v_c (c_eqN (v_cl C.worth hr (a_1 (v_v 14 ru)) ⟨g', next_ok oks hy⟩ fun _ h => h) (v_v 5 rfl))
  · rw [List.length_map, List.length_map]
    exact Nat.le_of_lt (small1000 (by omega))
  obtain rfl : z = _ := pz
  show oSs _ _ _ [some (V.ref l), some (V.ref a), some vt, some vtop, some vnx, some (V.int ((worth (crowdOf t) : Nat) : Int)), some vsome, some vs, some vmv, none, none, none, none, none, none, none, none, none] _
  refine s_cons (s_if e10.2 (bx := false) (t_w (w_or (bx := false) (bz := false) (t_c (c_is (c_neB (v_cl C.both hr (a_2 (v_v 2 (xt e10)) (v_v 7 (xs e10))) ⟨okT, okS⟩ fun _ h => h) (v_c (c_inLB (un hr 65) (v_bl (bx := true)) (v_v 8 rmv)))) (by rw [lf_both ok oks]; exact bne_self_eq_false _))) fun _ => w_or1 (t_v (ev_is (v_cl C.both hr (a_2 (v_v 2 (xt e10)) (v_v 2 (xt e10))) ⟨okT, okT⟩ fun _ h => h) (by simp))))) (fun h => by cases h) fun _ H11 e11 => s_nil ?_)
  have E11 : Ex T H9 H11 := e10.trans e11
  refine s_cons (s_if e11.2 (bx := false) (t_w (w_or (bx := false) (bz := false) (t_c (c_is (c_neB (v_cl C.both hr (a_2 (v_v 2 (xt E11)) (v_v 3 (xtop E11))) ⟨okT, ⟨g, okTop⟩⟩ fun _ h => h) (v_cl C.first hr (a_1 (v_v 2 (xt E11))) okT fun _ h => h)) ?_)) fun _ => w_or1 (t_c (c_is (c_neB (v_cl C.both hr (a_2 (v_v 7 (xs E11)) (v_v 2 (xt E11))) ⟨okS, okT⟩ fun _ h => h) (v_cl C.both hr (a_2 (v_v 2 (xt E11)) (v_v 7 (xs E11))) ⟨okT, okS⟩ fun _ h => h)) ?_)))) (fun h => by cases h) fun _ H12 e12 => s_nil ?_)
  · show ((!decide (worth (crowdOf t) = worth (crowdOf (towerOf t)))) != decide (0 < worth (crowdOf t))) = false
    rw [lf_top ok]
    rcases Nat.eq_zero_or_pos (worth (crowdOf t)) with z | z
    · simp [z]
    · have : ¬ worth (crowdOf t) = 0 := by omega
      simp [this, z]
  · show ((!decide (worth (crowdOf s) = worth (crowdOf t))) != (!decide (worth (crowdOf t) = worth (crowdOf s)))) = false
    by_cases z : worth (crowdOf s) = worth (crowdOf t)
    · simp [z]
    · have z' : ¬ worth (crowdOf t) = worth (crowdOf s) := fun e => z e.symm
      simp [z, z']
  have E12 : Ex T H9 H12 := E11.trans e12
  -- lengths
  refine s_cons (s_set 9 e12.2 (r := pN) (P := is (glen (crowdOf t))) (v_cl C.game hr (a_1 (v_v 2 (xt E12))) okT fun _ h => h) scLaw.nd fun vlen z H13 e13 rlen pz => ?_)
  obtain rfl : z = _ := pz
  obtain rfl : vlen = V.int ((glen (crowdOf t) : Nat) : Int) := rlen
  have E13 : Ex T H9 H13 := E12.trans e13
  have hlike : Like t (towerOf t) := ⟨⟨g, ok, okTop⟩, (tower_len ok).symm⟩
  have hrch := lf_like ok
  have hgt := glen_tower ok
  have hg6 : glen (crowdOf t) ≤ 6 := glen_le less ok.crowd
  obtain ⟨lst, hlst⟩ := has_least hrch
  have hlg : lst ≤ glen (crowdOf t) := hlst.1 _ hgt
  have pl : ∀ l, (l + oddsN (crowdOf (towerOf t)) ≤ oddsN (crowdOf t) ∧ (∀ n, Path n (crowdOf t) (crowdOf (towerOf t)) → l ≤ n) ∧ Path l (crowdOf t) (crowdOf (towerOf t))) → l = lst := fun l h => least_uniq h.2 hlst
  have pm : ∀ y, (y + oddsN (crowdOf (towerOf t)) ≤ oddsN (crowdOf t) ∧ ∀ n, Path n (crowdOf t) (crowdOf (towerOf t)) → n ≤ y) → glen (crowdOf t) ≤ y ∧ y < 16 ∧ fewP y true (crowdOf t) = true := fun y h => ⟨h.2 _ hgt, by have := odds_six ok.crowd; omega, most_few ok h.2⟩
  show oSs _ _ _ [some (V.ref l), some (V.ref a), some vt, some vtop, some vnx, some (V.int ((worth (crowdOf t) : Nat) : Int)), some vsome, some vs, some vmv, some (V.int ((glen (crowdOf t) : Nat) : Int)), none, none, none, none, none, none, none, none] _
  refine s_cons (s_if e13.2 (bx := false) (t_not (bx := true) (t_leleP (m := lst) (n := glen (crowdOf t)) (Pk := fun y => glen (crowdOf t) ≤ y ∧ y < 16 ∧ fewP y true (crowdOf t) = true) (v_cl C.least hr (a_2 (v_v 2 (xt E13)) (v_v 3 (xtop E13))) ⟨hlike, hrch⟩ pl) (v_v 9 rfl) (v_cl C.most hr (a_2 (v_v 2 (xt E13)) (v_v 3 (xtop E13))) ⟨hlike, hrch⟩ pm) hlg fun y h => h.1)) (fun h => by cases h) fun _ H14 e14 => s_nil ?_)
  have E14 : Ex T H9 H14 := E13.trans e14
  have smg : Sm ((glen (crowdOf t) : Nat) : Int) := sm_nat (by omega)
  refine s_cons (s_if e14.2 (bx := false) (t_c (c_is (c_neB (v_c (c_eqI (v_sub (ev_i (n := glen (crowdOf t)) (v_v 9 rfl)) (v_mul (i := ((glen (crowdOf t) : Nat) : Int) / 2) (j := 2) ?_ (v_fdiv (j := 2) ?_ (ev_i (n := glen (crowdOf t)) (v_v 9 rfl)) v_int) v_int)) (v_int (i := 1)))) (v_cl C.first hr (a_1 (v_v 2 (xt E14))) okT fun _ h => h)) ?_)) (fun h => by cases h) fun _ H15 e15 => s_nil ?_)
  · rw [show ((glen (crowdOf t) : Nat) : Int) / 2 = ((glen (crowdOf t) / 2 : Nat) : Int) by omega]
    exact Sm.mul (sm_nat (by omega)) (sm_nat (n := 2) (by decide))
  · exact Sm.div (by decide) (sm_nat (n := 2) (by decide))
  · show (decide (((glen (crowdOf t) : Nat) : Int) - ((glen (crowdOf t) : Nat) : Int) / 2 * 2 = 1) != decide (0 < worth (crowdOf t))) = false
    rw [lf_odd ok]
    exact bne_self_eq_false _
  have E15 : Ex T H9 H15 := E14.trans e15
  -- a play
  refine s_cons (s_set 10 e15.2 (r := pTup pT) (P := fun z => ∃ g u, PlayTo g (crowdOf t) z u ∧ glen u = 0) (v_cl C.play hr (a_1 (v_v 2 (xt E15))) okT fun _ h => h) scLaw.nd fun vplay play H16 e16 rplay ⟨gp, up, hplay, hup⟩ => ?_)
  have E16 : Ex T H9 H16 := E15.trans e16
  have xplay : ∀ {H'}, Ex T H16 H' → (pTup pT).rel H' vplay play := fun e => (pTup pT).mono e.1 rplay
  have hcr := play_crowd hplay
  have hdd := hplay.deeds less hcr
  have hend := play_end ok hplay hup
  show oSs _ _ _ [some (V.ref l), some (V.ref a), some vt, some vtop, some vnx, some (V.int ((worth (crowdOf t) : Nat) : Int)), some vsome, some vs, some vmv, some (V.int ((glen (crowdOf t) : Nat) : Int)), some vplay, none, none, none, none, none, none, none] _
  refine s_cons (s_if e16.2 (bx := false) (t_w (w_or (bx := false) (bz := false) (t_not (bx := true) (t_v (ev_is (v_cl (P' := is true) C.shows hr (a_2 (v_v 2 (xt E16)) (v_v 10 rplay)) ⟨okT, ⟨gp, up, hplay, hup⟩, hcr⟩ fun _ h => h) rfl))) fun _ => w_or (bx := false) (bz := false) (t_not (bx := true) (t_v (v_cl (P' := is true) C.showsT hr (a_2 (v_v 2 (xt E16)) (v_v 10 rplay)) ⟨okT, hdd.1, hdd.2.1, hdd.2.2.1, hdd.2.2.2⟩ ?_))) fun _ => w_or1 (t_c (c_is (c_neN (v_lenT B (v_v 10 rplay)) (v_addN (m := glen (crowdOf t)) (v_v 9 rfl) (v_nat (n := 1)))) ?_)))) (fun h => by cases h) fun _ H17 e17 => s_nil ?_)
  · rintro b ⟨t0, t1, h0, h1, rfl⟩
    rw [hplay.head] at h0
    rw [hplay.last] at h1
    cases h0
    cases h1
    show (decide (crowdOf t = crowdOf t) && decide (up = towerOf t)) = true
    simp [hend]
  · have := hplay.len
    rw [decide_eq_true (show play.length = glen (crowdOf t) + 1 by omega)]
    rfl
  have E17 : Ex T H9 H17 := E16.trans e17
  refine s_cons (s_if e17.2 (bx := false) (t_w (et_is (w_and (bx := decide (0 < glen (crowdOf t))) (bz := false) (t_c (c_gtN (m := glen (crowdOf t)) (n := 0) (v_v 9 rfl) (v_nat (n := 0)))) fun hl => ?_) (Bool.and_false _))) (fun h => by cases h) fun _ H18 e18 => s_nil ?_)
  · obtain ⟨y, hy1, hy2, hy3, hy4⟩ := play_second hplay hup (of_decide_eq_true hl)
    refine w_and1 (t_c (c_is (c_neN (v_cl C.game hr (a_1 (v_ixT (x := y) (v_v 10 (xplay e17)) (v_nat (n := 1)) hy1)) ⟨gp, hy3⟩ fun _ h => h) (v_subN (m := glen (crowdOf t)) (n := 1) (v_v 9 rfl) (v_nat (n := 1)) (of_decide_eq_true hl))) ?_))
    rw [hy2, decide_eq_true (show glen y = glen (crowdOf t) - 1 by omega)]
    rfl
  have E18 : Ex T H9 H18 := E17.trans e18
  -- few deeds
  refine s_cons (s_set 11 e18.2 (r := pLst pB) (P := is (fewL (crowdOf t))) (v_lc (lc_n (r := pN) (xs := List.range 16) (f := fun m => fewP m true (crowdOf t)) [("_law_most", 16)] 16 imB scLaw.nd (blkOk_by (N := lawNs) (sc := defScope s_law) (by decide +kernel)) (tg_name scLaw.nd) (i_rng1 B (v_nat (n := 16)) (by decide)) (Nat.le_of_lt (small1000 (by decide))) (fun _ => rfl) ?_) rfl scLaw.nd) scLaw.nd fun vfew z H19 e19 rfew pz => ?_)
  · rintro y hy H' u e' ru _ ⟨s', H0, C', cl, fp, rfl⟩
    have hy := List.mem_range.mp hy
    exact v_cl C.left hr (a_2 (v_v 2 (xt (E18.trans e'))) (v_v 16 ru)) ⟨okT, by show y ≤ 15; omega⟩ fun _ h => h
  obtain rfl : z = _ := pz
  have E19 : Ex T H9 H19 := E18.trans e19
  have xfew : ∀ {H'}, Ex T H19 H' → (pLst pB).rel H' vfew (fewL (crowdOf t)) := fun e => (pLst pB).mono e.1 rfew
  show oSs _ _ _ [some (V.ref l), some (V.ref a), some vt, some vtop, some vnx, some (V.int ((worth (crowdOf t) : Nat) : Int)), some vsome, some vs, some vmv, some (V.int ((glen (crowdOf t) : Nat) : Int)), some vplay, some vfew, none, none, none, none, none, none] _
  refine s_cons (s_if e19.2 (bx := false) (t_c (c_is (c_neNilN (un hr 64) (v_lc (lc_nif (r := pN) (xs := List.range 15) (f := fun n : Nat => n) (t := fun m => fewP m true (crowdOf t) && !fewP (m + 1) true (crowdOf t)) [("_law_at", 17)] 17 imN scLaw.nd (blkOk_by (N := lawNs) (sc := defScope s_law) (by decide +kernel)) (tg_name scLaw.nd) (i_rng1 B (v_nat (n := 15)) (by decide)) (Nat.le_of_lt (small1000 (by decide))) (fun _ => rfl) ?_) rfl scLaw.nd)) (by rw [lf_mono]; rfl))) (fun h => by cases h) fun _ H20 e20 => s_nil ?_)
  · rintro y hy H' u e' ru _ ⟨s', H0, C', cl, fp, rfl⟩
    have hy := List.mem_range.mp hy
    exact ⟨t_w (w_and (t_v (v_ixL (v_v 11 (xfew e')) (v_v 17 ru) (fewL_at (by omega)))) fun _ => w_and1 (t_not (t_v (v_ixL (v_v 11 (xfew e')) (v_addN (m := y) (n := 1) (v_v 17 ru) (v_nat (n := 1))) (fewL_at (by omega)))))), fun _ => v_v 17 ru⟩
  have E20 : Ex T H9 H20 := E19.trans e20
  have f20 : (pLst pB).rel H20 vfew (fewL (crowdOf t)) := xfew e20
  refine s_cons (s_if e20.2 (bx := false) (t_w (w_or (bx := false) (bz := false) (t_c (c_is (c_neB (v_ixL (v_v 11 f20) (v_nat (n := 0)) (fewL_at (by decide))) (v_cl C.isTower hr (a_1 (v_v 2 (xt E20))) okT fun _ h => h)) ?_)) fun _ => w_or1 (t_not (bx := true) (t_v (v_ixLP (x := true) (Pn := fun y => glen (crowdOf t) ≤ y ∧ y < 16 ∧ fewP y true (crowdOf t) = true) (v_v 11 f20) (v_cl C.most hr (a_2 (v_v 2 (xt E20)) (v_v 3 (xtop E20))) ⟨hlike, hrch⟩ pm) ?_))))) (fun h => by cases h) fun _ H21 e21 => s_nil ?_)
  · rw [lf_zero ok]
    exact bne_self_eq_false _
  · rintro y ⟨_, h2, h3⟩
    rw [fewL_at h2, h3]
  have E21 : Ex T H9 H21 := E20.trans e21
  have f21 := xfew (e20.trans e21)
  refine s_cons (s_if e21.2 (bx := false) (t_w (et_is (w_and (bx := decide (0 < lst)) (bz := false) (t_c (c_gtN (m := lst) (n := 0) (v_cl C.least hr (a_2 (v_v 2 (xt E21)) (v_v 3 (xtop E21))) ⟨hlike, hrch⟩ pl) (v_nat (n := 0)))) fun hl => w_and1 (t_v (v_ixL (n := lst - 1) (v_v 11 f21) (v_subN (m := lst) (n := 1) (v_cl C.least hr (a_2 (v_v 2 (xt E21)) (v_v 3 (xtop E21))) ⟨hlike, hrch⟩ pl) (v_nat (n := 1)) (of_decide_eq_true hl)) ?_))) (Bool.and_false _))) (fun h => by cases h) fun _ H22 e22 => s_nil ?_)
  · rw [fewL_at (by omega), least_few ok hlst.1 (of_decide_eq_true hl)]
  have E22 : Ex T H9 H22 := E21.trans e22
  have f22 := xfew ((e20.trans e21).trans e22)
  refine s_cons (s_if e22.2 (bx := false) (t_w (et_is (w_and (bx := decide (0 < worth (crowdOf t))) (bz := false) (t_v (v_cl C.first hr (a_1 (v_v 2 (xt E22))) okT fun _ h => h)) fun hl => w_and1 (t_not (bx := true) (t_v (v_ixL (n := glen (crowdOf t)) (v_v 11 f22) (v_v 9 rfl) ?_)))) (Bool.and_false _))) (fun h => by cases h) fun _ H23 e23 => s_nil ?_)
  · rw [fewL_at (by omega), lf_glen ok (of_decide_eq_true hl)]
  have E23 : Ex T H9 H23 := E22.trans e23
  -- the chance
  refine s_cons (s_set 12 e23.2 (r := pPair pI pI) (P := is (lowP (chance (crowdOf t)))) (v_cl C.chance hr (a_1 (v_v 2 (xt E23))) okT fun _ h => h) scLaw.nd fun vch z H24 e24 rch pz => ?_)
  obtain rfl : z = _ := pz
  have E24 : Ex T H9 H24 := E23.trans e24
  have xch : ∀ {H'}, Ex T H24 H' → (pPair pI pI).rel H' vch (lowP (chance (crowdOf t))) := fun e => (pPair pI pI).mono e.1 rch
  show oSs _ _ _ [some (V.ref l), some (V.ref a), some vt, some vtop, some vnx, some (V.int ((worth (crowdOf t) : Nat) : Int)), some vsome, some vs, some vmv, some (V.int ((glen (crowdOf t) : Nat) : Int)), some vplay, some vfew, some vch, none, none, none, none, none] _
  refine s_cons (s_if e24.2 (bx := false) (t_w (et_is (w_and (bx := decide ((oddsOf t).length = 1)) (bz := false) (t_c (c_eqN (n := 1) (v_cl C.count hr (a_1 (v_v 2 (xt E24))) okT fun _ h => h) (v_nat (n := 1)))) fun hl => w_and1 (t_c (c_is (c_neII (un hr 64) (v_v 12 rch) (v_pair (v_int (i := 1)) (v_int (i := 1)))) ?_))) (Bool.and_false _))) (fun h => by cases h) fun _ H25 e25 => s_nil ?_)
  · rw [lf_one ok (of_decide_eq_true hl)]
    rfl
  have E25 : Ex T H9 H25 := E24.trans e25
  have hch := lf_chance ok
  refine s_cons (s_if e25.2 (bx := false) (t_w (w_or (bx := false) (bz := false) (t_w (et_is (w_and (bx := (oddsOf t).isEmpty) (bz := false) (t_v (v_cl C.isTower hr (a_1 (v_v 2 (xt E25))) okT fun _ h => h)) fun hl => w_and1 (t_c (c_is (c_neII (un hr 64) (v_v 12 (xch e25)) (v_pair (v_int (i := 0)) (v_int (i := 1)))) ?_))) (Bool.and_false _))) fun _ => w_or1 (t_not (bx := true) (et_is (t_leleI (v_int (i := 0)) (v_fst (v_v 12 (xch e25))) (v_snd (v_v 12 (xch e25)))) ?_)))) (fun h => by cases h) fun _ H26 e26 => s_nil ?_)
  · rw [lf_none ok hl]
    rfl
  · rw [decide_eq_true hch.1, decide_eq_true hch.2]
    rfl
  have E26 : Ex T H9 H26 := E25.trans e26
  -- the other way round
  obtain ⟨r0, hr0, _, _, lr0⟩ := ok.row ok.pos
  have l4 := ok.2.1
  have g5 := ok.2.2.2.1
  have hgb : goodsBy t (downs g) = revG t := rev_goods ok
  have okR : OkW g (revG t) := revG_ok ok
  have hlR : (revG t).length = t.length := by simp [revG]
  have pmv : (peopleBy (revG t) (downs (revG t).length)).Perm (revG t) := lf_perm ok
  have okM : OkW g (peopleBy (revG t) (downs (revG t).length)) := okR.perm pmv
  obtain ⟨w1, w2, w3⟩ := lf_moved ok pmv
  refine s_cons (s_set 13 e26.2 (r := pT) (P := is (peopleBy (revG t) (downs (revG t).length))) (v_cl C.peopleIn hr (a_2 (v_cl (P' := is (revG t)) C.goodsIn hr (a_2 (v_v 2 (xt E26)) (v_revT (v_tupRg rfl B (v_lenT B (v_ixT (v_v 2 (xt E26)) (v_nat (n := 0)) hr0)) (by omega)))) ⟨g, ok, by rw [lr0]; rfl⟩ fun z h => ?_) (v_revT (v_tupRg rfl B (v_lenT B (v_v 2 (xt E26))) (by omega)))) ⟨⟨g, okR⟩, by rw [hlR]; rfl⟩ fun z h => ?_) scLaw.nd fun vmd z H27 e27 rmd pz => ?_)
  · rw [show z = _ from h]
    show goodsBy t ((List.range r0.length).reverse) = revG t
    rw [lr0]
    exact hgb
  · rw [show z = _ from h, hlR]
    rfl
  obtain rfl : z = _ := pz
  have E27 : Ex T H9 H27 := E26.trans e27
  generalize peopleBy (revG t) (downs (revG t).length) = md at rmd okM w1 w2 w3 pmv
  have okMd : Ok md := ⟨g, okM⟩
  show oSs _ _ _ [some (V.ref l), some (V.ref a), some vt, some vtop, some vnx, some (V.int ((worth (crowdOf t) : Nat) : Int)), some vsome, some vs, some vmv, some (V.int ((glen (crowdOf t) : Nat) : Int)), some vplay, some vfew, some vch, some vmd, none, none, none, none] _
  refine s_cons (s_if e27.2 (bx := false) (t_not (bx := true) (t_w (w_and (bx := true) (bz := true) (t_c (c_is (c_eqN (n := worth (crowdOf t)) (v_cl C.worth hr (a_1 (v_v 13 rmd)) okMd fun _ h => h) (v_v 5 rfl)) (decide_eq_true w1))) fun _ => w_and1 (t_c (c_is (c_eqN (n := glen (crowdOf t)) (v_cl C.game hr (a_1 (v_v 13 rmd)) okMd fun _ h => h) (v_v 9 rfl)) (decide_eq_true w2)))))) (fun h => by cases h) fun _ H28 e28 => s_nil ?_)
  have E28 : Ex T H9 H28 := E27.trans e28
  have rpl28 := xplay (((((((((((e17.trans e18).trans e19).trans e20).trans e21).trans e22).trans e23).trans e24).trans e25).trans e26).trans e27).trans e28)
  have hx0 : play[0]? = some (crowdOf t) := by
    have := hplay.head
    rwa [List.head?_eq_getElem?] at this
  refine s_cons (s_ret e28.2 (r := pB) (P := is true) (v_and (bx := true) (bz := true) (v_c (c_is (c_eqII (un hr 64) (v_cl C.chance hr (a_1 (v_v 13 (pT.mono e28.1 rmd))) okMd fun _ h => h) (v_v 12 (xch (((e25.trans e26).trans e27).trans e28)))) (decide_eq_true (by show lowP (chance (crowdOf md)) = _; rw [w3])))) fun _ => v_one (v_c (c_is (c_eqT (un hr 64) (v_cl C.crowd hr (a_1 (v_ixT (v_v 10 rpl28) (v_nat (n := 0)) hx0)) ⟨g, ok.crowd⟩ fun _ h => h) (v_ixT (v_v 10 rpl28) (v_nat (n := 0)) hx0)) (decide_eq_true (crowd_idem t))))) fun u z H29 e29 rl pz => ?_)
  rw [show u = V.bl z from rl, show z = true from pz]
  exact hQ H29
end
end LT
/-! ## LtJoin -/
set_option Elab.async false
set_option linter.all false
set_option maxRecDepth 100000
set_option maxHeartbeats 8000000
namespace LT
open PySem PySem.W PySem.Spec PyProof.Rows L2 LamX

/-! ### the join -/
def Tl (K : PySem.W.Frag) : List (Addr × Str) := tf.map fun p => ((He.cT K p).2, lamQ p.1)
section
variable {K : PySem.W.Frag}
theorem nd_inj {α β : Type} {f : α → β} : ∀ {l : List α}, (l.map f).Nodup → ∀ a ∈ l, ∀ b ∈ l, f a = f b → a = b
  | [], _, a, ha, _, _, _ => by cases ha
  | x :: l, h, a, ha, b, hb, e => by
    rw [List.map_cons, List.nodup_cons] at h
    rcases List.mem_cons.mp ha with ea | ha' <;> rcases List.mem_cons.mp hb with eb | hb'
    · rw [ea, eb]
    · exact absurd (by rw [← ea, e]; exact List.mem_map_of_mem hb') h.1
    · exact absurd (by rw [← eb, ← e]; exact List.mem_map_of_mem ha') h.1
    · exact nd_inj h.2 a ha' b hb' e
theorem lam_in {x : Str} (h : (x, none) ∈ tf) : ((He.cT K (x, none)).2, lamQ x) ∈ Tl K := List.mem_map.mpr ⟨_, h, rfl⟩
theorem lam_uniq (un : (tf.map fun p => (He.cT K p).2).Nodup) {x : Str} (h : (x, none) ∈ tf) : ∀ p ∈ Tl K, p.1 = (He.cT K (x, none)).2 → p.2 = lamQ x := fun p hp e => by
  obtain ⟨q, hq, rfl⟩ := List.mem_map.mp hp
  rw [nd_inj un q hq _ h e]
theorem code_at {x : Str} {st : Stmt} {fd : FuncData} (F : FnP K x st (He.fAd K (x, none)) fd) : CodeAt K (He.fAd K (x, none)) (He.cT K (x, none)).1 := fun oc od fd' osl lk => by
  obtain ⟨oc', od', dV, kV, doc, pm, an, cdv, ct, osl', e, lk', hcd, _, _⟩ := F.ex
  obtain ⟨c0, rfl⟩ := He.codeIn_ref hcd
  rw [lk] at lk'
  cases lk'
  have e1 : fd.code = Value.ref c0 := by rw [e]
  rw [e1]
  show Value.ref c0 = .ref (He.codeOf K (x, none))
  rw [He.codeOf_eq lk e1]
theorem tabs_of {cs : List (Addr × Addr)} {H : Hp} (h : ∀ p ∈ tf, H (He.cT K p).2 = some (.tbl #[])) : Tabs (Tl K) H := fun q hq => by
  obtain ⟨p, hp, rfl⟩ := List.mem_map.mp hq
  refine ⟨#[], h p hp, ?_, fun pos cv hc => ?_⟩
  · exact (by simp [TriplesOk] : TriplesOk ([] : List Value))
  · have : codeAmong pos ([] : List Value) = none := rfl
    rw [show (#[] : Array Value).toList = [] from rfl, this] at hc
    cases hc
end

set_option maxHeartbeats 32000000 in
theorem law_ok {P : Program} {w : World} {K : PySem.W.Frag} {mg : Str → Option Value} {base h : Heap} (X : K.In base) (G : base.Ns mainGlobals mg) (c : He.SaysX fa fn [] tf ex w h K) (TBs : ∀ p ∈ tf, TabB base mg (He.cT K p).1 (He.cT K p).2) {fd : FuncData} (F : FnP K "law" s_law (He.fAd K ("law", none)) fd) :
    FnOk P w K mg base CX0 24 (He.fAd K ("law", none)) fd ["_law_script"] (SpLaw K (Tl K)) := by
  have un : (tf.map fun p => (He.cT K p).2).Nodup := of_decide_eq_true c.more
  let T := Tl K
  have B : Blt mg := fun z hz => by
    simp only [List.mem_cons, List.not_mem_nil, or_false] at hz
    rcases hz with rfl | rfl | rfl | rfl | rfl | rfl | rfl | rfl | rfl | rfl | rfl | rfl | rfl | rfl | rfl
    · exact He.free_ok X G (c.t.d.fact 56 (f := .free "isinstance") rfl)
    · exact He.free_ok X G (c.t.d.fact 57 (f := .free "int") rfl)
    · exact He.free_ok X G (c.t.d.fact 58 (f := .free "bool") rfl)
    · exact He.free_ok X G (c.t.d.fact 59 (f := .free "tuple") rfl)
    · exact He.free_ok X G (c.t.d.fact 60 (f := .free "all") rfl)
    · exact He.free_ok X G (c.t.d.fact 61 (f := .free "any") rfl)
    · exact He.free_ok X G (c.t.d.fact 62 (f := .free "len") rfl)
    · exact He.free_ok X G (c.t.d.fact 63 (f := .free "enumerate") rfl)
    · exact He.free_ok X G (c.t.d.fact 64 (f := .free "zip") rfl)
    · exact He.free_ok X G (c.t.d.fact 65 (f := .free "sorted") rfl)
    · exact He.free_ok X G (c.t.d.fact 66 (f := .free "list") rfl)
    · exact He.free_ok X G (c.t.d.fact 67 (f := .free "range") rfl)
    · exact He.free_ok X G (c.t.d.fact 68 (f := .free "max") rfl)
    · exact He.free_ok X G (c.t.d.fact 69 (f := .free "min") rfl)
    · exact He.free_ok X G (c.t.d.fact 70 (f := .free "sum") rfl)
  have G_people : Glo mg "MOST_PEOPLE" 6 := by
    obtain ⟨t, e⟩ := He.int_ok X G (c.t.d.fact 52 (f := .int "MOST_PEOPLE" 6) rfl)
    exact ⟨_, e, t, rfl⟩
  have G_goods : Glo mg "MOST_GOODS" 5 := by
    obtain ⟨t, e⟩ := He.int_ok X G (c.t.d.fact 53 (f := .int "MOST_GOODS" 5) rfl)
    exact ⟨_, e, t, rfl⟩
  have G_heap : Glo mg "MOST_HEAP" 99 := by
    obtain ⟨t, e⟩ := He.int_ok X G (c.t.d.fact 54 (f := .int "MOST_HEAP" 99) rfl)
    exact ⟨_, e, t, rfl⟩
  have G_met : Glo mg "MOST_MET" 3000 := by
    obtain ⟨t, e⟩ := He.int_ok X G (c.t.d.fact 55 (f := .int "MOST_MET" 3000) rfl)
    exact ⟨_, e, t, rfl⟩
  obtain ⟨fd_whole, F_whole⟩ := c.t.d.def_ 0 (d := d_whole) rfl
  have F_whole : FnP K "whole" s_whole (He.fAd K ("whole", none)) fd_whole := F_whole
  have g_whole : mg "whole" = some (.ref (He.fAd K ("whole", none))) := He.glo_ok X G (c.t.d.fact 0 (f := .glo "whole") rfl)
  obtain ⟨fd_within, F_within⟩ := c.t.d.def_ 1 (d := d_within) rfl
  have F_within : FnP K "within" s_within (He.fAd K ("within", none)) fd_within := F_within
  have g_within : mg "within" = some (.ref (He.fAd K ("within", none))) := He.glo_ok X G (c.t.d.fact 1 (f := .glo "within") rfl)
  obtain ⟨fd_need_number, F_need_number⟩ := c.t.d.def_ 2 (d := d_need_number) rfl
  have F_need_number : FnP K "need_number" s_need_number (He.fAd K ("need_number", none)) fd_need_number := F_need_number
  have g_need_number : mg "need_number" = some (.ref (He.fAd K ("need_number", none))) := He.glo_ok X G (c.t.d.fact 2 (f := .glo "need_number") rfl)
  obtain ⟨fd_tuple_of, F_tuple_of⟩ := c.t.d.def_ 3 (d := d_tuple_of) rfl
  have F_tuple_of : FnP K "tuple_of" s_tuple_of (He.fAd K ("tuple_of", none)) fd_tuple_of := F_tuple_of
  have g_tuple_of : mg "tuple_of" = some (.ref (He.fAd K ("tuple_of", none))) := He.glo_ok X G (c.t.d.fact 3 (f := .glo "tuple_of") rfl)
  obtain ⟨fd_is_row, F_is_row⟩ := c.t.d.def_ 4 (d := d_is_row) rfl
  have F_is_row : FnP K "is_row" s_is_row (He.fAd K ("is_row", none)) fd_is_row := F_is_row
  have g_is_row : mg "is_row" = some (.ref (He.fAd K ("is_row", none))) := He.glo_ok X G (c.t.d.fact 4 (f := .glo "is_row") rfl)
  obtain ⟨fd_bad_row, F_bad_row⟩ := c.t.d.def_ 5 (d := d_bad_row) rfl
  have F_bad_row : FnP K "bad_row" s_bad_row (He.fAd K ("bad_row", none)) fd_bad_row := F_bad_row
  have g_bad_row : mg "bad_row" = some (.ref (He.fAd K ("bad_row", none))) := He.glo_ok X G (c.t.d.fact 5 (f := .glo "bad_row") rfl)
  obtain ⟨fd_need_table, F_need_table⟩ := c.t.d.def_ 6 (d := d_need_table) rfl
  have F_need_table : FnP K "need_table" s_need_table (He.fAd K ("need_table", none)) fd_need_table := F_need_table
  have g_need_table : mg "need_table" = some (.ref (He.fAd K ("need_table", none))) := He.glo_ok X G (c.t.d.fact 6 (f := .glo "need_table") rfl)
  obtain ⟨fd_is_table, F_is_table⟩ := c.t.d.def_ 7 (d := d_is_table) rfl
  have F_is_table : FnP K "is_table" s_is_table (He.fAd K ("is_table", none)) fd_is_table := F_is_table
  have g_is_table : mg "is_table" = some (.ref (He.fAd K ("is_table", none))) := He.glo_ok X G (c.t.d.fact 7 (f := .glo "is_table") rfl)
  obtain ⟨fd_is_order, F_is_order⟩ := c.t.d.def_ 8 (d := d_is_order) rfl
  have F_is_order : FnP K "is_order" s_is_order (He.fAd K ("is_order", none)) fd_is_order := F_is_order
  have g_is_order : mg "is_order" = some (.ref (He.fAd K ("is_order", none))) := He.glo_ok X G (c.t.d.fact 8 (f := .glo "is_order") rfl)
  obtain ⟨fd_need_order, F_need_order⟩ := c.t.d.def_ 9 (d := d_need_order) rfl
  have F_need_order : FnP K "need_order" s_need_order (He.fAd K ("need_order", none)) fd_need_order := F_need_order
  have g_need_order : mg "need_order" = some (.ref (He.fAd K ("need_order", none))) := He.glo_ok X G (c.t.d.fact 9 (f := .glo "need_order") rfl)
  obtain ⟨fd_need_like, F_need_like⟩ := c.t.d.def_ 10 (d := d_need_like) rfl
  have F_need_like : FnP K "need_like" s_need_like (He.fAd K ("need_like", none)) fd_need_like := F_need_like
  have g_need_like : mg "need_like" = some (.ref (He.fAd K ("need_like", none))) := He.glo_ok X G (c.t.d.fact 10 (f := .glo "need_like") rfl)
  obtain ⟨fd_is_over_row, F_is_over_row⟩ := c.t.d.def_ 11 (d := d_is_over_row) rfl
  have F_is_over_row : FnP K "is_over_row" s_is_over_row (He.fAd K ("is_over_row", none)) fd_is_over_row := F_is_over_row
  have g_is_over_row : mg "is_over_row" = some (.ref (He.fAd K ("is_over_row", none))) := He.glo_ok X G (c.t.d.fact 11 (f := .glo "is_over_row") rfl)
  obtain ⟨fd_are_at_odds, F_are_at_odds⟩ := c.t.d.def_ 12 (d := d_are_at_odds) rfl
  have F_are_at_odds : FnP K "are_at_odds" s_are_at_odds (He.fAd K ("are_at_odds", none)) fd_are_at_odds := F_are_at_odds
  have g_are_at_odds : mg "are_at_odds" = some (.ref (He.fAd K ("are_at_odds", none))) := He.glo_ok X G (c.t.d.fact 12 (f := .glo "are_at_odds") rfl)
  obtain ⟨fd_odds_of, F_odds_of⟩ := c.t.d.def_ 13 (d := d_odds_of) rfl
  have F_odds_of : FnP K "odds_of" s_odds_of (He.fAd K ("odds_of", none)) fd_odds_of := F_odds_of
  have g_odds_of : mg "odds_of" = some (.ref (He.fAd K ("odds_of", none))) := He.glo_ok X G (c.t.d.fact 13 (f := .glo "odds_of") rfl)
  obtain ⟨fd_count_at_odds, F_count_at_odds⟩ := c.t.d.def_ 14 (d := d_count_at_odds) rfl
  have F_count_at_odds : FnP K "count_at_odds" s_count_at_odds (He.fAd K ("count_at_odds", none)) fd_count_at_odds := F_count_at_odds
  have g_count_at_odds : mg "count_at_odds" = some (.ref (He.fAd K ("count_at_odds", none))) := He.glo_ok X G (c.t.d.fact 14 (f := .glo "count_at_odds") rfl)
  obtain ⟨fd_is_tower, F_is_tower⟩ := c.t.d.def_ 15 (d := d_is_tower) rfl
  have F_is_tower : FnP K "is_tower" s_is_tower (He.fAd K ("is_tower", none)) fd_is_tower := F_is_tower
  have g_is_tower : mg "is_tower" = some (.ref (He.fAd K ("is_tower", none))) := He.glo_ok X G (c.t.d.fact 15 (f := .glo "is_tower") rfl)
  obtain ⟨fd_crowd_of, F_crowd_of⟩ := c.t.d.def_ 16 (d := d_crowd_of) rfl
  have F_crowd_of : FnP K "crowd_of" s_crowd_of (He.fAd K ("crowd_of", none)) fd_crowd_of := F_crowd_of
  have g_crowd_of : mg "crowd_of" = some (.ref (He.fAd K ("crowd_of", none))) := He.glo_ok X G (c.t.d.fact 16 (f := .glo "crowd_of") rfl)
  obtain ⟨fd_crowd, F_crowd⟩ := c.t.d.def_ 17 (d := d_crowd) rfl
  have F_crowd : FnP K "crowd" s_crowd (He.fAd K ("crowd", none)) fd_crowd := F_crowd
  have g_crowd : mg "crowd" = some (.ref (He.fAd K ("crowd", none))) := He.glo_ok X G (c.t.d.fact 17 (f := .glo "crowd") rfl)
  obtain ⟨fd_laid, F_laid⟩ := c.t.d.def_ 18 (d := d_laid) rfl
  have F_laid : FnP K "laid" s_laid (He.fAd K ("laid", none)) fd_laid := F_laid
  have g_laid : mg "laid" = some (.ref (He.fAd K ("laid", none))) := He.glo_ok X G (c.t.d.fact 18 (f := .glo "laid") rfl)
  obtain ⟨fd_nexts_of, F_nexts_of⟩ := c.t.d.def_ 19 (d := d_nexts_of) rfl
  have F_nexts_of : FnP K "nexts_of" s_nexts_of (He.fAd K ("nexts_of", none)) fd_nexts_of := F_nexts_of
  have g_nexts_of : mg "nexts_of" = some (.ref (He.fAd K ("nexts_of", none))) := He.glo_ok X G (c.t.d.fact 19 (f := .glo "nexts_of") rfl)
  obtain ⟨fd_next_crowds, F_next_crowds⟩ := c.t.d.def_ 20 (d := d_next_crowds) rfl
  have F_next_crowds : FnP K "next_crowds" s_next_crowds (He.fAd K ("next_crowds", none)) fd_next_crowds := F_next_crowds
  have g_next_crowds : mg "next_crowds" = some (.ref (He.fAd K ("next_crowds", none))) := He.glo_ok X G (c.t.d.fact 20 (f := .glo "next_crowds") rfl)
  obtain ⟨fd_tower_of, F_tower_of⟩ := c.t.d.def_ 21 (d := d_tower_of) rfl
  have F_tower_of : FnP K "tower_of" s_tower_of (He.fAd K ("tower_of", none)) fd_tower_of := F_tower_of
  have g_tower_of : mg "tower_of" = some (.ref (He.fAd K ("tower_of", none))) := He.glo_ok X G (c.t.d.fact 21 (f := .glo "tower_of") rfl)
  obtain ⟨fd_tower, F_tower⟩ := c.t.d.def_ 22 (d := d_tower) rfl
  have F_tower : FnP K "tower" s_tower (He.fAd K ("tower", none)) fd_tower := F_tower
  have g_tower : mg "tower" = some (.ref (He.fAd K ("tower", none))) := He.glo_ok X G (c.t.d.fact 22 (f := .glo "tower") rfl)
  obtain ⟨fd_spread, F_spread⟩ := c.t.d.def_ 23 (d := d_spread) rfl
  have F_spread : FnP K "spread" s_spread (He.fAd K ("spread", none)) fd_spread := F_spread
  have g_spread : mg "spread" = some (.ref (He.fAd K ("spread", none))) := He.glo_ok X G (c.t.d.fact 23 (f := .glo "spread") rfl)
  obtain ⟨fd_least_deeds, F_least_deeds⟩ := c.t.d.def_ 24 (d := d_least_deeds) rfl
  have F_least_deeds : FnP K "least_deeds" s_least_deeds (He.fAd K ("least_deeds", none)) fd_least_deeds := F_least_deeds
  have g_least_deeds : mg "least_deeds" = some (.ref (He.fAd K ("least_deeds", none))) := He.glo_ok X G (c.t.d.fact 24 (f := .glo "least_deeds") rfl)
  obtain ⟨fd_most_deeds, F_most_deeds⟩ := c.t.d.def_ 25 (d := d_most_deeds) rfl
  have F_most_deeds : FnP K "most_deeds" s_most_deeds (He.fAd K ("most_deeds", none)) fd_most_deeds := F_most_deeds
  have g_most_deeds : mg "most_deeds" = some (.ref (He.fAd K ("most_deeds", none))) := He.glo_ok X G (c.t.d.fact 25 (f := .glo "most_deeds") rfl)
  obtain ⟨fd_is_row_of_deeds, F_is_row_of_deeds⟩ := c.t.d.def_ 26 (d := d_is_row_of_deeds) rfl
  have F_is_row_of_deeds : FnP K "is_row_of_deeds" s_is_row_of_deeds (He.fAd K ("is_row_of_deeds", none)) fd_is_row_of_deeds := F_is_row_of_deeds
  have g_is_row_of_deeds : mg "is_row_of_deeds" = some (.ref (He.fAd K ("is_row_of_deeds", none))) := He.glo_ok X G (c.t.d.fact 26 (f := .glo "is_row_of_deeds") rfl)
  obtain ⟨fd_steps_of, F_steps_of⟩ := c.t.d.def_ 27 (d := d_steps_of) rfl
  have F_steps_of : FnP K "steps_of" s_steps_of (He.fAd K ("steps_of", none)) fd_steps_of := F_steps_of
  have g_steps_of : mg "steps_of" = some (.ref (He.fAd K ("steps_of", none))) := He.glo_ok X G (c.t.d.fact 27 (f := .glo "steps_of") rfl)
  obtain ⟨fd_worths_of, F_worths_of⟩ := c.t.d.def_ 28 (d := d_worths_of) rfl
  have F_worths_of : FnP K "worths_of" s_worths_of (He.fAd K ("worths_of", none)) fd_worths_of := F_worths_of
  have g_worths_of : mg "worths_of" = some (.ref (He.fAd K ("worths_of", none))) := He.glo_ok X G (c.t.d.fact 28 (f := .glo "worths_of") rfl)
  obtain ⟨fd_worth, F_worth⟩ := c.t.d.def_ 29 (d := d_worth) rfl
  have F_worth : FnP K "worth" s_worth (He.fAd K ("worth", none)) fd_worth := F_worth
  have g_worth : mg "worth" = some (.ref (He.fAd K ("worth", none))) := He.glo_ok X G (c.t.d.fact 29 (f := .glo "worth") rfl)
  obtain ⟨fd_first_wins, F_first_wins⟩ := c.t.d.def_ 30 (d := d_first_wins) rfl
  have F_first_wins : FnP K "first_wins" s_first_wins (He.fAd K ("first_wins", none)) fd_first_wins := F_first_wins
  have g_first_wins : mg "first_wins" = some (.ref (He.fAd K ("first_wins", none))) := He.glo_ok X G (c.t.d.fact 30 (f := .glo "first_wins") rfl)
  obtain ⟨fd_winning_next, F_winning_next⟩ := c.t.d.def_ 31 (d := d_winning_next) rfl
  have F_winning_next : FnP K "winning_next" s_winning_next (He.fAd K ("winning_next", none)) fd_winning_next := F_winning_next
  have g_winning_next : mg "winning_next" = some (.ref (He.fAd K ("winning_next", none))) := He.glo_ok X G (c.t.d.fact 31 (f := .glo "winning_next") rfl)
  obtain ⟨fd_lengths_of, F_lengths_of⟩ := c.t.d.def_ 32 (d := d_lengths_of) rfl
  have F_lengths_of : FnP K "lengths_of" s_lengths_of (He.fAd K ("lengths_of", none)) fd_lengths_of := F_lengths_of
  have g_lengths_of : mg "lengths_of" = some (.ref (He.fAd K ("lengths_of", none))) := He.glo_ok X G (c.t.d.fact 32 (f := .glo "lengths_of") rfl)
  obtain ⟨fd_game_length, F_game_length⟩ := c.t.d.def_ 33 (d := d_game_length) rfl
  have F_game_length : FnP K "game_length" s_game_length (He.fAd K ("game_length", none)) fd_game_length := F_game_length
  have g_game_length : mg "game_length" = some (.ref (He.fAd K ("game_length", none))) := He.glo_ok X G (c.t.d.fact 33 (f := .glo "game_length") rfl)
  obtain ⟨fd_best_play, F_best_play⟩ := c.t.d.def_ 34 (d := d_best_play) rfl
  have F_best_play : FnP K "best_play" s_best_play (He.fAd K ("best_play", none)) fd_best_play := F_best_play
  have g_best_play : mg "best_play" = some (.ref (He.fAd K ("best_play", none))) := He.glo_ok X G (c.t.d.fact 34 (f := .glo "best_play") rfl)
  obtain ⟨fd_shows_play, F_shows_play⟩ := c.t.d.def_ 35 (d := d_shows_play) rfl
  have F_shows_play : FnP K "shows_play" s_shows_play (He.fAd K ("shows_play", none)) fd_shows_play := F_shows_play
  have g_shows_play : mg "shows_play" = some (.ref (He.fAd K ("shows_play", none))) := He.glo_ok X G (c.t.d.fact 35 (f := .glo "shows_play") rfl)
  obtain ⟨fd_both_games, F_both_games⟩ := c.t.d.def_ 36 (d := d_both_games) rfl
  have F_both_games : FnP K "both_games" s_both_games (He.fAd K ("both_games", none)) fd_both_games := F_both_games
  have g_both_games : mg "both_games" = some (.ref (He.fAd K ("both_games", none))) := He.glo_ok X G (c.t.d.fact 36 (f := .glo "both_games") rfl)
  obtain ⟨fd_first_chance, F_first_chance⟩ := c.t.d.def_ 37 (d := d_first_chance) rfl
  have F_first_chance : FnP K "first_chance" s_first_chance (He.fAd K ("first_chance", none)) fd_first_chance := F_first_chance
  have g_first_chance : mg "first_chance" = some (.ref (He.fAd K ("first_chance", none))) := He.glo_ok X G (c.t.d.fact 37 (f := .glo "first_chance") rfl)
  obtain ⟨fd_lowest, F_lowest⟩ := c.t.d.def_ 38 (d := d_lowest) rfl
  have F_lowest : FnP K "lowest" s_lowest (He.fAd K ("lowest", none)) fd_lowest := F_lowest
  have g_lowest : mg "lowest" = some (.ref (He.fAd K ("lowest", none))) := He.glo_ok X G (c.t.d.fact 38 (f := .glo "lowest") rfl)
  obtain ⟨fd_deeds_left, F_deeds_left⟩ := c.t.d.def_ 39 (d := d_deeds_left) rfl
  have F_deeds_left : FnP K "deeds_left" s_deeds_left (He.fAd K ("deeds_left", none)) fd_deeds_left := F_deeds_left
  have g_deeds_left : mg "deeds_left" = some (.ref (He.fAd K ("deeds_left", none))) := He.glo_ok X G (c.t.d.fact 39 (f := .glo "deeds_left") rfl)
  obtain ⟨fd_few, F_few⟩ := c.t.d.def_ 40 (d := d_few) rfl
  have F_few : FnP K "few" s_few (He.fAd K ("few", none)) fd_few := F_few
  have g_few : mg "few" = some (.ref (He.fAd K ("few", none))) := He.glo_ok X G (c.t.d.fact 40 (f := .glo "few") rfl)
  obtain ⟨fd_is_down, F_is_down⟩ := c.t.d.def_ 41 (d := d_is_down) rfl
  have F_is_down : FnP K "is_down" s_is_down (He.fAd K ("is_down", none)) fd_is_down := F_is_down
  have g_is_down : mg "is_down" = some (.ref (He.fAd K ("is_down", none))) := He.glo_ok X G (c.t.d.fact 41 (f := .glo "is_down") rfl)
  obtain ⟨fd_is_written, F_is_written⟩ := c.t.d.def_ 42 (d := d_is_written) rfl
  have F_is_written : FnP K "is_written" s_is_written (He.fAd K ("is_written", none)) fd_is_written := F_is_written
  have g_is_written : mg "is_written" = some (.ref (He.fAd K ("is_written", none))) := He.glo_ok X G (c.t.d.fact 42 (f := .glo "is_written") rfl)
  obtain ⟨fd_shows_to_tower, F_shows_to_tower⟩ := c.t.d.def_ 43 (d := d_shows_to_tower) rfl
  have F_shows_to_tower : FnP K "shows_to_tower" s_shows_to_tower (He.fAd K ("shows_to_tower", none)) fd_shows_to_tower := F_shows_to_tower
  have g_shows_to_tower : mg "shows_to_tower" = some (.ref (He.fAd K ("shows_to_tower", none))) := He.glo_ok X G (c.t.d.fact 43 (f := .glo "shows_to_tower") rfl)
  obtain ⟨fd_need_goods_order, F_need_goods_order⟩ := c.t.d.def_ 44 (d := d_need_goods_order) rfl
  have F_need_goods_order : FnP K "need_goods_order" s_need_goods_order (He.fAd K ("need_goods_order", none)) fd_need_goods_order := F_need_goods_order
  have g_need_goods_order : mg "need_goods_order" = some (.ref (He.fAd K ("need_goods_order", none))) := He.glo_ok X G (c.t.d.fact 44 (f := .glo "need_goods_order") rfl)
  obtain ⟨fd_goods_in_order, F_goods_in_order⟩ := c.t.d.def_ 45 (d := d_goods_in_order) rfl
  have F_goods_in_order : FnP K "goods_in_order" s_goods_in_order (He.fAd K ("goods_in_order", none)) fd_goods_in_order := F_goods_in_order
  have g_goods_in_order : mg "goods_in_order" = some (.ref (He.fAd K ("goods_in_order", none))) := He.glo_ok X G (c.t.d.fact 45 (f := .glo "goods_in_order") rfl)
  obtain ⟨fd_people_in_order, F_people_in_order⟩ := c.t.d.def_ 46 (d := d_people_in_order) rfl
  have F_people_in_order : FnP K "people_in_order" s_people_in_order (He.fAd K ("people_in_order", none)) fd_people_in_order := F_people_in_order
  have g_people_in_order : mg "people_in_order" = some (.ref (He.fAd K ("people_in_order", none))) := He.glo_ok X G (c.t.d.fact 46 (f := .glo "people_in_order") rfl)
  obtain ⟨fd__law_taken, F__law_taken⟩ := c.t.d.def_ 47 (d := d__law_taken) rfl
  have F__law_taken : FnP K "_law_taken" s__law_taken (He.fAd K ("_law_taken", none)) fd__law_taken := F__law_taken
  have g__law_taken : mg "_law_taken" = some (.ref (He.fAd K ("_law_taken", none))) := He.glo_ok X G (c.t.d.fact 47 (f := .glo "_law_taken") rfl)
  obtain ⟨fd__law_pick, F__law_pick⟩ := c.t.d.def_ 48 (d := d__law_pick) rfl
  have F__law_pick : FnP K "_law_pick" s__law_pick (He.fAd K ("_law_pick", none)) fd__law_pick := F__law_pick
  have g__law_pick : mg "_law_pick" = some (.ref (He.fAd K ("_law_pick", none))) := He.glo_ok X G (c.t.d.fact 48 (f := .glo "_law_pick") rfl)
  obtain ⟨fd__law_table, F__law_table⟩ := c.t.d.def_ 49 (d := d__law_table) rfl
  have F__law_table : FnP K "_law_table" s__law_table (He.fAd K ("_law_table", none)) fd__law_table := F__law_table
  have g__law_table : mg "_law_table" = some (.ref (He.fAd K ("_law_table", none))) := He.glo_ok X G (c.t.d.fact 49 (f := .glo "_law_table") rfl)
  obtain ⟨fd__law_unlike, F__law_unlike⟩ := c.t.d.def_ 50 (d := d__law_unlike) rfl
  have F__law_unlike : FnP K "_law_unlike" s__law_unlike (He.fAd K ("_law_unlike", none)) fd__law_unlike := F__law_unlike
  have g__law_unlike : mg "_law_unlike" = some (.ref (He.fAd K ("_law_unlike", none))) := He.glo_ok X G (c.t.d.fact 50 (f := .glo "_law_unlike") rfl)
  have C_whole : Cal P w K mg base "whole" ["value"] 1 (pWhole (Tl K)) := cal_of F_whole g_whole (f_whole (k := 0) B F_whole) (fun _ _ _ _ _ _ us h => match us, h with | [_], _ => rfl)
  have C_within : Cal P w K mg base "within" ["value", "low", "high"] 2 (pWithin (Tl K)) := cal_of F_within g_within (f_within (k := 1) C_whole (by decide) F_within) (fun _ _ _ _ _ _ us h => match us, h with | [_, _, _], _ => rfl)
  have C_need_number : Cal P w K mg base "need_number" ["value", "low", "high"] 3 (pNeedNumber (Tl K)) := cal_of F_need_number g_need_number (f_need_number (k := 2) C_within (by decide) F_need_number) (fun _ _ _ _ _ _ us h => match us, h with | [_, _, _], _ => rfl)
  have C_tuple_ofI : Cal P w K mg base "tuple_of" ["value", "low", "high"] 1 (pTupleOf pI (Tl K)) := cal_of F_tuple_of g_tuple_of (f_tuple_of (k := 0) B F_tuple_of) (fun _ _ _ _ _ _ us h => match us, h with | [_, _, _], _ => rfl)
  have C_tuple_ofR : Cal P w K mg base "tuple_of" ["value", "low", "high"] 1 (pTupleOf pR (Tl K)) := cal_of F_tuple_of g_tuple_of (f_tuple_of (k := 0) B F_tuple_of) (fun _ _ _ _ _ _ us h => match us, h with | [_, _, _], _ => rfl)
  have C_tuple_ofN : Cal P w K mg base "tuple_of" ["value", "low", "high"] 1 (pTupleOf pN (Tl K)) := cal_of F_tuple_of g_tuple_of (f_tuple_of (k := 0) B F_tuple_of) (fun _ _ _ _ _ _ us h => match us, h with | [_, _, _], _ => rfl)
  have C_is_row : Cal P w K mg base "is_row" ["value", "goods"] 3 (pIsRow (Tl K)) := cal_of F_is_row g_is_row (f_is_row (k := 2) B G_heap C_tuple_ofI C_within (by decide) (by decide) F_is_row) (fun _ _ _ _ _ _ us h => match us, h with | [_, _], _ => rfl)
  have C_bad_row : Cal P w K mg base "bad_row" ["table"] 4 (pBadRow (Tl K)) := cal_of F_bad_row g_bad_row (f_bad_row (k := 3) B G_goods C_tuple_ofI C_is_row (by decide) (by decide) F_bad_row) (fun _ _ _ _ _ _ us h => match us, h with | [_], _ => rfl)
  have C_need_table : Cal P w K mg base "need_table" ["table"] 5 (pNeedTable (Tl K)) := cal_of F_need_table g_need_table (f_need_table (k := 4) B G_people C_tuple_ofR C_bad_row (by decide) (by decide) F_need_table) (fun _ _ _ _ _ _ us h => match us, h with | [_], _ => rfl)
  have C_is_table : Cal P w K mg base "is_table" ["value"] 5 (pIsTable (Tl K)) := cal_of F_is_table g_is_table (f_is_table (k := 4) B G_people C_tuple_ofR C_bad_row (by decide) (by decide) F_is_table) (fun _ _ _ _ _ _ us h => match us, h with | [_], _ => rfl)
  have C_is_over_row : Cal P w K mg base "is_over_row" ["one", "other"] 1 (pOver (Tl K)) := cal_of F_is_over_row g_is_over_row (f_is_over_row (k := 0) B F_is_over_row) (fun _ _ _ _ _ _ us h => match us, h with | [_, _], _ => rfl)
  have C_are_at_odds : Cal P w K mg base "are_at_odds" ["one", "other"] 2 (pAtOdds (Tl K)) := cal_of F_are_at_odds g_are_at_odds (f_are_at_odds (k := 1) C_is_over_row (by decide) F_are_at_odds) (fun _ _ _ _ _ _ us h => match us, h with | [_, _], _ => rfl)
  have C_odds_of : Cal P w K mg base "odds_of" ["table"] 3 (pOdds (Tl K)) := cal_of F_odds_of g_odds_of (f_odds_of (k := 2) B C_are_at_odds (by decide) F_odds_of) (fun _ _ _ _ _ _ us h => match us, h with | [_], _ => rfl)
  have C_count_at_odds : Cal P w K mg base "count_at_odds" ["table"] 6 (pCount (Tl K)) := cal_of F_count_at_odds g_count_at_odds (f_count (k := 5) B C_need_table C_odds_of (by decide) (by decide) F_count_at_odds) (fun _ _ _ _ _ _ us h => match us, h with | [_], _ => rfl)
  have C_is_tower : Cal P w K mg base "is_tower" ["table"] 6 (pIsTower (Tl K)) := cal_of F_is_tower g_is_tower (f_is_tower (k := 5) B C_need_table C_odds_of (by decide) (by decide) F_is_tower) (fun _ _ _ _ _ _ us h => match us, h with | [_], _ => rfl)
  have C_crowd_of : Cal P w K mg base "crowd_of" ["table"] 1 (pCrowd (Tl K)) := cal_of F_crowd_of g_crowd_of (f_crowd_of (k := 0) B F_crowd_of) (fun _ _ _ _ _ _ us h => match us, h with | [_], _ => rfl)
  have C_crowd : Cal P w K mg base "crowd" ["table"] 6 (pCrowd (Tl K)) := cal_of F_crowd g_crowd (f_crowd (k := 5) C_need_table C_crowd_of (by decide) (by decide) F_crowd) (fun _ _ _ _ _ _ us h => match us, h with | [_], _ => rfl)
  have C_laid : Cal P w K mg base "laid" ["table", "one", "other"] 1 (pLaid (Tl K)) := cal_of F_laid g_laid (f_laid (k := 0) B F_laid) (fun _ _ _ _ _ _ us h => match us, h with | [_, _, _], _ => rfl)
  have C_nexts_of : Cal P w K mg base "nexts_of" ["table"] 4 (pNexts (Tl K)) := cal_of F_nexts_of g_nexts_of (f_nexts_of (k := 3) B C_odds_of C_laid C_crowd_of (by decide) (by decide) (by decide) F_nexts_of) (fun _ _ _ _ _ _ us h => match us, h with | [_], _ => rfl)
  have C_next_crowds : Cal P w K mg base "next_crowds" ["table"] 6 (pNexts (Tl K)) := cal_of F_next_crowds g_next_crowds (f_next_crowds (k := 5) C_need_table C_nexts_of (by decide) (by decide) F_next_crowds) (fun _ _ _ _ _ _ us h => match us, h with | [_], _ => rfl)
  have C_tower_of : Cal P w K mg base "tower_of" ["table"] 1 (pTower (Tl K)) := cal_of F_tower_of g_tower_of (f_tower_of (k := 0) B F_tower_of) (fun _ _ _ _ _ _ us h => match us, h with | [_], _ => rfl)
  have C_tower : Cal P w K mg base "tower" ["table"] 6 (pTower (Tl K)) := cal_of F_tower g_tower (f_tower (k := 5) C_need_table C_tower_of (by decide) (by decide) F_tower) (fun _ _ _ _ _ _ us h => match us, h with | [_], _ => rfl)
  have C_spread : Cal P w K mg base "spread" ["table"] 7 (pSpread w (Tl K)) := cal_of F_spread g_spread (f_spread (k := 6) less B G_met (TBs ("spread", none) (by decide)) (lam_in (by decide)) (lam_uniq un (by decide)) (code_at F_spread) C_crowd_of C_nexts_of C_odds_of (by decide) (by decide) (by decide) F_spread) (fun _ _ _ _ _ _ us h => match us, h with | [_], _ => rfl)
  have C_need_like : Cal P w K mg base "need_like" ["one", "other"] 6 (pLike (Tl K)) := cal_of F_need_like g_need_like (f_need_like (k := 5) B C_need_table (by decide) F_need_like) (fun _ _ _ _ _ _ us h => match us, h with | [_, _], _ => rfl)
  have C_least_deeds : Cal P w K mg base "least_deeds" ["one", "other"] 8 (pLeast (Tl K)) := cal_of F_least_deeds g_least_deeds (f_least (k := 7) C_need_like C_spread C_crowd_of (by decide) (by decide) (by decide) F_least_deeds) (fun _ _ _ _ _ _ us h => match us, h with | [_, _], _ => rfl)
  have C_most_deeds : Cal P w K mg base "most_deeds" ["one", "other"] 8 (pMost (Tl K)) := cal_of F_most_deeds g_most_deeds (f_most (k := 7) C_need_like C_spread C_crowd_of (by decide) (by decide) (by decide) F_most_deeds) (fun _ _ _ _ _ _ us h => match us, h with | [_, _], _ => rfl)
  have C_is_row_of_deeds : Cal P w K mg base "is_row_of_deeds" ["value"] 6 (pDeeds (Tl K)) := cal_of F_is_row_of_deeds g_is_row_of_deeds (f_is_row_of_deeds (k := 5) B C_is_table C_crowd_of C_nexts_of (by decide) (by decide) (by decide) F_is_row_of_deeds) (fun _ _ _ _ _ _ us h => match us, h with | [_], _ => rfl)
  have C_steps_of : Cal P w K mg base "steps_of" ["told"] 4 (pSteps w (Tl K)) := cal_of F_steps_of g_steps_of (f_steps_of (k := 3) B C_odds_of C_laid C_crowd_of (by decide) (by decide) (by decide) F_steps_of) (fun _ _ _ _ _ _ us h => match us, h with | [_], _ => rfl)
  have C_worths_of : Cal P w K mg base "worths_of" ["table"] 8 (pWorths w (Tl K)) := cal_of F_worths_of g_worths_of (f_worths (k := 7) less B (TBs ("worths_of", none) (by decide)) (lam_in (by decide)) (lam_uniq un (by decide)) (code_at F_worths_of) C_spread C_nexts_of C_odds_of (by decide) (by decide) (by decide) F_worths_of) (fun _ _ _ _ _ _ us h => match us, h with | [_], _ => rfl)
  have C_worth : Cal P w K mg base "worth" ["table"] 9 (pWorth (Tl K)) := cal_of F_worth g_worth (f_worth (k := 8) C_need_table C_worths_of C_crowd_of (by decide) (by decide) (by decide) F_worth) (fun _ _ _ _ _ _ us h => match us, h with | [_], _ => rfl)
  have C_first_wins : Cal P w K mg base "first_wins" ["table"] 9 (pFirst (Tl K)) := cal_of F_first_wins g_first_wins (f_first_wins (k := 8) C_need_table C_worths_of C_crowd_of (by decide) (by decide) (by decide) F_first_wins) (fun _ _ _ _ _ _ us h => match us, h with | [_], _ => rfl)
  have C_winning_next : Cal P w K mg base "winning_next" ["table"] 9 (pWinning (Tl K)) := cal_of F_winning_next g_winning_next (f_winning (k := 8) nextC C_need_table C_worths_of C_nexts_of (by decide) (by decide) (by decide) F_winning_next) (fun _ _ _ _ _ _ us h => match us, h with | [_], _ => rfl)
  have C_both_games : Cal P w K mg base "both_games" ["one", "other"] 10 (pBoth (Tl K)) := cal_of F_both_games g_both_games (f_both (k := 9) C_need_table C_worth (by decide) (by decide) F_both_games) (fun _ _ _ _ _ _ us h => match us, h with | [_, _], _ => rfl)
  have C_lengths_of : Cal P w K mg base "lengths_of" ["table"] 9 (pLengths w (Tl K)) := cal_of F_lengths_of g_lengths_of (f_lengths (k := 8) less B (TBs ("lengths_of", none) (by decide)) (lam_in (by decide)) (lam_uniq un (by decide)) (code_at F_lengths_of) C_worths_of C_nexts_of C_odds_of (by decide) (by decide) (by decide) F_lengths_of) (fun _ _ _ _ _ _ us h => match us, h with | [_], _ => rfl)
  have C_game_length : Cal P w K mg base "game_length" ["table"] 10 (pGame (Tl K)) := cal_of F_game_length g_game_length (f_game (k := 9) C_need_table C_lengths_of C_crowd_of (by decide) (by decide) (by decide) F_game_length) (fun _ _ _ _ _ _ us h => match us, h with | [_], _ => rfl)
  have C_best_play : Cal P w K mg base "best_play" ["table"] 10 (pPlay (Tl K)) := cal_of F_best_play g_best_play (f_best (k := 9) less B C_need_table C_worths_of C_lengths_of C_crowd_of C_nexts_of (by decide) (by decide) (by decide) (by decide) (by decide) F_best_play) (fun _ _ _ _ _ _ us h => match us, h with | [_], _ => rfl)
  have C_shows_play : Cal P w K mg base "shows_play" ["table", "value"] 10 (pShowsPlay (Tl K)) := cal_of F_shows_play g_shows_play (f_shows_play (k := 9) less B C_need_table C_worths_of C_lengths_of C_crowd_of C_is_row_of_deeds (by decide) (by decide) (by decide) (by decide) (by decide) F_shows_play) (fun _ _ _ _ _ _ us h => match us, h with | [_, _], _ => rfl)
  have C_is_written : Cal P w K mg base "is_written" ["value"] 6 (pDeeds (Tl K)) := cal_of F_is_written g_is_written (f_is_written (k := 5) B C_is_table C_crowd_of (by decide) (by decide) F_is_written) (fun _ _ _ _ _ _ us h => match us, h with | [_], _ => rfl)
  have C_is_down : Cal P w K mg base "is_down" ["value"] 7 (pDeeds (Tl K)) := cal_of F_is_down g_is_down (f_is_down (k := 6) B C_is_written C_nexts_of (by decide) (by decide) F_is_down) (fun _ _ _ _ _ _ us h => match us, h with | [_], _ => rfl)
  have C_shows_to_tower : Cal P w K mg base "shows_to_tower" ["table", "value"] 8 (pShowsTower (Tl K)) := cal_of F_shows_to_tower g_shows_to_tower (f_shows_to_tower (k := 7) C_need_table C_is_down C_crowd_of C_tower_of (by decide) (by decide) (by decide) (by decide) F_shows_to_tower) (fun _ _ _ _ _ _ us h => match us, h with | [_, _], _ => rfl)
  have C_is_order : Cal P w K mg base "is_order" ["value", "many"] 2 (pIsOrder (Tl K)) := cal_of F_is_order g_is_order (f_is_order (k := 1) B C_tuple_ofN C_whole (by decide) (by decide) F_is_order) (fun _ _ _ _ _ _ us h => match us, h with | [_, _], _ => rfl)
  have C_need_order : Cal P w K mg base "need_order" ["table", "order"] 3 (pNeedOrder (Tl K)) := cal_of F_need_order g_need_order (f_need_order (k := 2) B C_is_order (by decide) F_need_order) (fun _ _ _ _ _ _ us h => match us, h with | [_, _], _ => rfl)
  have C_need_goods_order : Cal P w K mg base "need_goods_order" ["table", "order"] 3 (pNeedGoods (Tl K)) := cal_of F_need_goods_order g_need_goods_order (f_need_goods_order (k := 2) B C_is_order (by decide) F_need_goods_order) (fun _ _ _ _ _ _ us h => match us, h with | [_, _], _ => rfl)
  have C_goods_in_order : Cal P w K mg base "goods_in_order" ["table", "order"] 6 (pGoodsIn (Tl K)) := cal_of F_goods_in_order g_goods_in_order (f_goods_in (k := 5) B C_need_table C_need_goods_order (by decide) (by decide) F_goods_in_order) (fun _ _ _ _ _ _ us h => match us, h with | [_, _], _ => rfl)
  have C_people_in_order : Cal P w K mg base "people_in_order" ["table", "order"] 6 (pPeopleIn (Tl K)) := cal_of F_people_in_order g_people_in_order (f_people_in (k := 5) B C_need_table C_need_order (by decide) (by decide) F_people_in_order) (fun _ _ _ _ _ _ us h => match us, h with | [_, _], _ => rfl)
  have C_lowest : Cal P w K mg base "lowest" ["told"] 1 (pLowest (Tl K)) := cal_of F_lowest g_lowest (f_lowest (k := 0) F_lowest) (fun _ _ _ _ _ _ us h => match us, h with | [_], _ => rfl)
  have C_first_chance : Cal P w K mg base "first_chance" ["table"] 8 (pChance (Tl K)) := cal_of F_first_chance g_first_chance (f_chance (k := 7) B (TBs ("first_chance", none) (by decide)) (lam_in (by decide)) (lam_uniq un (by decide)) (code_at F_first_chance) C_need_table C_spread C_steps_of C_odds_of C_crowd_of C_lowest (by decide) (by decide) (by decide) (by decide) (by decide) (by decide) F_first_chance) (fun _ _ _ _ _ _ us h => match us, h with | [_], _ => rfl)
  have C_few : ∀ g c0, OkW g c0 → Cal P w K mg base "few" fewPs 20 (pFew w (Tl K) c0 15) := fun g c0 hok => c_few (k0 := 4) hok B C_nexts_of (by decide) F_few g_few 15 (Nat.le_refl _)
  have C_deeds_left : Cal P w K mg base "deeds_left" ["table", "most"] 21 (pDeedsLeft (Tl K)) := cal_of F_deeds_left g_deeds_left (f_deeds_left (k := 20) C_need_table C_need_number C_crowd_of C_few (by decide) (by decide) (by decide) (by decide) F_deeds_left) (fun _ _ _ _ _ _ us h => match us, h with | [_, _], _ => rfl)
  have C_taken : ∀ ns l, Cal P w K mg base "_law_taken" ["_law_row", "_law_many"] 1 (pTaken K ns l (Tl K)) := fun ns l => cal_of F__law_taken g__law_taken (f_taken (k := 0) B F__law_taken) (fun _ _ _ _ _ _ us h => match us, h with | [_, _], _ => rfl)
  have C_pick : ∀ ns l, Cal P w K mg base "_law_pick" ["_law_row", "_law_things"] 2 (pPick K ns l (Tl K)) := fun ns l => cal_of F__law_pick g__law_pick (f_pick (k := 1) B (C_taken ns l) (by decide) F__law_pick) (fun _ _ _ _ _ _ us h => match us, h with | [_, _], _ => rfl)
  have C_table : ∀ ns l, Cal P w K mg base "_law_table" ["_law_row", "_law_crowded", "_law_sorts", "_law_top"] 2 (pTable K ns l (Tl K)) := fun ns l => cal_of F__law_table g__law_table (f_table (k := 1) B (C_taken ns l) (by decide) F__law_table) (fun _ _ _ _ _ _ us h => match us, h with | [_, _, _, _], _ => rfl)
  have C_unlike : ∀ ns l, Cal P w K mg base "_law_unlike" ["_law_row", "_law_crowded", "_law_sorts"] 2 (pUnlike K ns l (Tl K)) := fun ns l => cal_of F__law_unlike g__law_unlike (f_unlike (k := 1) B (C_taken ns l) (by decide) F__law_unlike) (fun _ _ _ _ _ _ us h => match us, h with | [_, _, _], _ => rfl)
  exact f_law (k := 23) ⟨B, fun ns l => (C_pick ns l).mono (by decide), fun ns l => (C_table ns l).mono (by decide), fun ns l => (C_unlike ns l).mono (by decide), C_tower.mono (by decide), C_next_crowds.mono (by decide), C_worth.mono (by decide), C_first_wins.mono (by decide), C_winning_next.mono (by decide), C_both_games.mono (by decide), C_game_length.mono (by decide), C_least_deeds.mono (by decide), C_most_deeds.mono (by decide), C_best_play.mono (by decide), C_shows_play.mono (by decide), C_shows_to_tower.mono (by decide), C_deeds_left.mono (by decide), C_is_tower.mono (by decide), C_first_chance.mono (by decide), C_count_at_odds.mono (by decide), C_goods_in_order.mono (by decide), C_people_in_order.mono (by decide), C_crowd.mono (by decide)⟩ F
theorem law_at (w : World) (mg : Str → Option Value) (fAdr : Addr) (h : Heap) (Y : ∃ K : PySem.W.Frag, K.In h ∧ He.SaysX fa fn [] tf ex w h K) (G : h.Ns mainGlobals mg) (hmg : mg ("law" : Str) = some (.ref fAdr)) :
    ∃ K : PySem.W.Frag, K.In h ∧ LawAtS PySem.Challenge.rw_laytogether_k63_across_games w K CX0 24 63 "_law_script" mg fAdr h := by
  obtain ⟨K, KX, c⟩ := Y
  obtain ⟨fd, F⟩ := c.t.d.def_ 51 (d := d_law) rfl
  have F : FnP K "law" s_law (He.fAd K ("law", none)) fd := F
  have g0 : mg "law" = some (.ref (He.fAd K ("law", none))) := He.glo_ok KX G (c.t.d.fact 51 (f := .glo "law") rfl)
  have e := hmg.symm.trans g0
  cases e
  have bd := FunD.bindsA (ps := ["_law_script"]) F fun _ _ _ _ _ _ us hl => match us, hl with | [_], _ => rfl
  have mem : ∀ p ∈ tf.map (He.cT K), ∃ q ∈ tf, p = He.cT K q := fun p hp => by
    obtain ⟨q, hq, e⟩ := List.mem_map.mp hp
    exact ⟨q, hq, e.symm⟩
  refine ⟨K, KX, fd, tf.map (He.cT K), SpLaw K (Tl K), fun p hp => ?_, fun p hp => ?_, fun p hp => ?_, fun s v => bd s [v] rfl, fun H a ns hl hb hH hS => ⟨a, ns, rfl, hS, tabs_of (cs := []) fun p hp => hH _ (List.mem_map_of_mem hp), fun _ => rfl⟩, fun base Xb Gb TB => law_ok Xb Gb c (fun p hp => TB _ (List.mem_map_of_mem hp)) F⟩
  · obtain ⟨q, hq, rfl⟩ := mem p hp
    exact c.empty q hq
  · obtain ⟨q, hq, rfl⟩ := mem p hp
    exact c.out q hq
  · obtain ⟨q, hq, rfl⟩ := mem p hp
    exact PySem.W.codeHd_of_K KX (c.hd q hq)
end LT
/-! ## LtFinal -/
set_option Elab.async false
set_option linter.all false
set_option maxRecDepth 100000
set_option maxHeartbeats 0
open PySem PySem.W PySem.Calls PyProof.Rows
theorem PySem.Challenge.cw_laytogether_k63_across_games_holds : PySem.Challenge.rw_laytogether_k63_across_games.Holds := by
  w_on; o_law
  refine HandSHeadRun.head_any (r := LT.R) (q := view LT.R.prog [71]) (H := LT.hk) (ob := LT.ob) (M := 6000) (loose := LT.loose) (d := HandSHeadRun.topDef LT.R.prog 71) (kwd := []) LT.ob_eq
    (by kernel_rfl) (fun s => by kernel_rfl) LT.run (by kernel_rfl) (by kernel_rfl) (by kernel_rfl) (by rfl) (by first | assumption | decide +kernel) (by decide +kernel) ⟨rfl, rfl, rfl, rfl, rfl, by decide +kernel⟩ ?hw ?hc
  case hw => w_witness2
  case hc =>
    refine LamX.walk_ofTsE (l := PySem.Challenge.rw_laytogether_k63_across_games) (n := 63) (k := 24) (x := "_law_script") (CX := fun _ => L2.CX0) rfl (by decide) (by kernel_rfl) ⟨rfl, by decide, by decide⟩ ?F (fun _ _ _ _ _ z => z)
    intro w mg fa h Y G hmg0
    have hmg : mg ("law" : PySem.Str) = some (.ref fa) := by
      have e : (HandSHeadRun.topDef LT.R.prog 71).name = ("law" : PySem.Str) := by kernel_rfl
      rw [← e]
      exact hmg0
    exact LT.law_at w mg fa h Y G hmg
