import PyProof.Rows.All
import Wide.All
import OpenK.AllK
import Wide.FinOn
import KE.KStateDown
import Lean
import HandS.Base
import HandS.Call
import HandS.Ends
import HandS.More
import HandS.Words
import HandS.WordsExc
import HandS.Defaults
import HandS.Head0
import HandS.Head1
import HandS.Head2
import HandS.HeadEnd
import HandS.HeadHook1
import HandS.HeadHook2
import PySem.Challenge.RW_straightleast_k45_whole_mixed_tables_str
import HandS.ForMost
import HandS.Walk
import HandS.Evl
import HandS.Zip
import HandS.Codes
import HandS.TupAny
import HandS.Deep
import HandS.IsInst
import HandS.Conv
import HandS.Style
import HandS.Wide
import HandS.SetFor
import HandS.SortInts
import HandS.Strs
import KE.KIndexOf
import KE.DataMinMax
import KE.DatumOrd
import KE.SortData
import KE.GoesEnum
import HandS.DictTup
import KE.KDictWalk
import KE.KDictCopyH
set_option Elab.async false
set_option linter.all false
set_option maxRecDepth 100000
set_option maxHeartbeats 0
namespace Mix
open PySem PySem.Spec PyProof.Rows L2
/-! the text: where each def stands in the top -/
def top (i : Nat) : Stmt := PySem.Challenge.pw_straightleast_k45_whole_mixed_tables_str.main.body.getD i (.Pass ⟨0, 0, 0, 0⟩)
def dd8 : He.DefD := ⟨("is_integer", none), "is_integer", "is_integer", defArgs (top 8), defBody (top 8), defScope (top 8), [], []⟩
def dd9 : He.DefD := ⟨("is_within", none), "is_within", "is_within", defArgs (top 9), defBody (top 9), defScope (top 9), [], []⟩
def dd10 : He.DefD := ⟨("is_row_of", none), "is_row_of", "is_row_of", defArgs (top 10), defBody (top 10), defScope (top 10), [], []⟩
def dd11 : He.DefD := ⟨("are_integers", none), "are_integers", "are_integers", defArgs (top 11), defBody (top 11), defScope (top 11), [], []⟩
def dd12 : He.DefD := ⟨("are_numbers", none), "are_numbers", "are_numbers", defArgs (top 12), defBody (top 12), defScope (top 12), [], []⟩
def dd13 : He.DefD := ⟨("is_sequence", none), "is_sequence", "is_sequence", defArgs (top 13), defBody (top 13), defScope (top 13), [], []⟩
def dd14 : He.DefD := ⟨("are_rising", none), "are_rising", "are_rising", defArgs (top 14), defBody (top 14), defScope (top 14), [], []⟩
def dd15 : He.DefD := ⟨("are_indexes", none), "are_indexes", "are_indexes", defArgs (top 15), defBody (top 15), defScope (top 15), [], []⟩
def dd17 : He.DefD := ⟨("sequences", none), "sequences", "sequences", defArgs (top 17), defBody (top 17), defScope (top 17), [], []⟩
def dd18 : He.DefD := ⟨("in_sequence", none), "in_sequence", "in_sequence", defArgs (top 18), defBody (top 18), defScope (top 18), [], []⟩
def dd19 : He.DefD := ⟨("differences", none), "differences", "differences", defArgs (top 19), defBody (top 19), defScope (top 19), [], []⟩
def dd20 : He.DefD := ⟨("never_falls", none), "never_falls", "never_falls", defArgs (top 20), defBody (top 20), defScope (top 20), [], []⟩
def dd21 : He.DefD := ⟨("is_plain", none), "is_plain", "is_plain", defArgs (top 21), defBody (top 21), defScope (top 21), [], []⟩
def dd22 : He.DefD := ⟨("column_blocks", none), "column_blocks", "column_blocks", defArgs (top 22), defBody (top 22), defScope (top 22), [], []⟩
def dd23 : He.DefD := ⟨("first_columns_orderways", none), "first_columns", "first_columns", defArgs (top 23), defBody (top 23), defScope (top 23), [], []⟩
def dd25 : He.DefD := ⟨("every_columns", none), "every_columns", "every_columns", defArgs (top 25), defBody (top 25), defScope (top 25), [], []⟩
def dd26 : He.DefD := ⟨("first_of", none), "first_of", "first_of", defArgs (top 26), defBody (top 26), defScope (top 26), [], []⟩
def dd27 : He.DefD := ⟨("every_of", none), "every_of", "every_of", defArgs (top 27), defBody (top 27), defScope (top 27), [], []⟩
def dd28 : He.DefD := ⟨("like_blocks", none), "like_blocks", "like_blocks", defArgs (top 28), defBody (top 28), defScope (top 28), [], []⟩
def dd29 : He.DefD := ⟨("choices", none), "choices", "choices", defArgs (top 29), defBody (top 29), defScope (top 29), [], []⟩
def dd30 : He.DefD := ⟨("least_without", none), "least_without", "least_without", defArgs (top 30), defBody (top 30), defScope (top 30), [], []⟩
def dd32 : He.DefD := ⟨("width", none), "width", "width", defArgs (top 32), defBody (top 32), defScope (top 32), [], []⟩
def dd33 : He.DefD := ⟨("column_of", none), "column_of", "column_of", defArgs (top 33), defBody (top 33), defScope (top 33), [], []⟩
def dd34 : He.DefD := ⟨("gain_of", none), "gain_of", "gain_of", defArgs (top 34), defBody (top 34), defScope (top 34), [], []⟩
def dd35 : He.DefD := ⟨("gain_at", none), "gain_at", "gain_at", defArgs (top 35), defBody (top 35), defScope (top 35), [], []⟩
def dd36 : He.DefD := ⟨("gains_of", none), "gains_of", "gains_of", defArgs (top 36), defBody (top 36), defScope (top 36), [], []⟩
def dd37 : He.DefD := ⟨("first_paying", none), "first_paying", "first_paying", defArgs (top 37), defBody (top 37), defScope (top 37), [], []⟩
def dd38 : He.DefD := ⟨("is_straight_table", none), "is_straight_table", "is_straight_table", defArgs (top 38), defBody (top 38), defScope (top 38), [], []⟩
def dd39 : He.DefD := ⟨("turned_table", none), "turned_table", "turned_table", defArgs (top 39), defBody (top 39), defScope (top 39), [], []⟩
def dd40 : He.DefD := ⟨("lifted_table", none), "lifted_table", "lifted_table", defArgs (top 40), defBody (top 40), defScope (top 40), [], []⟩
def dd41 : He.DefD := ⟨("thinned_table", none), "thinned_table", "thinned_table", defArgs (top 41), defBody (top 41), defScope (top 41), [], []⟩
def dd44 : He.DefD := ⟨("is_table_form", none), "is_table_form", "is_table_form", defArgs (top 44), defBody (top 44), defScope (top 44), [], []⟩
def dd45 : He.DefD := ⟨("need_table", none), "need_table", "need_table", defArgs (top 45), defBody (top 45), defScope (top 45), [], []⟩
def dd46 : He.DefD := ⟨("need_indexes", none), "need_indexes", "need_indexes", defArgs (top 46), defBody (top 46), defScope (top 46), [], []⟩
def dd50 : He.DefD := ⟨("need_order", none), "need_order", "need_order", defArgs (top 50), defBody (top 50), defScope (top 50), [], []⟩
def dd51 : He.DefD := ⟨("need_few", none), "need_few", "need_few", defArgs (top 51), defBody (top 51), defScope (top 51), [], []⟩
def dd52 : He.DefD := ⟨("is_order_for", none), "is_order_for", "is_order_for", defArgs (top 52), defBody (top 52), defScope (top 52), [], []⟩
def dd53 : He.DefD := ⟨("reordered", none), "reordered", "reordered", defArgs (top 53), defBody (top 53), defScope (top 53), [], []⟩
def dd54 : He.DefD := ⟨("first_order", none), "first_order", "first_order", defArgs (top 54), defBody (top 54), defScope (top 54), [], []⟩
def dd55 : He.DefD := ⟨("all_orders", none), "all_orders", "all_orders", defArgs (top 55), defBody (top 55), defScope (top 55), [], []⟩
def dd56 : He.DefD := ⟨("like_rows", none), "like_rows", "like_rows", defArgs (top 56), defBody (top 56), defScope (top 56), [], []⟩
def dd57 : He.DefD := ⟨("no_order", none), "no_order", "no_order", defArgs (top 57), defBody (top 57), defScope (top 57), [], []⟩
def dd59 : He.DefD := ⟨("least_place", none), "least_place", "least_place", defArgs (top 59), defBody (top 59), defScope (top 59), [], []⟩
def dd60 : He.DefD := ⟨("first_columns_leastways", none), "first_columns", "first_columns", defArgs (top 60), defBody (top 60), defScope (top 60), [], []⟩
def dd63 : He.DefD := ⟨("firsts", none), "firsts", "firsts", defArgs (top 63), defBody (top 63), defScope (top 63), [], []⟩
def dd65 : He.DefD := ⟨("is_straight", none), "is_straight", "is_straight", defArgs (top 65), defBody (top 65), defScope (top 65), [], []⟩
def dd66 : He.DefD := ⟨("need_numbers", none), "need_numbers", "need_numbers", defArgs (top 66), defBody (top 66), defScope (top 66), [], []⟩
def dd67 : He.DefD := ⟨("lifted", none), "lifted", "lifted", defArgs (top 67), defBody (top 67), defScope (top 67), [], []⟩
def dd68 : He.DefD := ⟨("turned", none), "turned", "turned", defArgs (top 68), defBody (top 68), defScope (top 68), [], []⟩
def dd69 : He.DefD := ⟨("thinned", none), "thinned", "thinned", defArgs (top 69), defBody (top 69), defScope (top 69), [], []⟩
def dd71 : He.DefD := ⟨("_law_feed", none), "_law_feed", "_law_feed", defArgs (top 71), defBody (top 71), defScope (top 71), [], []⟩
def dd72 : He.DefD := ⟨("_law_draw", none), "_law_draw", "_law_draw", defArgs (top 72), defBody (top 72), defScope (top 72), [], []⟩
def dd73 : He.DefD := ⟨("_law_one", none), "_law_one", "_law_one", defArgs (top 73), defBody (top 73), defScope (top 73), [], []⟩
def dd74 : He.DefD := ⟨("_law_mixed", none), "_law_mixed", "_law_mixed", defArgs (top 74), defBody (top 74), defScope (top 74), [], []⟩
def dd75 : He.DefD := ⟨("_law_built", none), "_law_built", "_law_built", defArgs (top 75), defBody (top 75), defScope (top 75), [], []⟩
def dd76 : He.DefD := ⟨("_law_sized", none), "_law_sized", "_law_sized", defArgs (top 76), defBody (top 76), defScope (top 76), [], []⟩
def dd77 : He.DefD := ⟨("_law_straight", none), "_law_straight", "_law_straight", defArgs (top 77), defBody (top 77), defScope (top 77), [], []⟩
def dd78 : He.DefD := ⟨("_law_placed", none), "_law_placed", "_law_placed", defArgs (top 78), defBody (top 78), defScope (top 78), [], []⟩
def dd79 : He.DefD := ⟨("_law_some", none), "_law_some", "_law_some", defArgs (top 79), defBody (top 79), defScope (top 79), [], []⟩
def dd80 : He.DefD := ⟨("_law_side_by_side", none), "_law_side_by_side", "_law_side_by_side", defArgs (top 80), defBody (top 80), defScope (top 80), [], []⟩
def dd81 : He.DefD := ⟨("_law_exchanged", none), "_law_exchanged", "_law_exchanged", defArgs (top 81), defBody (top 81), defScope (top 81), [], []⟩
def dd82 : He.DefD := ⟨("_law_blocks_right", none), "_law_blocks_right", "_law_blocks_right", defArgs (top 82), defBody (top 82), defScope (top 82), [], []⟩
def dd83 : He.DefD := ⟨("law", none), "law", "law", defArgs (top 83), defBody (top 83), defScope (top 83), [], []⟩
def fn : List He.DefD := [dd8, dd9, dd10, dd11, dd12, dd13, dd14, dd15, dd17, dd18, dd19, dd20, dd21, dd22, dd23, dd25, dd26, dd27, dd28, dd29, dd30, dd32, dd33, dd34, dd35, dd36, dd37, dd38, dd39, dd40, dd41, dd44, dd45, dd46, dd50, dd51, dd52, dd53, dd54, dd55, dd56, dd57, dd59, dd60, dd63, dd65, dd66, dd67, dd68, dd69, dd71, dd72, dd73, dd74, dd75, dd76, dd77, dd78, dd79, dd80, dd81, dd82, dd83]
def fa1 : List He.Fa := [.glo "is_integer", .glo "is_within", .glo "is_row_of", .glo "are_integers", .glo "are_numbers", .glo "is_sequence", .glo "are_rising", .glo "are_indexes", .glo "sequences", .glo "in_sequence", .glo "differences", .glo "never_falls", .glo "is_plain", .glo "column_blocks", .glo "first_columns_orderways", .glo "every_columns", .glo "first_of", .glo "every_of", .glo "like_blocks", .glo "choices", .glo "least_without", .glo "width", .glo "column_of", .glo "gain_of", .glo "gain_at", .glo "gains_of", .glo "first_paying", .glo "is_straight_table", .glo "turned_table", .glo "lifted_table", .glo "thinned_table", .glo "is_table_form", .glo "need_table", .glo "need_indexes", .glo "need_order", .glo "need_few", .glo "is_order_for", .glo "reordered", .glo "first_order", .glo "all_orders"]
def fa2 : List He.Fa := [.glo "like_rows", .glo "no_order", .glo "least_place", .glo "first_columns_leastways", .glo "firsts", .glo "is_straight", .glo "need_numbers", .glo "lifted", .glo "turned", .glo "thinned", .glo "_law_feed", .glo "_law_draw", .glo "_law_one", .glo "_law_mixed", .glo "_law_built", .glo "_law_sized", .glo "_law_straight", .glo "_law_placed", .glo "_law_some", .glo "_law_side_by_side", .glo "_law_exchanged", .glo "_law_blocks_right", .glo "law", .free "isinstance", .free "int", .free "bool", .free "tuple", .free "len", .free "all", .free "set", .free "zip", .free "range", .free "list", .free "enumerate", .free "sorted", .free "min", .free "max", .free "sum", .int "MOST_ROWS" 8, .int "MOST_FIRST" 6]
def fa3 : List He.Fa := [.int "MOST_ALL" 5]
def fa : List He.Fa := fa1 ++ fa2 ++ fa3
def lo1 : List Str := ["LeastError", "BadTable", "BadNumbers", "BadIndexes", "BadOrder", "TooMany", "is_integer", "is_within", "is_row_of", "are_integers", "are_numbers", "is_sequence", "are_rising", "are_indexes", "sequences", "in_sequence", "differences", "never_falls", "is_plain", "column_blocks", "first_columns", "first_columns_orderways", "every_columns", "first_of", "every_of", "like_blocks", "choices", "least_without", "width", "column_of"]
def lo2 : List Str := ["gain_of", "gain_at", "gains_of", "first_paying", "is_straight_table", "turned_table", "lifted_table", "thinned_table", "MOST_ROWS", "is_table_form", "need_table", "need_indexes", "MOST_FIRST", "MOST_ALL", "need_order", "need_few", "is_order_for", "reordered", "first_order", "all_orders", "like_rows", "no_order", "least_place", "first_columns_leastways", "firsts", "is_straight", "need_numbers", "lifted", "turned", "thinned"]
def lo3 : List Str := ["_law_feed", "_law_draw", "_law_one", "_law_mixed", "_law_built", "_law_sized", "_law_straight", "_law_placed", "_law_some", "_law_side_by_side", "_law_exchanged", "_law_blocks_right"]
def lo : List Str := lo1 ++ lo2 ++ lo3
abbrev R : PySem.W.OpenRow := PySem.W.OpenLaw.row PySem.Challenge.rw_straightleast_k45_whole_mixed_tables_str
abbrev hk : PySem.W.Hook := He.hookD 4 fa fn
def ob (s : PySem.W.SharedT) : He.AlD := He.obsDG 4 fa fn (HandSHeadRun.getT s)
theorem ob_eq (s : PySem.W.SharedT) : ob s = hk.obs s.abs := He.obsDG_eq (HandSHeadRun.getT_eq s)
theorem run (w : World) : HandSHeadRun.RunEq R (PySem.W.view R.prog [83]) hk ob 6000 lo w := by
  intro os
  kernel_rfl
end Mix

/-! my data layer: pure code as data in, data out -/
namespace DL
open PySem PySem.Spec L2
open Evl (Ex ex_l ex_t)

/-- how a tuple is known: by its object (which has no own dict) | as a tracked tuple | as one of the two -/
inductive Sty where
  | s | p | a
/-- plain data, the tuples by how they are known -/
inductive Dat where
  | none
  | bool (b : Bool)
  | int (i : Int)
  | list (ds : List Dat)
  | tuple (s : Sty) (ds : List Dat)
def StyOk : Sty → Hp → Addr → List V → Prop
  | .s, H, a, xs => ∃ o : Obj, o.dict = none ∧ H a = some (.frz o (.tup xs))
  | .p, H, a, xs => H a = some (.tup xs)
  | .a, H, a, xs => Rd H a (.tup xs)
theorem StyOk.rd : ∀ {s : Sty} {H : Hp} {a : Addr} {xs : List V}, StyOk s H a xs → Rd H a (.tup xs)
  | .s, _, _, _, ⟨o, _, h⟩ => .inr ⟨o, h⟩
  | .p, _, _, _, h => .inl h
  | .a, _, _, _, h => h
theorem StyOk.t {K : PySem.W.Frag} {s : Sty} {H : Hp} {a : Addr} {xs : List V} (h : StyOk s H a xs) : SqT K H a xs := .inl h.rd
theorem StyOk.ext {H H' : Hp} (e : Ex H H') : ∀ {s : Sty} {a : Addr} {xs : List V}, StyOk s H a xs → StyOk s H' a xs
  | .s, _, _, ⟨o, h1, h⟩ => ⟨o, h1, e _ _ h⟩
  | .p, _, _, h => e _ _ h
  | .a, _, _, h => Evl.ex_rd e h
mutual
def Dat.py : Dat → PyData
  | .none => .none
  | .bool b => .bool b
  | .int i => .int i
  | .list ds => .list (Dat.pys ds)
  | .tuple _ ds => .tuple (Dat.pys ds)
def Dat.pys : List Dat → List PyData
  | [] => []
  | d :: ds => Dat.py d :: Dat.pys ds
end
section
variable {K : PySem.W.Frag}
mutual
inductive Dr (K : PySem.W.Frag) (H : Hp) : V → Dat → Prop
  | non : Dr K H .non .none
  | bl (b : Bool) : Dr K H (.bl b) (.bool b)
  | int (i : Int) : Dr K H (.int i) (.int i)
  | lst {a : Addr} {xs : List V} {ds : List Dat} (h : SqL K H a xs) (t : DrAll K H xs ds) : Dr K H (.ref a) (.list ds)
  | tup {s : Sty} {a : Addr} {xs : List V} {ds : List Dat} (h : StyOk s H a xs) (t : DrAll K H xs ds) : Dr K H (.ref a) (.tuple s ds)
inductive DrAll (K : PySem.W.Frag) (H : Hp) : List V → List Dat → Prop
  | nil : DrAll K H [] []
  | cons {v : V} {vs : List V} {d : Dat} {ds : List Dat} (h : Dr K H v d) (t : DrAll K H vs ds) : DrAll K H (v :: vs) (d :: ds)
end
mutual
theorem dr_dp {H : Hp} : ∀ (d : Dat) (v : V), Dr K H v d → Dp K H v d.py
  | .none, _, h => by cases h; exact .non
  | .bool b, _, h => by cases h; exact .bl b
  | .int i, _, h => by cases h; exact .int i
  | .list ds, _, h => by
    cases h with
    | lst hs ha => exact .lst hs (drAll_dp ds _ ha)
  | .tuple s ds, _, h => by
    cases h with
    | tup hs ha => exact .tup hs.t (drAll_dp ds _ ha)
theorem drAll_dp {H : Hp} : ∀ (ds : List Dat) (vs : List V), DrAll K H vs ds → DpAll K H vs (Dat.pys ds)
  | [], _, h => by cases h; exact .nil
  | d :: ds, _, h => by
    cases h with
    | cons h1 h2 => exact .cons (dr_dp d _ h1) (drAll_dp ds _ h2)
end
mutual
theorem dp_ext {H H' : Hp} (e : Ex H H') : ∀ (d : Dat) (v : V), Dr K H v d → Dr K H' v d
  | .none, _, h => by cases h; exact .non
  | .bool b, _, h => by cases h; exact .bl b
  | .int i, _, h => by cases h; exact .int i
  | .list ds, _, h => by
    cases h with
    | lst hs ha => exact .lst (ex_l e hs) (dpAll_ext e ds _ ha)
  | .tuple s ds, _, h => by
    cases h with
    | tup hs ha => exact .tup (hs.ext e) (dpAll_ext e ds _ ha)
theorem dpAll_ext {H H' : Hp} (e : Ex H H') : ∀ (ds : List Dat) (vs : List V), DrAll K H vs ds → DrAll K H' vs ds
  | [], _, h => by cases h; exact .nil
  | d :: ds, _, h => by
    cases h with
    | cons h1 h2 => exact .cons (dp_ext e d _ h1) (dpAll_ext e ds _ h2)
end
theorem Dr.ext {H H' : Hp} {d : Dat} {v : V} (h : Dr K H v d) (e : Ex H H') : Dr K H' v d := dp_ext e d v h
theorem DrAll.ext {H H' : Hp} {ds : List Dat} {vs : List V} (h : DrAll K H vs ds) (e : Ex H H') : DrAll K H' vs ds := dpAll_ext e ds vs h

theorem dpAll_len {H : Hp} : ∀ {ds : List Dat} {vs : List V}, DrAll K H vs ds → vs.length = ds.length
  | [], _, h => by cases h; rfl
  | d :: ds, _, h => by
    cases h with
    | cons h1 h2 => simp [dpAll_len h2]
theorem dpAll_get {H : Hp} : ∀ {ds : List Dat} {vs : List V} {j : Nat} {z : Dat}, DrAll K H vs ds → ds[j]? = some z → ∃ v, vs[j]? = some v ∧ Dr K H v z
  | [], _, _, _, _, e => by simp at e
  | d :: ds, _, 0, z, h, e => by
    cases h with
    | cons h1 h2 =>
      simp at e; subst e
      exact ⟨_, rfl, h1⟩
  | d :: ds, _, j + 1, z, h, e => by
    cases h with
    | cons h1 h2 =>
      simp at e
      obtain ⟨v, h3, h4⟩ := dpAll_get h2 e
      exact ⟨v, by simpa using h3, h4⟩
theorem dpAll_getV {H : Hp} : ∀ {ds : List Dat} {vs : List V} {j : Nat} {v : V}, DrAll K H vs ds → vs[j]? = some v → ∃ z, ds[j]? = some z ∧ Dr K H v z
  | [], _, _, _, h, e => by cases h; simp at e
  | d :: ds, _, 0, z, h, e => by
    cases h with
    | cons h1 h2 =>
      simp at e; subst e
      exact ⟨_, rfl, h1⟩
  | d :: ds, _, j + 1, z, h, e => by
    cases h with
    | cons h1 h2 =>
      simp at e
      obtain ⟨v, h3, h4⟩ := dpAll_getV h2 e
      exact ⟨v, by simpa using h3, h4⟩
theorem dpAll_app {H : Hp} : ∀ {ds es : List Dat} {vs us : List V}, DrAll K H vs ds → DrAll K H us es → DrAll K H (vs ++ us) (ds ++ es)
  | [], _, _, _, h, h' => by cases h; exact h'
  | d :: ds, _, _, _, h, h' => by
    cases h with
    | cons h1 h2 => exact .cons h1 (dpAll_app h2 h')
theorem dpAll_take {H : Hp} : ∀ {ds : List Dat} {vs : List V} (n : Nat), DrAll K H vs ds → DrAll K H (vs.take n) (ds.take n)
  | _, _, 0, _ => by simp; exact .nil
  | [], _, n + 1, h => by cases h; exact .nil
  | d :: ds, _, n + 1, h => by
    cases h with
    | cons h1 h2 => exact .cons h1 (dpAll_take n h2)
theorem dpAll_drop {H : Hp} : ∀ {ds : List Dat} {vs : List V} (n : Nat), DrAll K H vs ds → DrAll K H (vs.drop n) (ds.drop n)
  | _, _, 0, h => h
  | [], _, n + 1, h => by cases h; exact .nil
  | d :: ds, _, n + 1, h => by
    cases h with
    | cons h1 h2 => exact dpAll_drop n h2
theorem dpAll_ints {H : Hp} : ∀ {ns : List Int} {vs : List V}, DrAll K H vs (ns.map .int) → vs = ns.map V.int
  | [], _, h => by cases h; rfl
  | n :: ns, _, h => by
    cases h with
    | cons h1 h2 => cases h1; rw [dpAll_ints h2]; rfl
theorem dpAll_ofInts {H : Hp} : ∀ {ns : List Int}, DrAll K H (ns.map V.int) (ns.map .int)
  | [] => .nil
  | n :: ns => .cons (.int n) dpAll_ofInts
theorem dpAll_bools {H : Hp} : ∀ {ns : List Bool} {vs : List V}, DrAll K H vs (ns.map .bool) → vs = ns.map V.bl
  | [], _, h => by cases h; rfl
  | n :: ns, _, h => by
    cases h with
    | cons h1 h2 => cases h1; rw [dpAll_bools h2]; rfl
theorem sqT_of {H : Hp} {a : Addr} {xs : List V} (h : H a = some (.tup xs)) : SqT K H a xs := .inl (.inl h)
theorem sqL_of {H : Hp} {a : Addr} {xs : List V} (h : H a = some (.lst xs)) : SqL K H a xs := .inl (.inl h)
end

/-! ### extensions -/
structure Xt (G H G2 H2 : Hp) : Prop where
  gg : Ex G G2
  hh : Ex H H2
  gh : Ex G2 H2
  fr : ∀ a o, G a = none → H a = some o → Mut (some o) → G2 a = none
theorem Xt.refl {G H : Hp} (e : Ex G H) : Xt G H G H := ⟨Ex.refl G, Ex.refl H, e, fun _ _ h _ _ => h⟩
theorem ex_ne {H H2 : Hp} (e : Ex H H2) {a : Addr} (h : H a ≠ none) : H2 a ≠ none := fun q => by
  cases q1 : H a with
  | none => exact h q1
  | some o =>
    rw [e a o q1] at q
    cases q
theorem Xt.trans {G H G2 H2 G3 H3 : Hp} (x : Xt G H G2 H2) (y : Xt G2 H2 G3 H3) : Xt G H G3 H3 :=
  ⟨x.gg.trans y.gg, x.hh.trans y.hh, y.gh, fun a o h1 h2 h3 => y.fr a o (x.fr a o h1 h2 h3) (x.hh a o h2) h3⟩
theorem ex_none {G H : Hp} (e : Ex G H) {p : Addr} (h : H p = none) : G p = none := by
  cases q : G p with
  | none => rfl
  | some o => rw [e p o q] at h; cases h
theorem ex_upd {G H : Hp} (e : Ex G H) (p : Addr) (o : HO) : Ex (upd G p o) (upd H p o) := fun a u h => by
  by_cases hp : a = p
  · subst hp; rw [upd_same] at h ⊢; exact h
  · rw [upd_ne hp] at h ⊢; exact e a u h
theorem Xt.new {G H : Hp} (e : Ex G H) {p : Addr} {o : HO} (h : H p = none) : Xt G H (upd G p o) (upd H p o) :=
  ⟨Ex.new (ex_none e h), Ex.new h, ex_upd e p o, fun a u h1 h2 _ => by
    have hp : a ≠ p := fun q => by subst q; rw [h] at h2; cases h2
    rw [upd_ne hp]; exact h1⟩

/-! ### slots -/
def kE (k : List Int) : List Key := k.map Sum.inl
/-- where k stands among S -/
def idxs (S : List (List Int)) (k : List Int) : List Nat := (List.range S.length).filter fun i => decide (S[i]? = some k)
/-- the dict's entries vs: for each of S where it stands -/
def TallyOk (K : PySem.W.Frag) (G : Hp) (vs : List (List Key × V)) (S : List (List Int)) : Prop :=
  ∃ ks : List (List Int), vs.map (·.1) = ks.map kE ∧ ks.Nodup ∧ (∀ k, k ∈ ks ↔ k ∈ S) ∧ ks.length ≤ S.length ∧ ∀ k ∈ ks, ∃ v, valV vs (kE k) = some v ∧ Dr K G v (.tuple .s ((idxs S k).map fun i : Nat => .int (i : Int)))
inductive SD where
  | d (x : Dat)
  | r (v : V)
  | t (S : List (List Int))
abbrev Sl := List (Option SD)
def Slot1 (K : PySem.W.Frag) (G : Hp) : Option V → Option SD → Prop
  | _, none => True
  | some v, some (.d x) => Dr K G v x
  | some v, some (.r u) => v = u
  | some v, some (.t S) => ∃ D vs, v = .ref D ∧ G D = some (.dT vs) ∧ TallyOk K G vs S
  | none, some _ => False
inductive SlOk (K : PySem.W.Frag) (G : Hp) : St → Sl → Prop
  | nil : SlOk K G [] []
  | cons {o : Option V} {s : Option SD} {σ : St} {δ : Sl} : Slot1 K G o s → SlOk K G σ δ → SlOk K G (o :: σ) (s :: δ)
section
variable {K : PySem.W.Frag}
theorem TallyOk.ext {G G2 : Hp} (e : Ex G G2) {vs : List (List Key × V)} {S : List (List Int)} (h : TallyOk K G vs S) : TallyOk K G2 vs S := by
  obtain ⟨ks, h1, h2, h3, h4, h5⟩ := h
  exact ⟨ks, h1, h2, h3, h4, fun k hk => by obtain ⟨v, a, b⟩ := h5 k hk; exact ⟨v, a, b.ext e⟩⟩
theorem slot1_ext {G G2 : Hp} (e : Ex G G2) : ∀ {o : Option V} {s : Option SD}, Slot1 K G o s → Slot1 K G2 o s
  | _, none, _ => trivial
  | some v, some (.d x), h => Dr.ext (show Dr K G v x from h) e
  | some v, some (.r u), h => h
  | some v, some (.t S), ⟨D, vs, h1, h2, h3⟩ => ⟨D, vs, h1, e _ _ h2, h3.ext e⟩
  | none, some (.d _), h => h
  | none, some (.r _), h => h
  | none, some (.t _), h => h
theorem SlOk.ext {G G2 : Hp} (e : Ex G G2) : ∀ {σ : St} {δ : Sl}, SlOk K G σ δ → SlOk K G2 σ δ
  | _, _, .nil => .nil
  | _, _, .cons h t => .cons (slot1_ext e h) (SlOk.ext e t)
theorem SlOk.get {G : Hp} : ∀ {σ : St} {δ : Sl} {i : Nat} {s : SD}, SlOk K G σ δ → δ[i]? = some (some s) → ∃ v, σ[i]? = some (some v) ∧ Slot1 K G (some v) (some s)
  | _, _, _, _, .nil, e => by simp at e
  | o :: _, s' :: _, 0, s, .cons h t, e => by
    simp at e; subst e
    cases o with
    | none => cases s <;> exact h.elim
    | some v => exact ⟨v, rfl, h⟩
  | _, _, i + 1, s, .cons h t, e => by
    simp at e
    obtain ⟨v, h1, h2⟩ := SlOk.get t e
    exact ⟨v, by simpa using h1, h2⟩
theorem SlOk.set {G : Hp} {o : Option V} {s : Option SD} (h : Slot1 K G o s) : ∀ {σ : St} {δ : Sl} (i : Nat), SlOk K G σ δ → SlOk K G (σ.set i o) (δ.set i s)
  | _, _, _, .nil => .nil
  | _, _, 0, .cons _ t => .cons h t
  | _, _, i + 1, .cons q t => .cons q (SlOk.set h i t)
def wipeD (δ : Sl) : List Nat → Sl
  | [] => δ
  | v :: vs => (wipeD δ vs).set v none
theorem SlOk.wipe {G : Hp} {σ : St} {δ : Sl} (h : SlOk K G σ δ) : ∀ vs : List Nat, SlOk K G (wipe σ vs) (wipeD δ vs)
  | [] => h
  | v :: vs => SlOk.set (o := none) (s := none) trivial v (SlOk.wipe h vs)
/-- the slots told less of -/
def Weak (δ δ' : Sl) : Prop := ∀ (K : PySem.W.Frag) (G : Hp) (σ : St), SlOk K G σ δ → SlOk K G σ δ'
theorem Weak.refl (δ : Sl) : Weak δ δ := fun _ _ _ h => h
theorem Weak.trans {a b c : Sl} (x : Weak a b) (y : Weak b c) : Weak a c := fun K G σ h => y K G σ (x K G σ h)
theorem Weak.cons {δ δ' : Sl} (s : Option SD) (w : Weak δ δ') : Weak (s :: δ) (s :: δ') := fun K G σ h => by
  cases h with
  | cons h t => exact .cons h (w K G _ t)
theorem Weak.drop {δ δ' : Sl} (s : Option SD) (w : Weak δ δ') : Weak (s :: δ) (none :: δ') := fun K G σ h => by
  cases h with
  | cons h t => exact .cons trivial (w K G _ t)
theorem Weak.nil : Weak [] [] := Weak.refl _
theorem SlOk.start {G : Hp} : ∀ {vs : List V} {ds : List Dat}, DrAll K G vs ds → ∀ n : Nat, SlOk K G (vs.map some ++ List.replicate n none) (ds.map (fun d => some (SD.d d)) ++ List.replicate n none)
  | _, [], h, n => by
    cases h
    show SlOk K G (List.replicate n none) (List.replicate n none)
    induction n with
    | zero => exact .nil
    | succ n ih => exact .cons trivial ih
  | _, d :: ds, h, n => by
    cases h with
    | cons h1 h2 => exact .cons h1 (SlOk.start h2 n)

/-! wipe and set -/
theorem wipe_get (σ : St) : ∀ (vs : List Nat) (i : Nat), (wipe σ vs)[i]? = if i ∈ vs ∧ i < σ.length then some none else σ[i]?
  | [], i => by simp [L2.wipe]
  | v :: vs, i => by
    unfold L2.wipe
    rw [List.getElem?_set, wipe_get σ vs i, wipe_length]
    by_cases hv : v = i
    · subst hv
      by_cases hl : v < σ.length
      · simp [hl]
      · simp [hl]
    · have hv' : ¬ i = v := fun e => hv e.symm
      simp [hv, hv']
theorem wipe_set {σ : St} {vs : List Nat} {j : Nat} {o : Option V} (h : j ∈ vs) : wipe (σ.set j o) vs = wipe σ vs := by
  apply List.ext_getElem?
  intro i
  rw [wipe_get, wipe_get, List.length_set]
  by_cases hi : i ∈ vs ∧ i < σ.length
  · rw [if_pos hi, if_pos hi]
  · rw [if_neg hi, if_neg hi, List.getElem?_set]
    by_cases hj : j = i
    · subst hj
      have hl : ¬ j < σ.length := fun q => hi ⟨h, q⟩
      simp [hl]
    · simp [hj]
theorem wipe_wipe (σ : St) (vs : List Nat) : wipe (wipe σ vs) vs = wipe σ vs := by
  apply List.ext_getElem?
  intro i
  rw [wipe_get, wipe_length, wipe_get]
  by_cases hi : i ∈ vs ∧ i < σ.length
  · simp [hi]
  · simp [hi]
end
end DL

/-! my data layer: expressions -/
namespace DL
open PySem PySem.Spec L2
open Evl (Ex ex_l ex_t)

section
variable (K : PySem.W.Frag)
/-- te gives the data d | some data of which P holds | tests, arguments, parts of slices -/
def E1 (te : TE) (δ : Sl) (d : Dat) : Prop := ∀ (σ : L2.St) (G H : Hp), SlOk K G σ δ → Ex G H → ∀ Q : VK, (∀ v G2 H2, Xt G H G2 H2 → Dr K G2 v d → Q v H2) → te σ H Q
def ER (te : TE) (δ : Sl) (P : Dat → Prop) : Prop := ∀ (σ : L2.St) (G H : Hp), SlOk K G σ δ → Ex G H → ∀ Q : VK, (∀ v G2 H2 d, Xt G H G2 H2 → Dr K G2 v d → P d → Q v H2) → te σ H Q
def T1 (tt : TT) (δ : Sl) (b : Bool) : Prop := ∀ (σ : L2.St) (G H : Hp), SlOk K G σ δ → Ex G H → ∀ Q : Bool → Hp → Prop, (∀ G2 H2, Xt G H G2 H2 → Q b H2) → tt σ H Q
def A1 (ta : TA) (δ : Sl) (ds : List Dat) : Prop := ∀ (σ : L2.St) (G H : Hp), SlOk K G σ δ → Ex G H → ∀ Q : List V → Hp → Prop, (∀ vs G2 H2, Xt G H G2 H2 → DrAll K G2 vs ds → Q vs H2) → ta σ H Q
def O1 (to : TO) (δ : Sl) (o : Option Int) : Prop := ∀ (σ : L2.St) (G H : Hp), SlOk K G σ δ → Ex G H → ∀ Q : Option Int → Hp → Prop, (∀ G2 H2, Xt G H G2 H2 → Q o H2) → to σ H Q
def RD (r : R2) (x y z : Dat) : Prop := ∀ (G H : Hp) (v u : V), Ex G H → Dr K G v x → Dr K G u y → ∀ Q : VK, (∀ w G2 H2, Xt G H G2 H2 → Dr K G2 w z → Q w H2) → r v u H Q
def RU (r : V → Hp → VK → Prop) (x z : Dat) : Prop := ∀ (G H : Hp) (v : V), Ex G H → Dr K G v x → ∀ Q : VK, (∀ w G2 H2, Xt G H G2 H2 → Dr K G2 w z → Q w H2) → r v H Q
def CD (r : List V → Hp → VK → Prop) (ds : List Dat) (z : Dat) : Prop := ∀ (G H : Hp) (vs : List V), Ex G H → DrAll K G vs ds → ∀ Q : VK, (∀ w G2 H2, Xt G H G2 H2 → Dr K G2 w z → Q w H2) → r vs H Q
def SLD (r : V → Option Int → Option Int → Hp → VK → Prop) (x : Dat) (lo hi : Option Int) (z : Dat) : Prop := ∀ (G H : Hp) (v : V), Ex G H → Dr K G v x → ∀ Q : VK, (∀ w G2 H2, Xt G H G2 H2 → Dr K G2 w z → Q w H2) → r v lo hi H Q
/-- a method's call by values -/
def MD (r : V → List V → Hp → VK → Prop) (x : Dat) (ds : List Dat) (z : Dat) : Prop := ∀ (G H : Hp) (v : V) (vs : List V), Ex G H → Dr K G v x → DrAll K G vs ds → ∀ Q : VK, (∀ w G2 H2, Xt G H G2 H2 → Dr K G2 w z → Q w H2) → r v vs H Q
end

section
variable {K : PySem.W.Frag} {δ : Sl} {ta tb tc te : TE} {t u : TT} {x y z d : Dat} {ds es : List Dat} {r r' : R2} {i j : Int} {a b c : Bool}
theorem E1.er {P : Dat → Prop} (h : E1 K te δ d) (p : P d) : ER K te δ P := fun σ G H s e Q q => h σ G H s e Q fun v G2 H2 x1 dv => q v G2 H2 d x1 dv p
theorem E1.is (h : E1 K te δ d) (e : d = x) : E1 K te δ x := e ▸ h
theorem T1.is (h : T1 K t δ b) (e : b = c) : T1 K t δ c := e ▸ h
theorem e_var {i : Nat} (h : δ[i]? = some (some (.d d))) : E1 K (tVar i) δ d := fun σ G H s e Q q => by
  obtain ⟨v, h1, h2⟩ := s.get h
  exact ⟨v, h1, q v G H (Xt.refl e) h2⟩
theorem e_int (i : Int) : E1 K (tC (.int i)) δ (.int i) := fun σ G H s e Q q => q _ G H (Xt.refl e) (.int i)
theorem e_bl (b : Bool) : E1 K (tC (.bl b)) δ (.bool b) := fun σ G H s e Q q => q _ G H (Xt.refl e) (.bl b)
theorem e_non : E1 K (tC .non) δ .none := fun σ G H s e Q q => q _ G H (Xt.refl e) .non
theorem e_op (ha : E1 K ta δ x) (hb : E1 K tb δ y) (hr : RD K r x y z) : E1 K (tOp r ta tb) δ z := fun σ G H s e Q q =>
  ha σ G H s e _ fun v G1 H1 x1 d1 => hb σ G1 H1 (s.ext x1.gg) x1.gh _ fun u G2 H2 x2 d2 =>
    hr G2 H2 v u x2.gh (d1.ext x2.gg) d2 Q fun w G3 H3 x3 d3 => q w G3 H3 ((x1.trans x2).trans x3) d3
theorem e_un {r : V → Hp → VK → Prop} (ha : E1 K ta δ x) (hr : RU K r x z) : E1 K (tUn r ta) δ z := fun σ G H s e Q q =>
  ha σ G H s e _ fun v G1 H1 x1 d1 => hr G1 H1 v x1.gh d1 Q fun w G3 H3 x3 d3 => q w G3 H3 (x1.trans x3) d3
theorem a_nil : A1 K tNil δ [] := fun σ G H s e Q q => q [] G H (Xt.refl e) .nil
theorem a_cons {tr : TA} (h : E1 K ta δ d) (hr : A1 K tr δ ds) : A1 K (tCons ta tr) δ (d :: ds) := fun σ G H s e Q q =>
  h σ G H s e _ fun v G1 H1 x1 d1 => hr σ G1 H1 (s.ext x1.gg) x1.gh _ fun vs G2 H2 x2 d2 => q (v :: vs) G2 H2 (x1.trans x2) (.cons (d1.ext x2.gg) d2)
theorem sz_of {n : Nat} (h : n ≤ 100000) : n ≤ sizeLine := Evl.sz_of h
theorem sz_lt {n : Nat} (h : n < 100000) : n < sizeLine := Evl.sz_lt h
theorem newT {G H : Hp} {vs : List V} (e : Ex G H) (h : DrAll K G vs ds) {p : Addr} (hp : H p = none) : Xt G H (upd G p (.tup vs)) (upd H p (.tup vs)) ∧ Dr K (upd G p (.tup vs)) (.ref p) (.tuple .p ds) :=
  have x := Xt.new (o := .tup vs) e hp
  ⟨x, .tup upd_same (h.ext x.gg)⟩
theorem newZ {G H : Hp} {vs : List V} (e : Ex G H) (h : DrAll K G vs ds) {p : Addr} (hp : H p = none) {o : Obj} (ho : o.dict = none) : Xt G H (upd G p (.frz o (.tup vs))) (upd H p (.frz o (.tup vs))) ∧ Dr K (upd G p (.frz o (.tup vs))) (.ref p) (.tuple .s ds) :=
  have x := Xt.new (o := .frz o (.tup vs)) e hp
  ⟨x, .tup ⟨o, ho, upd_same⟩ (h.ext x.gg)⟩
theorem newL {G H : Hp} {vs : List V} (e : Ex G H) (h : DrAll K G vs ds) {p : Addr} (hp : H p = none) : Xt G H (upd G p (.lst vs)) (upd H p (.lst vs)) ∧ Dr K (upd G p (.lst vs)) (.ref p) (.list ds) :=
  have x := Xt.new (o := .lst vs) e hp
  ⟨x, .lst (sqL_of upd_same) (h.ext x.gg)⟩
theorem e_tup {ta : TA} (h : A1 K ta δ ds) (hl : ds.length ≤ 100000 := by simp) : E1 K (tTup ta) δ (.tuple .p ds) := fun σ G H s e Q q =>
  h σ G H s e _ fun vs G1 H1 x1 d1 => ⟨by rw [dpAll_len d1]; exact sz_of hl, fun p hp => by
    obtain ⟨x2, d2⟩ := newT x1.gh d1 hp
    exact q _ _ _ (x1.trans x2) d2⟩
/-- a tuple by its object -/
def tTupZ (t : TA) : TE := fun σ H Q => t σ H fun xs H1 => xs.length ≤ sizeLine ∧ ∀ (p : Addr) (o : Obj), H1 p = none → o.dict = none → Q (.ref p) (upd H1 p (.frz o (.tup xs)))
theorem e_tupZ {ta : TA} (h : A1 K ta δ ds) (hl : ds.length ≤ 100000 := by simp) : E1 K (tTupZ ta) δ (.tuple .s ds) := fun σ G H s e Q q =>
  h σ G H s e _ fun vs G1 H1 x1 d1 => ⟨by rw [dpAll_len d1]; exact sz_of hl, fun p o hp ho => by
    obtain ⟨x2, d2⟩ := newZ x1.gh d1 hp ho
    exact q _ _ _ (x1.trans x2) d2⟩
theorem e_lst {ta : TA} (h : A1 K ta δ ds) (hl : ds.length ≤ 100000 := by simp) : E1 K (tLst ta) δ (.list ds) := fun σ G H s e Q q =>
  h σ G H s e _ fun vs G1 H1 x1 d1 => ⟨by rw [dpAll_len d1]; exact sz_of hl, fun p hp => by
    obtain ⟨x2, d2⟩ := newL x1.gh d1 hp
    exact q _ _ _ (x1.trans x2) d2⟩
theorem e_cb {r : List V → Hp → VK → Prop} {ta : TA} (h : A1 K ta δ ds) (hr : CD K r ds z) : E1 K (tCB r ta) δ z := fun σ G H s e Q q =>
  h σ G H s e _ fun vs G1 H1 x1 d1 => hr G1 H1 vs x1.gh d1 Q fun w G3 H3 x3 d3 => q w G3 H3 (x1.trans x3) d3
/-! the truth of data: and, or, not, if, chains -/
theorem e_and (h1 : E1 K ta δ (.bool a)) (h2 : a = true → E1 K tb δ (.bool b)) : E1 K (tAndV ta tb) δ (.bool (a && b)) := fun σ G H s e Q q =>
  h1 σ G H s e _ fun v G1 H1 x1 d1 => by
    cases d1
    refine ⟨a, rfl, ?_⟩
    cases a with
    | true => exact h2 rfl σ G1 H1 (s.ext x1.gg) x1.gh Q fun w G2 H2 x2 d2 => q w G2 H2 (x1.trans x2) d2
    | false => exact q _ G1 H1 x1 (.bl false)
theorem e_or (h1 : E1 K ta δ (.bool a)) (h2 : a = false → E1 K tb δ (.bool b)) : E1 K (tOrV ta tb) δ (.bool (a || b)) := fun σ G H s e Q q =>
  h1 σ G H s e _ fun v G1 H1 x1 d1 => by
    cases d1
    refine ⟨a, rfl, ?_⟩
    cases a with
    | false => exact h2 rfl σ G1 H1 (s.ext x1.gg) x1.gh Q fun w G2 H2 x2 d2 => q w G2 H2 (x1.trans x2) d2
    | true => exact q _ G1 H1 x1 (.bl true)
theorem e_not (h1 : E1 K ta δ (.bool a)) : E1 K (tNotV ta) δ (.bool (!a)) := fun σ G H s e Q q =>
  h1 σ G H s e _ fun v G1 H1 x1 d1 => by
    cases d1
    exact ⟨a, rfl, q _ G1 H1 x1 (.bl _)⟩
theorem e_if (h : T1 K t δ b) (h1 : b = true → E1 K ta δ d) (h2 : b = false → E1 K tb δ d) : E1 K (tIf t ta tb) δ d := fun σ G H s e Q q =>
  h σ G H s e _ fun G1 H1 x1 => by
    cases b with
    | true => exact h1 rfl σ G1 H1 (s.ext x1.gg) x1.gh Q fun w G2 H2 x2 d2 => q w G2 H2 (x1.trans x2) d2
    | false => exact h2 rfl σ G1 H1 (s.ext x1.gg) x1.gh Q fun w G2 H2 x2 d2 => q w G2 H2 (x1.trans x2) d2
theorem e_chain (ha : E1 K ta δ x) (hb : E1 K tb δ y) (hr : RD K r x y (.bool a)) (hc : a = true → E1 K tc δ z) (hr' : a = true → RD K r' y z (.bool b)) : E1 K (tChain r r' ta tb tc) δ (.bool (a && b)) := fun σ G H s e Q q =>
  ha σ G H s e _ fun v G1 H1 x1 d1 => hb σ G1 H1 (s.ext x1.gg) x1.gh _ fun u G2 H2 x2 d2 =>
    hr G2 H2 v u x2.gh (d1.ext x2.gg) d2 _ fun w G3 H3 x3 d3 => by
      cases d3
      refine ⟨a, rfl, ?_⟩
      cases a with
      | true => exact hc rfl σ G3 H3 (s.ext ((x1.trans x2).trans x3).gg) x3.gh _ fun v4 G4 H4 x4 d4 => hr' rfl G4 H4 u v4 x4.gh (d2.ext (x3.trans x4).gg) d4 Q fun w5 G5 H5 x5 d5 => q w5 G5 H5 ((((x1.trans x2).trans x3).trans x4).trans x5) d5
      | false => exact q _ G3 H3 ((x1.trans x2).trans x3) (.bl false)
theorem t_test (h : E1 K te δ (.bool b)) : T1 K (tTest te) δ b := fun σ G H s e Q q => h σ G H s e _ fun v G1 H1 x1 d1 => by
  cases d1
  exact ⟨b, rfl, q G1 H1 x1⟩
theorem t_B (h : E1 K te δ (.bool b)) : T1 K (tB te) δ b := t_test h
theorem t_and (h1 : T1 K t δ a) (h2 : a = true → T1 K u δ b) : T1 K (tAnd t u) δ (a && b) := fun σ G H s e Q q => h1 σ G H s e _ fun G1 H1 x1 => by
  cases a with
  | true => exact h2 rfl σ G1 H1 (s.ext x1.gg) x1.gh Q fun G2 H2 x2 => q G2 H2 (x1.trans x2)
  | false => exact q G1 H1 x1
theorem t_or (h1 : T1 K t δ a) (h2 : a = false → T1 K u δ b) : T1 K (tOr t u) δ (a || b) := fun σ G H s e Q q => h1 σ G H s e _ fun G1 H1 x1 => by
  cases a with
  | false => exact h2 rfl σ G1 H1 (s.ext x1.gg) x1.gh Q fun G2 H2 x2 => q G2 H2 (x1.trans x2)
  | true => exact q G1 H1 x1
theorem t_not (h1 : T1 K t δ a) : T1 K (tNot t) δ (!a) := fun σ G H s e Q q => h1 σ G H s e _ fun G1 H1 x1 => q G1 H1 x1
theorem t_yes : T1 K tYes δ true := fun σ G H s e Q q => q G H (Xt.refl e)
/-! slices -/
theorem o_no : O1 K tNoPart δ none := fun σ G H s e Q q => q G H (Xt.refl e)
theorem o_some (h : E1 K te δ (.int i)) : O1 K (tPart te) δ (some i) := fun σ G H s e Q q => h σ G H s e _ fun v G1 H1 x1 d1 => by
  cases d1
  exact ⟨i, rfl, q G1 H1 x1⟩
theorem e_sl {r : V → Option Int → Option Int → Hp → VK → Prop} {tl th : TO} {lo hi : Option Int} (h : E1 K te δ x) (hl : O1 K tl δ lo) (hh : O1 K th δ hi) (hr : SLD K r x lo hi z) : E1 K (tSl r te tl th) δ z := fun σ G H s e Q q =>
  h σ G H s e _ fun v G1 H1 x1 d1 => hl σ G1 H1 (s.ext x1.gg) x1.gh _ fun G2 H2 x2 => hh σ G2 H2 (s.ext (x1.trans x2).gg) x2.gh _ fun G3 H3 x3 =>
    hr G3 H3 v x3.gh (d1.ext (x2.trans x3).gg) Q fun w G4 H4 x4 d4 => q w G4 H4 (((x1.trans x2).trans x3).trans x4) d4
/-! calls of own defs: a promise by data -/
/-- with arguments args i, if ok i, gives data of which res i holds -/
def SpI {ι : Type} (K : PySem.W.Frag) (args : ι → List Dat) (ok : ι → Prop) (res : ι → Dat → Prop) : Sp := fun vs H Q _ => ∃ i G, ok i ∧ Ex G H ∧ DrAll K G vs (args i) ∧ ∀ v G2 H2 d, Xt G H G2 H2 → Dr K G2 v d → res i d → Q v H2
theorem e_call {ι : Type} {args : ι → List Dat} {ok : ι → Prop} {res : ι → Dat} {E : XK} {ta : TA} (i : ι) (h : A1 K ta δ (args i)) (hk : ok i) : E1 K (tCall (SpI K args ok fun i d => d = res i) [] E ta) δ (res i) := fun σ G H s e Q q =>
  h σ G H s e _ fun vs G1 H1 x1 d1 => ⟨i, G1, hk, x1.gh, by rw [List.append_nil]; exact d1, fun v G2 H2 d x2 d2 hd => by subst hd; exact q v G2 H2 (x1.trans x2) d2⟩
theorem er_call {ι : Type} {args : ι → List Dat} {ok : ι → Prop} {res : ι → Dat → Prop} {E : XK} {ta : TA} (i : ι) (h : A1 K ta δ (args i)) (hk : ok i) : ER K (tCall (SpI K args ok res) [] E ta) δ (res i) := fun σ G H s e Q q =>
  h σ G H s e _ fun vs G1 H1 x1 d1 => ⟨i, G1, hk, x1.gh, by rw [List.append_nil]; exact d1, fun v G2 H2 d x2 d2 hd => q v G2 H2 d (x1.trans x2) d2 hd⟩
/-! operators by values -/
theorem rd_I0 {g : Int → Int → V} (hz : ∀ G, Dr K G (g i j) z) : RD K (rI0 g) (.int i) (.int j) z := fun G H v u e dv du Q q => by
  cases dv; cases du
  exact ⟨i, j, rfl, rfl, q _ G H (Xt.refl e) (hz G)⟩
theorem rd_I {C : Int → Int → Prop} {g : Int → Int → V} (hc : C i j) (hz : ∀ G, Dr K G (g i j) z) : RD K (rI C g) (.int i) (.int j) z := fun G H v u e dv du Q q => by
  cases dv; cases du
  exact ⟨i, j, rfl, rfl, hc, q _ G H (Xt.refl e) (hz G)⟩
theorem rd_add : RD K (rI0 fun i j => .int (i + j)) (.int i) (.int j) (.int (i + j)) := rd_I0 fun _ => .int _
theorem rd_sub : RD K (rI0 fun i j => .int (i - j)) (.int i) (.int j) (.int (i - j)) := rd_I0 fun _ => .int _
theorem rd_lt : RD K (rI0 fun i j => .bl (decide (i < j))) (.int i) (.int j) (.bool (decide (i < j))) := rd_I0 fun _ => .bl _
theorem rd_le : RD K (rI0 fun i j => .bl (decide (i ≤ j))) (.int i) (.int j) (.bool (decide (i ≤ j))) := rd_I0 fun _ => .bl _
theorem rd_gt : RD K (rI0 fun i j => .bl (decide (j < i))) (.int i) (.int j) (.bool (decide (j < i))) := rd_I0 fun _ => .bl _
theorem rd_and : RD K (rI0 fun i j => .int (Builtin.bitAnd i j)) (.int i) (.int j) (.int (Builtin.bitAnd i j)) := rd_I0 fun _ => .int _
theorem rd_mul {C : Int → Int → Prop} (h : C i j) : RD K (rI C fun i j => .int (i * j)) (.int i) (.int j) (.int (i * j)) := rd_I h fun _ => .int _
theorem rd_mod {C : Int → Int → Prop} (h : C i j) : RD K (rI C fun i j => .int (i.fmod j)) (.int i) (.int j) (.int (i.fmod j)) := rd_I h fun _ => .int _
theorem rd_div {C : Int → Int → Prop} (h : C i j) : RD K (rI C fun i j => .int (i / j)) (.int i) (.int j) (.int (i / j)) := rd_I h fun _ => .int _
theorem rd_pow {C : Int → Int → Prop} (h : C i j) : RD K (rI C fun i j => .int (i ^ j.toNat)) (.int i) (.int j) (.int (i ^ j.toNat)) := rd_I h fun _ => .int _
theorem rd_shl {C : Int → Int → Prop} (h : C i j) : RD K (rI C fun i j => .int (i * 2 ^ j.toNat)) (.int i) (.int j) (.int (i * 2 ^ j.toNat)) := rd_I h fun _ => .int _
theorem rd_shr {C : Int → Int → Prop} (h : C i j) : RD K (rI C fun i j => .int (i / 2 ^ j.toNat)) (.int i) (.int j) (.int (i / 2 ^ j.toNat)) := rd_I h fun _ => .int _
theorem rd_eqI : RD K rEq (.int i) (.int j) (.bool (decide (i = j))) := fun G H v u e dv du Q q => by
  cases dv; cases du
  refine ⟨rfl, q _ G H (Xt.refl e) ?_⟩
  have hh : decide (V.int i = V.int j) = decide (i = j) := by simp
  rw [hh]; exact .bl _
theorem rd_neI : RD K rNe (.int i) (.int j) (.bool (!decide (i = j))) := fun G H v u e dv du Q q => by
  cases dv; cases du
  refine ⟨rfl, q _ G H (Xt.refl e) ?_⟩
  have hh : decide (V.int i = V.int j) = decide (i = j) := by simp
  rw [hh]; exact .bl _
def isNone : Dat → Bool
  | .none => true
  | _ => false
theorem dp_isN {G : Hp} {v : V} (h : Dr K G v x) : decide (v = .non) = isNone x := by
  cases h <;> simp [isNone]
theorem rd_isN : RD K (fun x y H Q => y = .non ∧ Q (.bl (decide (x = .non))) H) x .none (.bool (isNone x)) := fun G H v u e dv du Q q => by
  cases du
  refine ⟨rfl, q _ G H (Xt.refl e) ?_⟩
  rw [dp_isN dv]; exact .bl _
theorem rd_notN : RD K (fun x y H Q => y = .non ∧ Q (.bl (!decide (x = .non))) H) x .none (.bool (!isNone x)) := fun G H v u e dv du Q q => by
  cases du
  refine ⟨rfl, q _ G H (Xt.refl e) ?_⟩
  rw [dp_isN dv]; exact .bl _
theorem atI_len {α β : Type} {xs : List α} {ys : List β} {k : Int} {z : β} (hl : xs.length = ys.length) (h : atI ys k = some z) : ∃ j : Nat, atI xs k = xs[j]? ∧ ys[j]? = some z := by
  unfold atI at h ⊢
  rw [hl]
  cases e : ixN ys.length k with
  | none => rw [e] at h; cases h
  | some j => rw [e] at h; exact ⟨j, rfl, h⟩
theorem dpAll_atI {G : Hp} {vs : List V} (h : DrAll K G vs ds) (e : atI ds i = some z) : ∃ v, atI vs i = some v ∧ Dr K G v z := by
  obtain ⟨j, h1, h2⟩ := atI_len (dpAll_len h) e
  obtain ⟨v, h3, h4⟩ := dpAll_get h h2
  exact ⟨v, h1.trans h3, h4⟩
theorem rd_ixL (h : atI ds i = some z) : RD K (rIxL K) (.list ds) (.int i) z := fun G H v u e dv du Q q => by
  cases du
  cases dv with
  | lst hs ha =>
    obtain ⟨w, h1, h2⟩ := dpAll_atI ha h
    exact ⟨_, _, i, w, rfl, rfl, ex_l e hs, h1, q w G H (Xt.refl e) h2⟩
theorem rd_ixT {st : Sty} (h : atI ds i = some z) : RD K (rIxT K) (.tuple st ds) (.int i) z := fun G H v u e dv du Q q => by
  cases du
  cases dv with
  | tup hs ha =>
    obtain ⟨w, h1, h2⟩ := dpAll_atI ha h
    exact ⟨_, _, i, w, rfl, rfl, (hs.ext e).t, h1, q w G H (Xt.refl e) h2⟩
/-! in, not in: ints in a sequence of ints -/
theorem inV_ints {k : Int} : ∀ ns : List Int, inV (.int k) (ns.map V.int) = decide (k ∈ ns)
  | [] => by simp [inV]
  | n :: ns => by
    have ih := inV_ints (k := k) ns
    unfold inV at ih ⊢
    rw [List.map_cons, List.any_cons, ih]
    show ((n == k) || decide (k ∈ ns)) = decide (k ∈ n :: ns)
    by_cases h : n = k
    · subst h; simp
    · have h2 : ¬ k = n := fun e => h e.symm
      simp [h, h2]
theorem flat_ints : ∀ ns : List Int, (ns.map V.int).all flatV = true
  | [] => rfl
  | n :: ns => by rw [List.map_cons, List.all_cons, flat_ints ns]; rfl
theorem rd_notInT {st : Sty} {k : Int} {ns : List Int} : RD K (rIn K true) (.int k) (.tuple st (ns.map .int)) (.bool (!decide (k ∈ ns))) := fun G H v u e dv du Q q => by
  cases dv
  cases du with
  | tup hs ha =>
    have hv := dpAll_ints ha
    subst hv
    refine ⟨_, _, rfl, .inr ((hs.ext e).t), rfl, flat_ints ns, q _ G H (Xt.refl e) ?_⟩
    show Dr K G (.bl (!inV (.int k) (ns.map V.int))) _
    rw [inV_ints]; exact .bl _
/-! built-ins -/
abbrev rLenS (K : PySem.W.Frag) : List V → Hp → VK → Prop := fun xs H Q => ∃ p ys, xs = [.ref p] ∧ (SqL K H p ys ∨ SqT K H p ys) ∧ Q (.int ys.length) H
abbrev rListS (K : PySem.W.Frag) : List V → Hp → VK → Prop := fun xs H Q => ∃ p ys, xs = [.ref p] ∧ (SqL K H p ys ∨ SqT K H p ys) ∧ ∀ l, H l = none → Q (.ref l) (upd H l (.lst ys))
abbrev rTupS (K : PySem.W.Frag) : List V → Hp → VK → Prop := fun xs H Q => ∃ p ys, xs = [.ref p] ∧ ((SqL K H p ys ∧ ∀ l, H l = none → Q (.ref l) (upd H l (.tup ys))) ∨ (SqT K H p ys ∧ Q (.ref p) H))
theorem cd_lenL : CD K (rLenS K) [.list ds] (.int (ds.length : Nat)) := fun G H vs e d1 Q q => by
  cases d1 with
  | cons h t =>
    cases t
    cases h with
    | lst hs ha => exact ⟨_, _, rfl, .inl (ex_l e hs), by rw [dpAll_len ha]; exact q _ G H (Xt.refl e) (.int _)⟩
theorem cd_lenT {st : Sty} : CD K (rLenS K) [.tuple st ds] (.int (ds.length : Nat)) := fun G H vs e d1 Q q => by
  cases d1 with
  | cons h t =>
    cases t
    cases h with
    | tup hs ha => exact ⟨_, _, rfl, .inr ((hs.ext e).t), by rw [dpAll_len ha]; exact q _ G H (Xt.refl e) (.int _)⟩
theorem cd_listL : CD K (rListS K) [.list ds] (.list ds) := fun G H vs e d1 Q q => by
  cases d1 with
  | cons h t =>
    cases t
    cases h with
    | lst hs ha => exact ⟨_, _, rfl, .inl (ex_l e hs), fun l hl => q _ _ _ (newL e ha hl).1 (newL e ha hl).2⟩
theorem cd_listT {st : Sty} : CD K (rListS K) [.tuple st ds] (.list ds) := fun G H vs e d1 Q q => by
  cases d1 with
  | cons h t =>
    cases t
    cases h with
    | tup hs ha => exact ⟨_, _, rfl, .inr ((hs.ext e).t), fun l hl => q _ _ _ (newL e ha hl).1 (newL e ha hl).2⟩
theorem cd_tupL : CD K (rTupS K) [.list ds] (.tuple .p ds) := fun G H vs e d1 Q q => by
  cases d1 with
  | cons h t =>
    cases t
    cases h with
    | lst hs ha => exact ⟨_, _, rfl, .inl ⟨ex_l e hs, fun l hl => q _ _ _ (newT e ha hl).1 (newT e ha hl).2⟩⟩
/-- tuple(xs) of a list, by its object -/
abbrev rTupZ (K : PySem.W.Frag) : List V → Hp → VK → Prop := fun xs H Q => ∃ p ys, xs = [.ref p] ∧ SqL K H p ys ∧ ∀ (l : Addr) (o : Obj), H l = none → o.dict = none → Q (.ref l) (upd H l (.frz o (.tup ys)))
theorem cd_tupZ : CD K (rTupZ K) [.list ds] (.tuple .s ds) := fun G H vs e d1 Q q => by
  cases d1 with
  | cons h t =>
    cases t
    cases h with
    | lst hs ha => exact ⟨_, _, rfl, ex_l e hs, fun l o hl ho => q _ _ _ (newZ e ha hl ho).1 (newZ e ha hl ho).2⟩
theorem cd_sum {ns : List Int} : CD K (rSum K) [.list (ns.map .int)] (.int ns.sum) := fun G H vs e d1 Q q => by
  cases d1 with
  | cons h t =>
    cases t
    cases h with
    | lst hs ha =>
      have hv := dpAll_ints ha
      subst hv
      exact ⟨_, ns, rfl, ex_l e hs, q _ G H (Xt.refl e) (.int _)⟩
theorem cd_all {bs : List Bool} : CD K (rAll K) [.list (bs.map .bool)] (.bool (bs.all id)) := fun G H vs e d1 Q q => by
  cases d1 with
  | cons h t =>
    cases t
    cases h with
    | lst hs ha =>
      have hv := dpAll_bools ha
      subst hv
      exact ⟨_, bs, rfl, ex_l e hs, q _ G H (Xt.refl e) (.bl _)⟩
theorem cd_max2 : CD K (fun xs H Q => ∃ i j, xs = [.int i, .int j] ∧ Q (.int (if j > i then j else i)) H) [.int i, .int j] (.int (if j > i then j else i)) := fun G H vs e d1 Q q => by
  cases d1 with
  | cons h t =>
    cases t with
    | cons h2 t2 =>
      cases t2; cases h; cases h2
      exact ⟨i, j, rfl, q _ G H (Xt.refl e) (.int _)⟩
theorem cd_min2 : CD K (fun xs H Q => ∃ i j, xs = [.int i, .int j] ∧ Q (.int (if j < i then j else i)) H) [.int i, .int j] (.int (if j < i then j else i)) := fun G H vs e d1 Q q => by
  cases d1 with
  | cons h t =>
    cases t with
    | cons h2 t2 =>
      cases t2; cases h; cases h2
      exact ⟨i, j, rfl, q _ G H (Xt.refl e) (.int _)⟩
theorem cd_int1 : CD K (fun xs H Q => (∃ i, xs = [.int i] ∧ Q (.int i) H) ∨ ∃ k, xs = [.bl k] ∧ Q (.int (if k then 1 else 0)) H) [.int i] (.int i) := fun G H vs e d1 Q q => by
  cases d1 with
  | cons h t =>
    cases t; cases h
    exact .inl ⟨i, rfl, q _ G H (Xt.refl e) (.int _)⟩
/-! slices of lists -/
def cutD (ds : List Dat) (lo hi : Option Int) : List Dat := (ds.drop (HT.sIx ds.length 0 lo)).take (HT.sIx ds.length ds.length hi - HT.sIx ds.length 0 lo)
theorem dpAll_cut {G : Hp} {vs : List V} (h : DrAll K G vs ds) (lo hi : Option Int) : DrAll K G (cutV vs lo hi) (cutD ds lo hi) := by
  unfold cutV cutD
  rw [dpAll_len h]
  exact dpAll_take _ (dpAll_drop _ h)
theorem sl_l {lo hi : Option Int} : SLD K (rSlL K) (.list ds) lo hi (.list (cutD ds lo hi)) := fun G H v e d1 Q q => by
  cases d1 with
  | lst hs ha =>
    have hc := dpAll_cut ha lo hi
    exact ⟨_, _, rfl, ex_l e hs, fun p hp => q _ _ _ (newL e hc hp).1 (newL e hc hp).2⟩
/-! == and != of data -/
theorem rd_eqD (hx : SeqAt.shaped x.py = true) (hy : SeqAt.shaped y.py = true) : RD K (rEqD K) x y (.bool (PyData.eqv x.py y.py)) := fun G H v u e dv du Q q =>
  ⟨x.py, y.py, dr_dp _ _ (dv.ext e), dr_dp _ _ (du.ext e), hx, hy, q _ G H (Xt.refl e) (.bl _)⟩
theorem rd_neD (hx : SeqAt.shaped x.py = true) (hy : SeqAt.shaped y.py = true) : RD K (rNeD K) x y (.bool (!PyData.eqv x.py y.py)) := fun G H v u e dv du Q q =>
  ⟨x.py, y.py, dr_dp _ _ (dv.ext e), dr_dp _ _ (du.ext e), hx, hy, q _ G H (Xt.refl e) (.bl _)⟩
/-! list(range(..)), tuple(range(..)) -/
def rgD (a b : Int) : List Dat := (List.range (b - a).toNat).map fun i => Dat.int (a + (i : Nat))
theorem dpAll_map {α : Type} {G : Hp} {f : α → V} {g : α → Dat} : ∀ {l : List α}, (∀ x ∈ l, Dr K G (f x) (g x)) → DrAll K G (l.map f) (l.map g)
  | [], _ => .nil
  | x :: l, h => .cons (h x (by simp)) (dpAll_map fun y hy => h y (by simp [hy]))
end
end DL

/-! my data layer: what is walked, targets, comprehensions -/
namespace DL
open PySem PySem.Spec L2 RZ
open Evl (Ex ex_l ex_t)

section
variable (K : PySem.W.Frag)
def YD (xs : List Dat) (G1 : Hp) : Nat → Hp → V → Hp → Prop := fun i H' x H'' => ∃ d, xs[i]? = some d ∧ ∀ G', Ex G1 G' → Ex G' H' → ∃ G'', Xt G' H' G'' H'' ∧ Dr K G'' x d
/-- wi walks the data xs -/
def W1 (wi : TI) (δ : Sl) (xs : List Dat) : Prop := ∀ (σ : L2.St) (G H : Hp), SlOk K G σ δ → Ex G H → ∀ R : It → Hp → Prop, (∀ J G1 H1, Xt G H G1 H1 → Walk J xs.length (fun H' => Ex G1 H') (YD K xs G1) → R J H1) → wi σ H R
/-- the target g takes x: the slots js change -/
def G1 (g : TG) (js : List Nat) (δ : Sl) (x : Dat) (δ' : Sl) : Prop := ∀ (σ : L2.St) (G H : Hp) (v : V), SlOk K G σ δ → Ex G H → Dr K G v x → ∀ Q : L2.St → Hp → Prop, (∀ σ2, SlOk K G σ2 δ' → (∀ vs : List Nat, (∀ j ∈ js, j ∈ vs) → wipe σ2 vs = wipe σ vs) → Q σ2 H) → g v σ H Q
def G1s (g : TGs) (js : List Nat) (δ : Sl) (xs : List Dat) (δ' : Sl) : Prop := ∀ (σ : L2.St) (G H : Hp) (vs : List V), SlOk K G σ δ → Ex G H → DrAll K G vs xs → ∀ Q : L2.St → Hp → Prop, (∀ σ2, SlOk K G σ2 δ' → (∀ vs : List Nat, (∀ j ∈ js, j ∈ vs) → wipe σ2 vs = wipe σ vs) → Q σ2 H) → g vs σ H Q
end
section
variable {K : PySem.W.Frag} {δ δ' δ2 : Sl} {ta tb tc te : TE} {t u : TT} {x y z d : Dat} {ds es xs ys : List Dat} {i j : Int} {a b c : Bool}
theorem g_name (j : Nat) : G1 K (gName j) [j] δ x (δ.set j (some (.d x))) := fun σ G H v s e dv Q q =>
  q (σ.set j (some v)) (SlOk.set (o := some v) (s := some (.d x)) dv j s) fun vs h => wipe_set (h j (by simp))
theorem gs_nil : G1s K gNil [] δ [] δ := fun σ G H vs s e dv Q q => by
  cases dv
  exact ⟨rfl, q σ s fun _ _ => rfl⟩
theorem gs_cons {g : TG} {gs : TGs} {js ks : List Nat} (h : G1 K g js δ x δ2) (h' : G1s K gs ks δ2 xs δ') : G1s K (gCons g gs) (js ++ ks) δ (x :: xs) δ' := fun σ G H vs s e dv Q q => by
  cases dv with
  | cons d1 d2 =>
    refine ⟨_, _, rfl, h σ G H _ s e d1 _ fun σ2 s2 w2 => h' σ2 G H _ s2 e d2 _ fun σ3 s3 w3 => q σ3 s3 fun vs hv => ?_⟩
    rw [w3 vs fun j hj => hv j (by simp [hj]), w2 vs fun j hj => hv j (by simp [hj])]
theorem g_tup {st : Sty} {n : Nat} {gs : TGs} {js : List Nat} (hn : xs.length = n) (h : G1s K gs js δ xs δ') : G1 K (gTup K n gs) js δ (.tuple st xs) δ' := fun σ G H v s e dv Q q => by
  cases dv with
  | tup hs ha => exact ⟨_, _, rfl, (hs.ext e).t, by rw [dpAll_len ha]; exact hn, h σ G H _ s e ha Q q⟩
theorem g_tup2 {st : Sty} {i j : Nat} : G1 K (gTup K 2 (gCons (gName i) (gCons (gName j) gNil))) [i, j] δ (.tuple st [x, y]) ((δ.set i (some (.d x))).set j (some (.d y))) :=
  g_tup rfl (gs_cons (js := [i]) (g_name i) (gs_cons (js := [j]) (g_name j) gs_nil))
theorem g_tup3 {st : Sty} {i j k : Nat} : G1 K (gTup K 3 (gCons (gName i) (gCons (gName j) (gCons (gName k) gNil)))) [i, j, k] δ (.tuple st [x, y, z]) (((δ.set i (some (.d x))).set j (some (.d y))).set k (some (.d z))) :=
  g_tup rfl (gs_cons (js := [i]) (g_name i) (gs_cons (js := [j]) (g_name j) (gs_cons (js := [k]) (g_name k) gs_nil)))
/-! what is walked -/
theorem w_list (h : E1 K te δ (.list xs)) : W1 K (iList K te) δ xs := fun σ G H s e R q =>
  h σ G H s e _ fun v G1 H1 x1 d1 => by
    cases d1 with
    | @lst a vs _ hs ha =>
      refine ⟨a, rfl, ⟨_, ex_l x1.gh hs⟩, q _ G1 H1 x1 ?_⟩
      rw [← dpAll_len ha]
      refine walk_list.mono (fun H' e' => ex_l e' hs) fun i H' x H'' hi e' y => ?_
      obtain ⟨rfl, hx⟩ := y
      obtain ⟨d, hd, dx⟩ := dpAll_getV ha hx
      exact ⟨d, hd, fun G' e1 e2 => ⟨G', Xt.refl e2, dx.ext e1⟩⟩
theorem w_tup {st : Sty} (h : E1 K te δ (.tuple st xs)) : W1 K (iTup K te) δ xs := fun σ G H s e R q =>
  h σ G H s e _ fun v G1 H1 x1 d1 => by
    cases d1 with
    | @tup _ a vs _ hs ha =>
      refine ⟨a, rfl, ⟨_, (hs.ext x1.gh).t⟩, q _ G1 H1 x1 ?_⟩
      rw [← dpAll_len ha]
      refine walk_tup.mono (fun H' e' => (hs.ext e').t) fun i H' x H'' hi e' y => ?_
      obtain ⟨rfl, hx⟩ := y
      obtain ⟨d, hd, dx⟩ := dpAll_getV ha hx
      exact ⟨d, hd, fun G' e1 e2 => ⟨G', Xt.refl e2, dx.ext e1⟩⟩
theorem rgD_len (a b : Int) : (rgD a b).length = (b - a).toNat := by simp [rgD]
theorem w_rg {ta : TA} {G1 : Hp} (lo : Int) (n : Nat) (hn : n = (j - lo).toNat) : Walk (Itr lo n) (rgD lo j).length (fun H' => Ex G1 H') (YD K (rgD lo j) G1) := by
  rw [rgD_len, ← hn]
  refine walk_range.mono (fun _ _ => trivial) fun i H' x H'' hi e' y => ?_
  obtain ⟨rfl, rfl⟩ := y
  refine ⟨.int (lo + (i : Nat)), ?_, fun G' e1 e2 => ⟨G', Xt.refl e2, .int _⟩⟩
  unfold rgD
  rw [List.getElem?_map, List.getElem?_range (by omega)]
  rfl
theorem w_range1 {ta : TA} (h : A1 K ta δ [.int j]) (h0 : -(2 ^ 62) ≤ j ∧ j < 2 ^ 62) : W1 K (iRng1 ta) δ (rgD 0 j) := fun σ G H s e R q =>
  h σ G H s e _ fun vs G1 H1 x1 d1 => by
    cases d1 with
    | cons d1 d2 =>
      cases d2; cases d1
      exact ⟨j, rfl, h0.1, h0.2, q _ G1 H1 x1 (w_rg (ta := ta) 0 _ (by simp))⟩
theorem w_range2 {ta : TA} (h : A1 K ta δ [.int i, .int j]) (h0 : -(2 ^ 62) ≤ i ∧ i < 2 ^ 62 ∧ -(2 ^ 62) ≤ j ∧ j < 2 ^ 62) : W1 K (iRng2 ta) δ (rgD i j) := fun σ G H s e R q =>
  h σ G H s e _ fun vs G1 H1 x1 d1 => by
    cases d1 with
    | cons d1 d2 =>
      cases d2 with
      | cons d2 d3 =>
        cases d3; cases d1; cases d2
        exact ⟨i, j, rfl, h0, q _ G1 H1 x1 (w_rg (ta := ta) i _ rfl)⟩
/-- the pairs of zip -/
def zipD (xs ys : List Dat) : List Dat := (xs.zip ys).map fun p => .tuple .p [p.1, p.2]
theorem walk_zipT {K : PySem.W.Frag} {a b : Addr} {xs ys : List V} {n : Nat} (hn : n = min xs.length ys.length) : Walk (ItzT K a b) n (fun H => SqT K H a xs ∧ SqT K H b ys) (YPair (fun i => xs[i]?) (fun i => ys[i]?)) := by
  subst hn
  refine ⟨fun i _ hi q => ?_, fun _ q => ⟨xs, ys, q.1, q.2, by omega⟩, fun i H v H' _ q y => ?_⟩
  · have h1 : i < xs.length := by omega
    have h2 : i < ys.length := by omega
    exact ⟨xs, ys, xs[i], ys[i], q.1, q.2, by simp [h1], by simp [h2]⟩
  · obtain ⟨T, x, z, h1, h2, h3, h4, h5⟩ := y
    exact ⟨T, x, z, h1, h2, h3, h4 xs q.1, h5 ys q.2⟩
theorem yd_pair {G1 : Hp} {vs us : List V} {H' H'' : Hp} {v : V} {i : Nat} (ha : DrAll K G1 vs xs) (hb : DrAll K G1 us ys) (y : YPair (fun i => vs[i]?) (fun i => us[i]?) i H' v H'') : YD K (zipD xs ys) G1 i H' v H'' := by
  obtain ⟨T, p, q, rfl, hT, rfl, h1, h2⟩ := y
  obtain ⟨dp, e1, d1⟩ := dpAll_getV ha h1
  obtain ⟨dq, e2, d2⟩ := dpAll_getV hb h2
  refine ⟨.tuple .p [dp, dq], ?_, fun G' f1 f2 => ?_⟩
  · unfold zipD
    rw [List.getElem?_map]
    have hz : (xs.zip ys)[i]? = some (dp, dq) := List.getElem?_zip_eq_some.mpr ⟨e1, e2⟩
    rw [hz]; rfl
  · have hh : DrAll K G' [p, q] [dp, dq] := .cons (d1.ext f1) (.cons (d2.ext f1) .nil)
    exact ⟨_, (newT f2 hh hT).1, (newT f2 hh hT).2⟩
theorem zipD_len : (zipD xs ys).length = min xs.length ys.length := by simp [zipD]
theorem w_zipT {st st' : Sty} {ta : TA} (h : A1 K ta δ [.tuple st xs, .tuple st' ys]) : W1 K (iZipA K ta) δ (zipD xs ys) := fun σ G H s e R q =>
  h σ G H s e _ fun vs G1 H1 x1 d1 => by
    cases d1 with
    | cons d1 d2 =>
      cases d2 with
      | cons d2 d3 =>
        cases d3
        cases d1 with
        | tup hs ha =>
          cases d2 with
          | tup ht hb =>
            refine ⟨_, _, _, _, rfl, .inr ⟨(hs.ext x1.gh).t, (ht.ext x1.gh).t, q _ G1 H1 x1 ?_⟩⟩
            refine (walk_zipT (by rw [zipD_len, dpAll_len ha, dpAll_len hb])).mono (fun H' e' => ⟨(hs.ext e').t, (ht.ext e').t⟩) fun i H' x H'' hi e' y => yd_pair ha hb y
theorem w_zipL {ta : TA} (h : A1 K ta δ [.list xs, .list ys]) : W1 K (iZipA K ta) δ (zipD xs ys) := fun σ G H s e R q =>
  h σ G H s e _ fun vs G1 H1 x1 d1 => by
    cases d1 with
    | cons d1 d2 =>
      cases d2 with
      | cons d2 d3 =>
        cases d3
        cases d1 with
        | lst hs ha =>
          cases d2 with
          | lst ht hb =>
            refine ⟨_, _, _, _, rfl, .inl ⟨ex_l x1.gh hs, ex_l x1.gh ht, q _ G1 H1 x1 ?_⟩⟩
            refine (walk_zip (by rw [zipD_len, dpAll_len ha, dpAll_len hb])).mono (fun H' e' => ⟨ex_l e' hs, ex_l e' ht⟩) fun i H' x H'' hi e' y => yd_pair ha hb y
/-- the pairs of enumerate -/
def enumD (xs : List Dat) : List Dat := xs.zipIdx.map fun p => .tuple .p [.int (p.2 : Nat), p.1]
theorem enumD_len : (enumD xs).length = xs.length := by simp [enumD]
theorem yd_enum {G1 : Hp} {vs : List V} {H' H'' : Hp} {v : V} {i : Nat} (ha : DrAll K G1 vs xs) (y : YPair (fun i => some (.int (i : Nat))) (fun i => vs[i]?) i H' v H'') : YD K (enumD xs) G1 i H' v H'' := by
  obtain ⟨T, p, q, rfl, hT, rfl, h1, h2⟩ := y
  have h1 := Option.some.inj h1
  subst h1
  obtain ⟨dq, e2, d2⟩ := dpAll_getV ha h2
  refine ⟨.tuple .p [.int (i : Nat), dq], ?_, fun G' f1 f2 => ?_⟩
  · unfold enumD
    rw [List.getElem?_map, List.getElem?_zipIdx, e2]
    simp
  · have hh : DrAll K G' [.int (i : Nat), q] [.int (i : Nat), dq] := .cons (.int _) (.cons (d2.ext f1) .nil)
    exact ⟨_, (newT f2 hh hT).1, (newT f2 hh hT).2⟩
theorem w_enumL {ta : TA} (h : A1 K ta δ [.list xs]) : W1 K (iEnum K ta) δ (enumD xs) := fun σ G H s e R q =>
  h σ G H s e _ fun vs G1 H1 x1 d1 => by
    cases d1 with
    | cons d1 d2 =>
      cases d2
      cases d1 with
      | lst hs ha =>
        refine ⟨_, _, rfl, ex_l x1.gh hs, q _ G1 H1 x1 ?_⟩
        rw [enumD_len, ← dpAll_len ha]
        exact walk_enum.mono (fun H' e' => ex_l e' hs) fun i H' x H'' hi e' y => yd_enum ha y

/-! a list that grows beside what is known -/
structure Own (K : PySem.W.Frag) (G1 H1 G' H' : Hp) (D : Addr) (ds : List Dat) : Prop where
  xt : Xt G1 H1 G' H'
  nd : G' D = none
  hd : ∃ vs, H' D = some (.lst vs) ∧ DrAll K G' vs ds
theorem Own.start {G1 H1 : Hp} {D : Addr} (e : Ex G1 H1) (h : H1 D = none) : Own K G1 H1 G1 (upd H1 D (.lst [])) D [] :=
  ⟨⟨Ex.refl _, Ex.new h, e.trans (Ex.new h), fun a _ h1 _ _ => h1⟩, ex_none e h, [], upd_same, .nil⟩
/-- something else goes on -/
theorem Own.go {G1 H1 G' H' G2 H2 : Hp} {D : Addr} (o : Own K G1 H1 G' H' D ds) (x : Xt G' H' G2 H2) : Own K G1 H1 G2 H2 D ds := by
  obtain ⟨xt, nd, vs, hd, da⟩ := o
  exact ⟨xt.trans x, x.fr D _ nd hd trivial, vs, x.hh D _ hd, da.ext x.gg⟩
theorem Own.grow {G1 H1 G' H' : Hp} {D : Addr} (o : Own K G1 H1 G' H' D ds) (h1 : H1 D = none) {us : List V} (ha : DrAll K G' us es) {vs : List V} (hv : H' D = some (.lst vs)) : Own K G1 H1 G' (upd H' D (.lst (vs ++ us))) D (ds ++ es) := by
  obtain ⟨xt, nd, vs', hd, da⟩ := o
  rw [hv] at hd
  cases hd
  refine ⟨⟨xt.gg, xt.hh.mut h1, fun a o q => ?_, xt.fr⟩, nd, _, upd_same, dpAll_app da ha⟩
  have ne : a ≠ D := fun z => by subst z; rw [nd] at q; cases q
  rw [upd_ne ne]
  exact xt.gh a o q
theorem Own.done {G1 H1 G' H' : Hp} {D : Addr} (o : Own K G1 H1 G' H' D ds) (h1 : H1 D = none) : ∃ G2, Xt G1 H1 G2 H' ∧ Dr K G2 (.ref D) (.list ds) ∧ Ex G' G2 := by
  obtain ⟨xt, nd, vs, hd, da⟩ := o
  refine ⟨upd G' D (.lst vs), ⟨xt.gg.trans (Ex.new nd), xt.hh, fun a o q => ?_, fun a u q1 q2 q3 => ?_⟩, .lst (sqL_of upd_same) (da.ext (Ex.new nd)), Ex.new nd⟩
  · by_cases ne : a = D
    · subst ne; rw [upd_same] at q; cases q; exact hd
    · rw [upd_ne ne] at q; exact xt.gh a o q
  · have ne : a ≠ D := fun z => by subst z; rw [h1] at q2; cases q2
    rw [upd_ne ne]; exact xt.fr a u q1 q2 q3
theorem Own.len {G1 H1 G' H' : Hp} {D : Addr} (o : Own K G1 H1 G' H' D ds) {vs : List V} (hv : H' D = some (.lst vs)) : vs.length = ds.length := by
  obtain ⟨xt, nd, vs', hd, da⟩ := o
  rw [hv] at hd
  cases hd
  exact dpAll_len da

theorem split_at' {α : Type} : ∀ {L : List α} {i : Nat} {a : α}, L[i]? = some a → L = L.take i ++ a :: L.drop (i + 1)
  | [], _, _, h => by simp at h
  | x :: L, 0, a, h => by simp at h; subst h; rfl
  | x :: L, i + 1, a, h => by
    simp at h
    have ih := split_at' h
    conv => lhs; rw [ih]
    rfl
theorem slot_swap {K : PySem.W.Frag} {G : Hp} {v : V} {x : Dat} (dv : Dr K G v x) : ∀ {σ : L2.St} {δ : Sl} (k : Nat), SlOk K G σ (δ.set k (some (.r v))) → SlOk K G σ (δ.set k (some (.d x)))
  | _, [], k, h => h
  | _, s :: δ, 0, h => by
    cases h with
    | @cons o _ _ _ h t =>
      cases o with
      | none => exact h.elim
      | some u =>
        have h : u = v := h
        subst h
        exact .cons dv t
  | _, s :: δ, k + 1, h => by
    cases h with
    | cons h t => exact .cons h (slot_swap dv k t)
theorem take_succ_map {α β : Type} (L : List α) (f : α → List β) (i : Nat) (a : α) (h : L[i]? = some a) : (L.take (i + 1)).flatMap f = (L.take i).flatMap f ++ f a := by
  rw [List.take_add_one, h, List.flatMap_append]
  simp
theorem flatMap_len_take {α β : Type} (L : List α) (f : α → List β) (i : Nat) : ((L.take i).flatMap f).length ≤ (L.flatMap f).length := by
  conv => rhs; rw [← List.take_append_drop i L, List.flatMap_append]
  simp
theorem filter_map_flat {α β : Type} (L : List α) (p : α → Bool) (f : α → β) : (L.filter p).map f = L.flatMap (fun a => if p a = true then [f a] else []) := by
  induction L with
  | nil => rfl
  | cons a L ih =>
    rw [List.flatMap_cons, ← ih, List.filter_cons]
    split <;> simp
/-- a comprehension: by what each turn gives (one or none) -/
theorem e_lcG {α : Type} {wi : TI} {g : TG} {tt : TT} {te : TE} {vs js : List Nat} (L : List α) (enc : α → Dat) (δ' : α → Sl) (p : α → Bool) (f : α → Dat) (hw : W1 K wi δ (L.map enc)) (hg : ∀ a, G1 K g js (wipeD δ vs) (enc a) (δ' a)) (hj : ∀ j ∈ js, j ∈ vs)
    (ht : ∀ a ∈ L, T1 K tt (δ' a) (p a)) (he : ∀ a ∈ L, p a = true → E1 K te (δ' a) (f a)) (hl : L.length ≤ 100000) : E1 K (tLc wi g tt te vs) δ (.list ((L.filter p).map f)) := fun σ G H s e Q q => by
  rw [filter_map_flat L p f] at q
  refine hw σ G H s e _ fun J G1 H1 x1 w => fun D hD => ?_
  have LL : (L.map enc).length = L.length := by simp
  rw [LL] at w
  have bd : ∀ i, ((L.take i).flatMap (fun a => if p a = true then [f a] else [])).length ≤ i := by
    intro i
    rw [← filter_map_flat, List.length_map]
    exact Nat.le_trans (List.length_filter_le _ _) (by rw [List.length_take]; exact Nat.min_le_left _ _)
  refine lc_it w (fun i H' => ∃ G', Own K G1 H1 G' H' D ((L.take i).flatMap (fun a => if p a = true then [f a] else []))) ⟨G1, Own.start x1.gh hD⟩ (fun i H' _ h => ?_) (fun i x H' H'' hi h y => ?_) (fun H' h => ?_)
  · obtain ⟨G', o⟩ := h
    exact o.xt.gg.trans o.xt.gh
  · obtain ⟨G', o⟩ := h
    obtain ⟨d, hd, y⟩ := y
    obtain ⟨G'', x2, dx⟩ := y G' o.xt.gg o.xt.gh
    have o2 := o.go x2
    rw [List.getElem?_map] at hd
    cases ha : L[i]? with
    | none => rw [ha] at hd; cases hd
    | some a =>
      rw [ha] at hd
      have hd := Option.some.inj hd
      subst hd
      have am : a ∈ L := List.mem_of_getElem? ha
      have sw : SlOk K G'' (wipe σ vs) (wipeD δ vs) := (s.ext ((x1.gg.trans o2.xt.gg))).wipe vs
      refine hg a (wipe σ vs) G'' H'' x sw o2.xt.gh dx _ fun σ2 s2 w2 => ⟨(w2 vs hj).trans (wipe_wipe σ vs), ?_⟩
      refine ht a am σ2 G'' H'' s2 o2.xt.gh _ fun G3 H3 x3 => ?_
      have o3 := o2.go x3
      cases hp : p a with
      | true =>
        refine he a am hp σ2 G3 H3 (s2.ext x3.gg) x3.gh _ fun v G4 H4 x4 d4 => ?_
        have o4 := o3.go x4
        obtain ⟨acc, ha4, _⟩ := o4.hd
        refine ⟨acc, ha4, ?_, G4, ?_⟩
        · rw [o4.len ha4]
          have := bd i
          exact sz_lt (by omega)
        · have o5 := o4.grow hD (us := [v]) (es := [f a]) (.cons d4 .nil) ha4
          rw [take_succ_map _ _ _ _ ha, if_pos hp]
          exact o5
      | false =>
        refine ⟨G3, ?_⟩
        rw [take_succ_map _ _ _ _ ha, if_neg (by rw [hp]; decide), List.append_nil]
        exact o3
  · obtain ⟨G', o⟩ := h
    rw [List.take_length] at o
    obtain ⟨G2, x2, d2, _⟩ := o.done hD
    exact q _ G2 H' (x1.trans x2) d2
theorem e_lcm {α : Type} {wi : TI} {g : TG} {te : TE} {vs js : List Nat} (L : List α) (enc : α → Dat) {δ' : α → Sl} {f : α → Dat} (hw : W1 K wi δ (L.map enc)) (hg : ∀ a, G1 K g js (wipeD δ vs) (enc a) (δ' a)) (hj : ∀ j ∈ js, j ∈ vs)
    (he : ∀ a ∈ L, E1 K te (δ' a) (f a)) (hl : L.length ≤ 100000) : E1 K (tLc wi g tYes te vs) δ (.list (L.map f)) := by
  have h := e_lcG L enc δ' (fun _ => true) f hw hg hj (fun a _ => t_yes) (fun a ha _ => he a ha) hl
  rw [show L.filter (fun _ => true) = L from List.filter_eq_self.mpr (by simp)] at h
  exact h
end
end DL

/-! my data layer: comprehensions with two fors, statements, loops, defs -/
namespace DL
open PySem PySem.Spec L2 RZ
open Evl (Ex ex_l ex_t)

section
variable {K : PySem.W.Frag} {δ : Sl} {ta tb tc te : TE} {t u : TT} {x y z d : Dat} {ds es xs ys : List Dat} {i j : Int} {a b c : Bool}
/-- [elt for x in xs for y in ys if ..] -/
theorem e_lc2 {α β : Type} {wi wi1 : TI} {g g1 : TG} {tt1 : TT} {te : TE} {vs vs1 js js1 : List Nat} (L : List α) (enc : α → Dat) {δ1 : α → Sl} (M : α → List β) (enc1 : α → β → Dat) {δ2 : α → β → Sl} (p : α → β → Bool) {f : α → β → Dat}
    (hw : W1 K wi δ (L.map enc)) (hg : ∀ a, G1 K g js (wipeD δ vs) (enc a) (δ1 a)) (hj : ∀ j ∈ js, j ∈ vs)
    (hw1 : ∀ a ∈ L, W1 K wi1 (δ1 a) ((M a).map (enc1 a))) (hg1 : ∀ a b, G1 K g1 js1 (wipeD (δ1 a) vs1) (enc1 a b) (δ2 a b)) (hj1 : ∀ j ∈ js1, j ∈ vs1)
    (ht : ∀ a ∈ L, ∀ b ∈ M a, T1 K tt1 (δ2 a b) (p a b)) (he : ∀ a ∈ L, ∀ b ∈ M a, p a b = true → E1 K te (δ2 a b) (f a b))
    (hl : (L.flatMap fun a => ((M a).filter (p a)).map (f a)).length ≤ 90000) : E1 K (tLc2 wi g tYes wi1 g1 tt1 te vs vs1) δ (.list (L.flatMap fun a => ((M a).filter (p a)).map (f a))) := fun σ G H s e Q q => by
  refine hw σ G H s e _ fun J G1 H1 x1 w => fun D hD => ?_
  have LL : (L.map enc).length = L.length := by simp
  rw [LL] at w
  let F : α → List Dat := fun a => ((M a).filter (p a)).map (f a)
  let W : Nat → Hp → Prop := fun i H' => ∃ G', Own K G1 H1 G' H' D ((L.take i).flatMap F)
  refine ⟨fun i m H' => m = L.length - i ∧ i ≤ L.length ∧ W i H', ⟨L.length, by simp, Nat.zero_le _, G1, Own.start x1.gh hD⟩, ?_⟩
  rintro i m H' ⟨rfl, hi, G', o⟩
  have gG : Ex G1 H' := o.xt.gg.trans o.xt.gh
  by_cases hlt : i < L.length
  · refine .inr ⟨w.goes i H' hlt gG, W (i + 1), fun H' p' => ⟨L.length - (i + 1), by omega, rfl, hlt, p'⟩, fun x H'' y => ?_⟩
    obtain ⟨d, hd, y⟩ := w.yields i H' x H'' hlt gG y
    obtain ⟨G'', x2, dx⟩ := y G' o.xt.gg o.xt.gh
    have o2 := o.go x2
    rw [List.getElem?_map] at hd
    cases ha : L[i]? with
    | none => rw [ha] at hd; cases hd
    | some a =>
      rw [ha] at hd
      have hd := Option.some.inj hd
      subst hd
      have am : a ∈ L := List.mem_of_getElem? ha
      have sw : SlOk K G'' (wipe σ vs) (wipeD δ vs) := (s.ext ((x1.gg.trans o2.xt.gg))).wipe vs
      refine hg a (wipe σ vs) G'' H'' x sw o2.xt.gh dx _ fun σ2 s2 w2 => ⟨(w2 vs hj).trans (wipe_wipe σ vs), ?_⟩
      show wi1 σ2 H'' _
      refine hw1 a am σ2 G'' H'' s2 o2.xt.gh _ fun J1 G3 H3 x3 w3 => ?_
      have o3 := o2.go x3
      have LM : ((M a).map (enc1 a)).length = (M a).length := by simp
      rw [LM] at w3
      let W' : Nat → Hp → Prop := fun j H' => ∃ G', Own K G1 H1 G' H' D ((L.take i).flatMap F ++ (((M a).take j).filter (p a)).map (f a)) ∧ Ex G3 G'
      refine ⟨fun j m H' => m = (M a).length - j ∧ j ≤ (M a).length ∧ W' j H', ⟨(M a).length, by simp, Nat.zero_le _, G3, by simpa using o3, Ex.refl _⟩, ?_⟩
      rintro j m H4 ⟨rfl, hjm, G4, o4, e4⟩
      have gG4 : Ex G3 H4 := e4.trans o4.xt.gh
      by_cases hlt4 : j < (M a).length
      · refine .inr ⟨w3.goes j H4 hlt4 gG4, W' (j + 1), fun H' p' => ⟨(M a).length - (j + 1), by omega, rfl, hlt4, p'⟩, fun x5 H5 y5 => ?_⟩
        obtain ⟨d5, hd5, y5⟩ := w3.yields j H4 x5 H5 hlt4 gG4 y5
        obtain ⟨G5, x5', dx5⟩ := y5 G4 e4 o4.xt.gh
        have o5 := o4.go x5'
        rw [List.getElem?_map] at hd5
        cases hb : (M a)[j]? with
        | none => rw [hb] at hd5; cases hd5
        | some b =>
          rw [hb] at hd5
          have hd5 := Option.some.inj hd5
          subst hd5
          have bm : b ∈ M a := List.mem_of_getElem? hb
          have s5 : SlOk K G5 (wipe σ2 vs1) (wipeD (δ1 a) vs1) := (s2.ext ((x3.gg.trans e4).trans x5'.gg)).wipe vs1
          refine hg1 a b (wipe σ2 vs1) G5 H5 x5 s5 o5.xt.gh dx5 _ fun σ6 s6 w6 => ⟨(w6 vs1 hj1).trans (wipe_wipe σ2 vs1), ?_⟩
          refine ht a am b bm σ6 G5 H5 s6 o5.xt.gh _ fun G7 H7 x7 => ?_
          have o7 := o5.go x7
          have tk : ((M a).take (j + 1)) = (M a).take j ++ [b] := by rw [List.take_add_one, hb]; rfl
          cases hp : p a b with
          | true =>
            refine he a am b bm hp σ6 G7 H7 (s6.ext x7.gg) x7.gh _ fun v G8 H8 x8 d8 => ?_
            have o8 := o7.go x8
            obtain ⟨acc, ha8, _⟩ := o8.hd
            refine ⟨acc, ha8, ?_, G8, ?_, ((e4.trans x5'.gg).trans x7.gg).trans x8.gg⟩
            · rw [o8.len ha8]
              refine sz_lt ?_
              have h1 : ((L.take i).flatMap F ++ (((M a).take j).filter (p a)).map (f a)).length ≤ (L.flatMap F).length := by
                have hs : (L.flatMap F) = (L.take i).flatMap F ++ (F a ++ (L.drop (i + 1)).flatMap F) := by
                  have h2 : L = L.take i ++ a :: L.drop (i + 1) := split_at' ha
                  conv => lhs; rw [h2]
                  rw [List.flatMap_append, List.flatMap_cons]
                rw [hs, List.length_append, List.length_append, List.length_append]
                have h3 : ((((M a).take j).filter (p a)).map (f a)).length ≤ (F a).length := by
                  show _ ≤ (((M a).filter (p a)).map (f a)).length
                  rw [List.length_map, List.length_map]
                  conv => rhs; rw [← List.take_append_drop j (M a), List.filter_append, List.length_append]
                  omega
                omega
              have h2 : (L.flatMap F).length ≤ 90000 := hl
              omega
            · have o9 := o8.grow hD (us := [v]) (es := [f a b]) (.cons d8 .nil) ha8
              rw [tk, List.filter_append, List.filter_cons, if_pos hp, List.filter_nil, List.map_append, ← List.append_assoc]
              exact o9
          | false =>
            refine ⟨G7, ?_, (e4.trans x5'.gg).trans x7.gg⟩
            rw [tk, List.filter_append, List.filter_cons, if_neg (by rw [hp]; decide), List.filter_nil, List.append_nil]
            exact o7
      · have e5 : j = (M a).length := by omega
        subst e5
        refine .inl ⟨w3.stops H4 gG4, G4, ?_⟩
        rw [List.take_length] at o4
        rw [take_succ_map _ _ _ _ ha]
        exact o4
  · have e5 : i = L.length := by omega
    subst e5
    refine .inl ⟨w.stops H' gG, ?_⟩
    rw [List.take_length] at o
    obtain ⟨G2, x2, d2, _⟩ := o.done hD
    exact q _ G2 H' (x1.trans x2) d2
end

/-! ### statements -/
section
variable (K : PySem.W.Frag)
/-- behind ts the slots are some δ2 with N δ2; what it hands back keeps R -/
def Sd (ts : TS) (δ : Sl) (N : Sl → Prop) (R : Dat → Prop) : Prop := ∀ (σ : L2.St) (G H : Hp) (D : Ends), SlOk K G σ δ → Ex G H →
  (∀ σ2 G2 H2 δ2, Xt G H G2 H2 → SlOk K G2 σ2 δ2 → N δ2 → D.nx σ2 H2) → (∀ v G2 H2 d, Xt G H G2 H2 → Dr K G2 v d → R d → D.rt v H2) → ts D σ H
end
section
variable {K : PySem.W.Frag} {δ : Sl} {ta tb tc te : TE} {t : TT} {x y z d : Dat} {ds es xs ys : List Dat} {i j : Int} {a b c : Bool} {ts tu tv : TS} {N N' : Sl → Prop} {R R' : Dat → Prop}
theorem Sd.mono (h : Sd K ts δ N R) (hn : ∀ δ2, N δ2 → N' δ2) (hr : ∀ d, R d → R' d) : Sd K ts δ N' R' := fun σ G H D s e nx rt =>
  h σ G H D s e (fun σ2 G2 H2 δ2 x2 s2 n2 => nx σ2 G2 H2 δ2 x2 s2 (hn δ2 n2)) fun v G2 H2 d x2 d2 r => rt v G2 H2 d x2 d2 (hr d r)
theorem Sd.weak {δ' : Sl} (w : Weak δ δ') (h : Sd K ts δ' N R) : Sd K ts δ N R := fun σ G H D s e nx rt => h σ G H D (w K G σ s) e nx rt
theorem E1.weak {δ' : Sl} (w : Weak δ δ') (h : E1 K te δ' d) : E1 K te δ d := fun σ G H s e Q q => h σ G H (w K G σ s) e Q q
theorem sd_next (h : N δ) : Sd K tNext δ N R := fun σ G H D s e nx rt => nx σ G H δ (Xt.refl e) s h
theorem sd_seq (h1 : Sd K ts δ N R) (h2 : ∀ δ2, N δ2 → Sd K tu δ2 N' R) : Sd K (tSeq ts tu) δ N' R := fun σ G H D s e nx rt =>
  h1 σ G H { D with nx := tu D } s e (fun σ2 G2 H2 δ2 x2 s2 n2 => h2 δ2 n2 σ2 G2 H2 D s2 x2.gh (fun σ3 G3 H3 δ3 x3 s3 n3 => nx σ3 G3 H3 δ3 (x2.trans x3) s3 n3) fun v G3 H3 d x3 d3 r => rt v G3 H3 d (x2.trans x3) d3 r) fun v G2 H2 d x2 d2 r => rt v G2 H2 d x2 d2 r
theorem sd_asgR {k : Nat} {P : Dat → Prop} (h : ER K te δ P) : Sd K (tAsg te (gName k)) δ (fun δ2 => ∃ d, P d ∧ δ2 = δ.set k (some (.d d))) R := fun σ G H D s e nx rt =>
  h σ G H s e _ fun v G2 H2 d x2 d2 p => nx _ G2 H2 _ x2 (SlOk.set (o := some v) (s := some (.d d)) d2 k (s.ext x2.gg)) ⟨d, p, rfl⟩
theorem sd_set {k : Nat} (h : E1 K te δ d) (h2 : Sd K ts (δ.set k (some (.d d))) N R) : Sd K (tSeq (tAsg te (gName k)) ts) δ N R :=
  sd_seq (sd_asgR (h.er (P := fun x => x = d) rfl)) fun δ2 e => by
    obtain ⟨d', rfl, rfl⟩ := e
    exact h2
theorem sd_setR {k : Nat} {P : Dat → Prop} (h : ER K te δ P) (h2 : ∀ d, P d → Sd K ts (δ.set k (some (.d d))) N R) : Sd K (tSeq (tAsg te (gName k)) ts) δ N R :=
  sd_seq (sd_asgR h) fun δ2 e => by
    obtain ⟨d', p, rfl⟩ := e
    exact h2 d' p
theorem sd_set1 {k : Nat} (h : E1 K te δ d) (h2 : N (δ.set k (some (.d d)))) : Sd K (tAsg te (gName k)) δ N R :=
  (sd_asgR (R := R) (h.er (P := fun x => x = d) rfl)).mono (fun δ2 e => by
    obtain ⟨d', rfl, rfl⟩ := e
    exact h2) fun _ r => r
theorem sd_ret (h : E1 K te δ d) (r : R d) : Sd K (tRet te) δ N R := fun σ G H D s e nx rt => h σ G H s e _ fun v G2 H2 x2 d2 => rt v G2 H2 d x2 d2 r
theorem sd_retR {P : Dat → Prop} (h : ER K te δ P) (r : ∀ d, P d → R d) : Sd K (tRet te) δ N R := fun σ G H D s e nx rt => h σ G H s e _ fun v G2 H2 d x2 d2 p => rt v G2 H2 d x2 d2 (r d p)
theorem sd_drop (h : ER K te δ fun _ => True) (h2 : Sd K ts δ N R) : Sd K (tSeq (tDrop te) ts) δ N R :=
  sd_seq (N := fun δ2 => δ2 = δ) (fun σ G H D s e nx rt => h σ G H s e _ fun v G2 H2 d x2 d2 p => nx σ G2 H2 δ x2 (s.ext x2.gg) rfl) fun δ2 e => by
    subst e
    exact h2
theorem sd_if (h : T1 K t δ b) (h1 : b = true → Sd K ts δ N R) (h2 : b = false → Sd K tu δ N R) : Sd K (tIfS t ts tu) δ N R := fun σ G H D s e nx rt =>
  h σ G H s e _ fun G1 H1 x1 => by
    cases b with
    | true => exact h1 rfl σ G1 H1 D (s.ext x1.gg) x1.gh (fun σ2 G2 H2 δ2 x2 s2 n2 => nx σ2 G2 H2 δ2 (x1.trans x2) s2 n2) fun v G2 H2 d x2 d2 r => rt v G2 H2 d (x1.trans x2) d2 r
    | false => exact h2 rfl σ G1 H1 D (s.ext x1.gg) x1.gh (fun σ2 G2 H2 δ2 x2 s2 n2 => nx σ2 G2 H2 δ2 (x1.trans x2) s2 n2) fun v G2 H2 d x2 d2 r => rt v G2 H2 d (x1.trans x2) d2 r
/-- if c: (returns or raises) -/
theorem sd_guard (h : T1 K t δ b) (h1 : b = true → Sd K ts δ (fun _ => False) R) (h2 : b = false → Sd K tu δ N R) : Sd K (tSeq (tIfS t ts tNext) tu) δ N R := fun σ G H D s e nx rt =>
  h σ G H s e _ fun G1 H1 x1 => by
    cases b with
    | true => exact h1 rfl σ G1 H1 { D with nx := tu D } (s.ext x1.gg) x1.gh (fun σ2 G2 H2 δ2 x2 s2 n2 => n2.elim) fun v G2 H2 d x2 d2 r => rt v G2 H2 d (x1.trans x2) d2 r
    | false => exact h2 rfl σ G1 H1 D (s.ext x1.gg) x1.gh (fun σ2 G2 H2 δ2 x2 s2 n2 => nx σ2 G2 H2 δ2 (x1.trans x2) s2 n2) fun v G2 H2 d x2 d2 r => rt v G2 H2 d (x1.trans x2) d2 r
/-- if c: raise .., c being false -/
theorem sd_need (h : T1 K t δ false) (h2 : N δ) : Sd K (tIfS t ts tNext) δ N R := sd_if h (fun z => nomatch z) fun _ => sd_next h2
/-- for: C says what is known ahead of turn i; slots are forgotten from turn to turn -/
theorem sd_for {α : Type} {wi : TI} {g : TG} {js : List Nat} (L : List α) (enc : α → Dat) {δ' : α → Sl} (C : Nat → Prop) (hw : W1 K wi δ (L.map enc)) (hg : ∀ a, G1 K g js δ (enc a) (δ' a)) (h0 : C 0)
    (hb : ∀ (i : Nat) (a : α), L[i]? = some a → C i → Sd K ts (δ' a) (fun δ2 => C (i + 1) ∧ Weak δ2 δ) R) (hd : C L.length → Sd K tu δ N R) : Sd K (tSeq (tFor wi g ts) tu) δ N R := fun σ G H D s e nx rt => by
  refine hw σ G H s e _ fun J G1 H1 x1 w => ?_
  have LL : (L.map enc).length = L.length := by simp
  rw [LL] at w
  refine for_it w (fun i σ' H' => C i ∧ ∃ G', Xt G H G' H' ∧ Ex G1 G' ∧ SlOk K G' σ' δ) ⟨h0, G1, x1, Ex.refl _, s.ext x1.gg⟩ (fun i σ' H' _ p => ?_) (fun i x σ' H' H'' hi p y => ?_) (fun σ' H' p => ?_)
  · obtain ⟨_, G', x2, e2, _⟩ := p
    exact e2.trans x2.gh
  · obtain ⟨c, G', x2, e2, s2⟩ := p
    obtain ⟨d, hd', y⟩ := y
    obtain ⟨G'', x3, dx⟩ := y G' e2 x2.gh
    rw [List.getElem?_map] at hd'
    cases ha : L[i]? with
    | none => rw [ha] at hd'; cases hd'
    | some a =>
      rw [ha] at hd'
      have hd' := Option.some.inj hd'
      subst hd'
      refine hg a σ' G'' H'' x (s2.ext x3.gg) x3.gh dx _ fun σ4 s4 _ => ?_
      refine hb i a ha c σ4 G'' H'' _ s4 x3.gh (fun σ5 G5 H5 δ5 x5 s5 n5 => ⟨n5.1, G5, (x2.trans x3).trans x5, (e2.trans x3.gg).trans x5.gg, n5.2 K G5 σ5 s5⟩) fun v G5 H5 d x5 d5 r => rt v G5 H5 d ((x2.trans x3).trans x5) d5 r
  · obtain ⟨c, G', x2, e2, s2⟩ := p
    exact hd c σ' G' H' D s2 x2.gh (fun σ3 G3 H3 δ3 x3 s3 n3 => nx σ3 G3 H3 δ3 (x2.trans x3) s3 n3) fun v G3 H3 d x3 d3 r => rt v G3 H3 d (x2.trans x3) d3 r
end

/-! ### a list that a loop fills -/
section
variable (K : PySem.W.Frag)
/-- what ahead of and behind a statement of the loop's turn: the list at p, behind which some items come -/
def Ad (B : Nat) (p : Addr) (tb : TS) (δ : Sl) (N : Sl → Prop) (P : List Dat → Prop) : Prop := ∀ (σ : L2.St) (G1 H1 G H : Hp) (ds : List Dat) (D : Ends), SlOk K G σ δ → Own K G1 H1 G H p ds → H1 p = none → ds.length ≤ B →
  (∀ σ2 G2 H2 δ2 es, Own K G1 H1 G2 H2 p (ds ++ es) → Ex G G2 → SlOk K G2 σ2 δ2 → N δ2 → P es → D.nx σ2 H2) → tb D σ H
end
section
variable {K : PySem.W.Frag} {δ : Sl} {ta tb tc te : TE} {t : TT} {x y z d : Dat} {ds es xs ys : List Dat} {i j : Int} {a b c : Bool} {ts tu tv : TS} {N N' : Sl → Prop} {R R' : Dat → Prop} {B : Nat} {p : Addr} {P P' : List Dat → Prop}
theorem Sd.ad (h : Sd K ts δ N fun _ => False) (hp : P []) : Ad K B p ts δ N P := fun σ G1 H1 G H ds D s o h1 hl nx =>
  h σ G H D s o.xt.gh (fun σ2 G2 H2 δ2 x2 s2 n2 => nx σ2 G2 H2 δ2 [] (by rw [List.append_nil]; exact o.go x2) x2.gg s2 n2 hp) fun v G2 H2 d x2 d2 r => r.elim
theorem ad_seq (h : Sd K ts δ N fun _ => False) (h2 : ∀ δ2, N δ2 → Ad K B p tu δ2 N' P) : Ad K B p (tSeq ts tu) δ N' P := fun σ G1 H1 G H ds D s o h1 hl nx =>
  h σ G H { D with nx := tu D } s o.xt.gh (fun σ2 G2 H2 δ2 x2 s2 n2 => h2 δ2 n2 σ2 G1 H1 G2 H2 ds D s2 (o.go x2) h1 hl fun σ3 G3 H3 δ3 es o3 e3 s3 n3 p3 => nx σ3 G3 H3 δ3 es o3 (x2.gg.trans e3) s3 n3 p3) fun v G2 H2 d x2 d2 r => r.elim
theorem ad_set {k : Nat} (h : E1 K te δ d) (h2 : Ad K B p ts (δ.set k (some (.d d))) N P) : Ad K B p (tSeq (tAsg te (gName k)) ts) δ N P :=
  ad_seq (sd_asgR (h.er (P := fun x => x = d) rfl)) fun δ2 e => by
    obtain ⟨d', rfl, rfl⟩ := e
    exact h2
theorem ad_setR {k : Nat} {P0 : Dat → Prop} (h : ER K te δ P0) (h2 : ∀ d, P0 d → Ad K B p ts (δ.set k (some (.d d))) N P) : Ad K B p (tSeq (tAsg te (gName k)) ts) δ N P :=
  ad_seq (sd_asgR h) fun δ2 e => by
    obtain ⟨d', p, rfl⟩ := e
    exact h2 d' p
theorem ad_if (h : T1 K t δ b) (h1 : b = true → Ad K B p ts δ N P) (h2 : b = false → Ad K B p tu δ N P) : Ad K B p (tIfS t ts tu) δ N P := fun σ G1 H1 G H ds D s o hh hl nx =>
  h σ G H s o.xt.gh _ fun G2 H2 x2 => by
    cases b with
    | true => exact h1 rfl σ G1 H1 G2 H2 ds D (s.ext x2.gg) (o.go x2) hh hl fun σ3 G3 H3 δ3 es o3 e3 s3 n3 p3 => nx σ3 G3 H3 δ3 es o3 (x2.gg.trans e3) s3 n3 p3
    | false => exact h2 rfl σ G1 H1 G2 H2 ds D (s.ext x2.gg) (o.go x2) hh hl fun σ3 G3 H3 δ3 es o3 e3 s3 n3 p3 => nx σ3 G3 H3 δ3 es o3 (x2.gg.trans e3) s3 n3 p3
/-- l.append(e) -/
theorem ad_append {k : Nat} (hB : B < 100000) (hk : δ[k]? = some (some (.r (.ref p)))) (h : E1 K te δ d) (hn : N δ) (hp : P [d]) : Ad K B p (tDrop (tBM K "list" rAppend (tVar k) (tCons te tNil))) δ N P := fun σ G1 H1 G H ds D s o hh hl nx => by
  obtain ⟨v, h1, h2⟩ := s.get hk
  have h2 : v = .ref p := h2
  subst h2
  obtain ⟨vs, hv, _⟩ := o.hd
  refine ⟨_, h1, .inl ⟨rfl, vs, sqL_of hv⟩, h σ G H s o.xt.gh _ fun v G2 H2 x2 d2 => ?_⟩
  have o2 := o.go x2
  have hv2 : H2 p = some (.lst vs) := x2.hh p _ hv
  exact ⟨p, vs, v, rfl, rfl, hv2, by rw [o2.len hv2]; exact sz_lt (by omega), nx σ G2 _ δ [d] (o2.grow hh (.cons d2 .nil) hv2) x2.gg (s.ext x2.gg) hn hp⟩
/-- l.extend(e), e a new list -/
theorem ad_extend {k : Nat} (hB : B + es.length ≤ 100000) (hk : δ[k]? = some (some (.r (.ref p)))) (h : ∀ (σ : L2.St) (G H : Hp), SlOk K G σ δ → Ex G H → ∀ Q : VK, (∀ q G2 H2 ws, Xt G H G2 H2 → H q = none → H2 q = some (.lst ws) → DrAll K G2 ws es → Q (.ref q) H2) → te σ H Q) (hn : N δ) (hp : P es) :
    Ad K B p (tDrop (tBM K "list" rExtend (tVar k) (tCons te tNil))) δ N P := fun σ G1 H1 G H ds D s o hh hl nx => by
  obtain ⟨v, h1, h2⟩ := s.get hk
  have h2 : v = .ref p := h2
  subst h2
  obtain ⟨vs, hv, _⟩ := o.hd
  refine ⟨_, h1, .inl ⟨rfl, vs, sqL_of hv⟩, h σ G H s o.xt.gh _ fun q G2 H2 ws x2 hq hq2 d2 => ?_⟩
  have o2 := o.go x2
  have hv2 : H2 p = some (.lst vs) := x2.hh p _ hv
  refine ⟨p, q, vs, ws, rfl, rfl, hv2, hq2, ?_, nx σ G2 _ δ es (o2.grow hh d2 hv2) x2.gg (s.ext x2.gg) hn hp⟩
  rw [o2.len hv2, dpAll_len d2]
  exact sz_of (by omega)
/-- l = [..]; for target in iter: .. l.append(..); the rest -/
theorem sd_collect {α : Type} {k : Nat} {ta : TA} {wi : TI} {g : TG} {js : List Nat} {ds0 : List Dat} (L : List α) (enc : α → Dat) (F : α → List Dat) {δ' : Addr → α → Sl} (h0 : A1 K ta δ ds0)
    (hw : ∀ p, W1 K wi (δ.set k (some (.r (.ref p)))) (L.map enc)) (hg : ∀ p a, G1 K g js (δ.set k (some (.r (.ref p)))) (enc a) (δ' p a))
    (hb : ∀ p a, a ∈ L → Ad K B p tv (δ' p a) (fun δ2 => Weak δ2 (δ.set k (some (.r (.ref p))))) (fun es => es = F a)) (hB : (ds0 ++ L.flatMap F).length ≤ B) (hB2 : B ≤ 100000)
    (hd : Sd K ts (δ.set k (some (.d (.list (ds0 ++ L.flatMap F))))) N R) : Sd K (tSeq (tAsg (tLst ta) (gName k)) (tSeq (tFor wi g tv) ts)) δ N R := fun σ G H D s e nx rt => by
  refine h0 σ G H s e _ fun vs G1 H1 x1 d1 => ⟨by rw [dpAll_len d1]; rw [List.length_append] at hB; exact sz_of (by omega), fun p hp => ?_⟩
  have o0 : Own K G1 H1 G1 (upd H1 p (.lst vs)) p ds0 := by
    have q := (Own.start (K := K) x1.gh hp).grow hp d1 upd_same
    rw [upd_upd] at q
    exact q
  have s0 : SlOk K G1 (σ.set k (some (.ref p))) (δ.set k (some (.r (.ref p)))) := SlOk.set (o := some (.ref p)) (s := some (.r (.ref p))) rfl k (s.ext x1.gg)
  show tFor wi g tv { D with nx := ts D } (σ.set k (some (.ref p))) (upd H1 p (.lst vs))
  refine hw p _ G1 _ s0 o0.xt.gh _ fun J G2 H2 x2 w => ?_
  have LL : (L.map enc).length = L.length := by simp
  rw [LL] at w
  refine for_it w (fun i σ' H' => ∃ G', Own K G1 H1 G' H' p (ds0 ++ (L.take i).flatMap F) ∧ Ex G2 G' ∧ SlOk K G' σ' (δ.set k (some (.r (.ref p))))) ⟨G2, by simpa using o0.go x2, Ex.refl _, s0.ext x2.gg⟩ (fun i σ' H' _ q => ?_) (fun i x σ' H' H'' hi q y => ?_) (fun σ' H' q => ?_)
  · obtain ⟨G', o, e2, _⟩ := q
    exact e2.trans o.xt.gh
  · obtain ⟨G', o, e2, s2⟩ := q
    obtain ⟨d, hd', y⟩ := y
    obtain ⟨G'', x3, dx⟩ := y G' e2 o.xt.gh
    rw [List.getElem?_map] at hd'
    cases ha : L[i]? with
    | none => rw [ha] at hd'; cases hd'
    | some a =>
      rw [ha] at hd'
      have hd' := Option.some.inj hd'
      subst hd'
      have o3 := o.go x3
      refine hg p a σ' G'' H'' x (s2.ext x3.gg) x3.gh dx _ fun σ4 s4 _ => ?_
      refine hb p a (List.mem_of_getElem? ha) σ4 G1 H1 G'' H'' _ _ s4 o3 hp ?_ fun σ5 G5 H5 δ5 es o5 e5 s5 n5 p5 => ⟨G5, ?_, (e2.trans x3.gg).trans e5, n5 K G5 σ5 s5⟩
      · refine Nat.le_trans ?_ hB
        rw [List.length_append, List.length_append]
        have := flatMap_len_take L F i
        omega
      · subst p5
        rw [take_succ_map _ _ _ _ ha, ← List.append_assoc]
        exact o5
  · obtain ⟨G', o, e2, s2⟩ := q
    rw [List.take_length] at o
    obtain ⟨G3, x3, d3, e3⟩ := o.done hp
    have x13 := x1.trans x3
    have s3 : SlOk K G3 σ' (δ.set k (some (.d (.list (ds0 ++ L.flatMap F))))) := slot_swap d3 k (s2.ext e3)
    exact hd σ' G3 H' D s3 x3.gh (fun σ4 G4 H4 δ4 x4 s4 n4 => nx σ4 G4 H4 δ4 (x13.trans x4) s4 n4) fun v G4 H4 d x4 d4 r => rt v G4 H4 d (x13.trans x4) d4 r
end
end DL

/-! my data layer: defs by their promises -/
namespace DL
open PySem PySem.Spec L2 RZ
open PyProof.Rows (envOfC)
open Evl (Ex ex_l ex_t)
abbrev FnD (K : PySem.W.Frag) (x : Str) (st : Stmt) (f : Addr) (fd : FuncData) : Prop := FunD K x x (defArgs st) (defBody st) (defScope st) [] [] f fd
def startD (ds : List Dat) (n : Nat) : Sl := ds.map (fun d => some (SD.d d)) ++ List.replicate n none
theorem fn_ok {P : Program} {w : World} {K : PySem.W.Frag} {mg : Str → Option Value} {base : Heap} {ι : Type} {x : Str} {st : Stmt} {f : Addr} {fd : FuncData} {N ps : List Str} {k : Nat} {args : ι → List Dat} {ok : ι → Prop} {res : ι → Dat → Prop} {t : TS}
    (F : FnD K x st f fd) (S : FnScope N ps (defScope st)) (len : ∀ i, (args i).length = ps.length)
    (der : ∀ (cdv : Value) (A : Around) (outer : List Env) (s : Shared) (H : Hp) (E : XK), Room k (A.deeper (envOfC x (defScope st) s.heap.objs.size f cdv)) → PSs (cxOf CX0 P w K mg base N x (defScope st) f cdv A outer s H E).nox (defBody st) t)
    (bd : ∀ i, ok i → Sd K t (startD (args i) (N.length - ps.length)) (fun _ => res i .none) (res i)) : FnOk P w K mg base CX0 (k + 1) f fd ps (SpI K args ok res) := by
  refine F.ok S (fun vs H Q E h => ?_) (fun cdv A outer s H vs Q E hr h => ⟨t, (der cdv A outer s H E hr).nox, ?_⟩)
  · obtain ⟨i, G, _, _, d, _⟩ := h
    exact (dpAll_len d).trans (len i)
  · obtain ⟨i, G, ho, e, d, q⟩ := h
    have hl : vs.length = ps.length := (dpAll_len d).trans (len i)
    have s0 : SlOk K G (start N vs) (startD (args i) (N.length - ps.length)) := by
      unfold L2.start startD
      rw [hl]
      exact SlOk.start d _
    exact bd i ho (start N vs) G H _ s0 e (fun σ2 G2 H2 δ2 x2 s2 r => q .non G2 H2 .none x2 .non r) fun v G2 H2 d x2 d2 r => q v G2 H2 d x2 d2 r
/-- what the top has left -/
structure Top (K : PySem.W.Frag) (mg : Str → Option Value) (h : Heap) : Prop where
  kin : K.In h
  ns : h.Ns mainGlobals mg
  says : He.SaysD Mix.fa Mix.fn K
section
variable {K : PySem.W.Frag} {mg : Str → Option Value} {h : Heap}
theorem Top.free (T : Top K mg h) (i : Nat) (x : Str) (e : Mix.fa[i]? = some (.free x) := by rfl) : mg x = none := He.free_ok T.kin T.ns (T.says.fact i e)
theorem Top.int (T : Top K mg h) (i : Nat) (x : Str) (n : Int) (e : Mix.fa[i]? = some (.int x n) := by rfl) : ∃ t, mg x = some (.int n t) := He.int_ok T.kin T.ns (T.says.fact i e)
end
/-- a def that may be called by the name x, at level k -/
theorem cal_mk {P : Program} {w : World} {K : PySem.W.Frag} {mg : Str → Option Value} {base : Heap} {k : Nat} {x : Str} {f : Addr} {fd : FuncData} {ps : List Str} {sp : Sp} (F : FnOk P w K mg base CX0 k f fd ps sp) (g : mg x = some (.ref f)) (kp : PySem.W.keepIn K (.ref f) = true) (b : Binds K fd ps []) : C8.Cal P w K mg base k x sp [] :=
  ⟨⟨f, fd, ps, [], F, g, kp, b, .nil⟩⟩
end DL

/-! my data layer: the hand layer's rules with the written part told ahead; slices of tuples, sums of tuples, isinstance -/
namespace DL
open PySem PySem.Spec L2 RZ
open Evl (Ex ex_l ex_t)
section
variable (K : PySem.W.Frag) {X : Cx} (hK : X.K = K := by rfl)
include hK
theorem k_ixL : IxR X (rIxL K) := hK ▸ ix_list
theorem k_ixT : IxR X (rIxT K) := hK ▸ ix_tup
theorem k_len : CallR X (.builtin "len") (rLenS K) := hK ▸ call_len_seq
theorem k_listOf : CallR X (.type "list") (rListS K) := hK ▸ call_list_of
theorem k_tupOf : CallR X (.type "tuple") (rTupS K) := hK ▸ call_tuple_of
theorem k_isi : CallR X (.builtin "isinstance") (rIsi K) := hK ▸ call_isi
theorem k_slL : SlR X (rSlL K) := hK ▸ sl_list
theorem k_slT : SlR X (rSlA K) := hK ▸ sl_tupA
theorem k_tupZ : CallR X (.type "tuple") (rTupZ K) := by
  subst hK
  intro pins s σ H xs us Q I r h
  obtain ⟨p, ys, rfl, hq, q⟩ := h
  obtain ⟨u, rfl, rx⟩ := vals1 r
  cases rx
  obtain ⟨its, r', pl, hz⟩ := I.list hq
  refine call_tuple_list pl.isList (fun h' kp => ?_) (by have := r'.length; simp only [List.size_toArray]; omega)
  have J : Inv X pins σ H { s with heap := h' } := I.kept (t' := s.toks) kp
  exact ⟨.ref h'.objs.size, _, J.laid (a := h'.objs.size) (o := .frz { cls := .type "tuple", data := .seq its.toArray } (.tup ys)) (t' := s.toks) (fun b o e => Heap.get?_push_of_some _ e) (Nat.le_refl _) ⟨Heap.get?_push_size _ rfl, hz, its, r', PyProof.Rows.IsTup.new _ _⟩, rfl, q _ _ (J.hok.fresh (Nat.le_refl _)) rfl⟩
def rCatZ (K : PySem.W.Frag) : R2 := fun x y H Q => ∃ a b xs ys, x = .ref a ∧ y = .ref b ∧ SqT K H a xs ∧ SqT K H b ys ∧ xs.length + ys.length ≤ sizeLine ∧
  (xs = [] → Q (.ref b) H) ∧ (xs ≠ [] → ys = [] → Q (.ref a) H) ∧ (xs ≠ [] → ys ≠ [] → ∀ (p : Addr) (o : Obj), H p = none → o.dict = none → Q (.ref p) (upd H p (.frz o (.tup (xs ++ ys)))))
theorem k_catZ : OpR X (binaryOp .Add) (rCatZ K) := by
  subst hK
  intro pins s σ H x y v u Q I rx ry h
  obtain ⟨a, b, xs, ys, rfl, rfl, ha, hb, hz, q0, q1, q2⟩ := h
  by_cases hx : xs = []
  · exact op_catA pins s σ H _ _ v u Q I rx ry ⟨a, b, xs, ys, rfl, rfl, ha, hb, hz, q0, fun n => absurd hx n, fun n => absurd hx n⟩
  · cases rx
    cases ry
    obtain ⟨i1, r1, p1, _⟩ := I.tuple ha
    obtain ⟨i2, r2, p2, _⟩ := I.tuple hb
    have nil : ∀ {zs : List V} {is : List Value}, Vals zs is → (zs = [] ↔ is = []) := fun r => by have h := r.length; rw [← List.length_eq_zero_iff, ← List.length_eq_zero_iff, h]
    refine HT.cat_tup p1 p2 (fun z => hx ((nil r1).mpr z)) (fun z => ⟨.ref a, H, I, rfl, q1 hx ((nil r2).mpr z)⟩) (fun z => ?_) (by rw [← r1.length, ← r2.length]; exact hz)
    exact ⟨.ref s.heap.objs.size, _, I.laid (a := s.heap.objs.size) (o := .frz { cls := .type "tuple", data := .seq (i1 ++ i2).toArray } (.tup (xs ++ ys))) (t' := s.toks) (fun b ob q => Heap.get?_push_of_some _ q) (Nat.le_refl _) ⟨Heap.get?_push_size _ rfl, by rw [List.length_append]; exact hz, _, r1.append r2, PyProof.Rows.IsTup.new _ _⟩, rfl, q2 hx (fun w => z ((nil r2).mp w)) _ _ (I.hok.fresh (Nat.le_refl _)) rfl⟩
theorem k_notIn : OpR X (compareOp .NotIn) (rIn K true) := hK ▸ op_notIn_seq
end
section
variable (K : PySem.W.Frag) {X : Cx}
theorem k_all (hK : X.K = K := by rfl) (hc : X.calm = true := by rfl) : CallR X (.builtin "all") (rAll K) := hK ▸ cr_all hc
theorem k_sum (hK : X.K = K := by rfl) (hc : X.calm = true := by rfl) : CallR X (.builtin "sum") (rSum K) := hK ▸ cr_sum hc
theorem k_eqD (hu : X.A.units + 64 < cLine) (hK : X.K = K := by rfl) : OpR X (compareOp .Eq) (rEqD K) := hK ▸ op_eqD hu
theorem k_neD (hu : X.A.units + 64 < cLine) (hK : X.K = K := by rfl) : OpR X (compareOp .NotEq) (rNeD K) := hK ▸ op_neD hu
theorem k_notInD (hu : X.A.units + 65 < cLine) (hK : X.K = K := by rfl) : OpR X (compareOp .NotIn) (rNotInD K) := hK ▸ op_notInD hu
theorem k_tuple {es : List Expr} {k : Nat} {t : TGs} {n : Nat} {pos : Pos} (h : PGs X es t) (hK : X.K = K := by rfl) (hc : X.calm = true := by rfl)
    (hn : (assignEach es X.env).length = n := by rfl) (hst : (assignEach es X.env).findIdx? (·.1) = none := by rfl) : PG X (.Tuple es k pos) (gTup K n t) := hK ▸ pg_tup hc h hn hst
/-- (a, b, ..) by its object -/
theorem pe_tupZ {es : List Expr} {t : TA} {x1 : Nat} {pos : Pos} (h : PA X es t) : PE X (.Tuple es x1 pos) (tTupZ t) := by
  constructor
  intro pins s σ H Q I hq
  refine wpAny_Tuple_spliced (thn (h.run pos pins s σ H _ I hq) fun us s1 ⟨xs, H1, I1, r, z, q⟩ => ⟨by rw [← r.length]; exact z, ?_⟩)
  exact ⟨.ref s1.heap.objs.size, _, I1.laid (a := s1.heap.objs.size) (o := .frz { cls := .type "tuple", data := .seq us.toArray } (.tup xs)) (t' := s1.toks) (fun b u e => Heap.get?_push_of_some _ e) (Nat.le_refl _) ⟨Heap.get?_push_size _ rfl, z, us, r, ⟨_, Heap.get?_push_size _ rfl, rfl, _, rfl⟩⟩, rfl, q _ _ (I1.hok.fresh (Nat.le_refl _)) rfl⟩
theorem k_piL {tg l : Expr} {tl : TE} (hl : PE X l tl) (hK : X.K = K := by rfl) : PI X tg l (iList K tl) := hK ▸ pi_list hl
theorem k_piT {tg l : Expr} {tl : TE} (hl : PE X l tl) (hK : X.K = K := by rfl) : PI X tg l (iTup K tl) := hK ▸ pi_tup hl
theorem k_zip {e e2 : Expr} {ta : TA} {p pos tpos : Pos} {elts : List Expr} {kk : Nat} (hg : Gl X "zip") (hm : X.mg "zip" = none) (ha : PA X [e, e2] ta) (hK : X.K = K := by rfl)
    (hs : starEach [e, e2] X.env = (false, eval e X.env) :: starEach [e2] X.env := by rfl) (hpl : (backTo pos (starEach [e2] X.env)).any (·.1) = false := by rfl) :
    PI X (.Tuple elts kk tpos) (.Call (.Name "zip" p) [e, e2] [] pos) (iZipA K ta) := hK ▸ pi_zipA hg hm ha hs hpl
theorem k_enum {e : Expr} {ta : TA} {p pos tpos : Pos} {elts : List Expr} {kk : Nat} (hg : Gl X "enumerate") (hm : X.mg "enumerate" = none) (ha : PA X [e] ta) (hK : X.K = K := by rfl)
    (hs : starEach [e] X.env = [(false, eval e X.env)] := by rfl) : PI X (.Tuple elts kk tpos) (.Call (.Name "enumerate" p) [e] [] pos) (iEnum K ta) := hK ▸ pi_enum hg hm ha hs
end
section
variable {K : PySem.W.Frag} {δ : Sl} {ta tb tc te : TE} {t u : TT} {x y z d : Dat} {ds es : List Dat} {r r' : R2} {i j : Int} {a b c : Bool}
/-! a slice of a tuple (the whole of it is the tuple itself) -/
theorem cutD_whole {lo hi : Option Int} (h : HT.sIx ds.length 0 lo = 0 ∧ HT.sIx ds.length ds.length hi = ds.length) : cutD ds lo hi = ds := by
  unfold cutD
  rw [h.1, h.2]
  simp
theorem sl_t {st : Sty} {lo hi : Option Int} : SLD K (rSlA K) (.tuple st ds) lo hi (.tuple .a (cutD ds lo hi)) := fun G H v e d1 Q q => by
  cases d1 with
  | tup hs ha =>
    have hc := dpAll_cut ha lo hi
    refine ⟨_, _, rfl, (hs.ext e).t, fun w => ?_, fun _ p hp => ?_⟩
    · rw [dpAll_len ha] at w
      rw [cutD_whole w] at q
      exact q _ G H (Xt.refl e) (.tup (s := .a) hs.rd ha)
    · exact q _ _ _ (Xt.new e hp) (.tup (s := .a) (.inl upd_same) (hc.ext (Xt.new e hp).gg))
theorem sl_tw {st : Sty} {lo hi : Option Int} (w : HT.sIx ds.length 0 lo = 0 ∧ HT.sIx ds.length ds.length hi = ds.length) : SLD K (rSlA K) (.tuple st ds) lo hi (.tuple st ds) := fun G H v e d1 Q q => by
  cases d1 with
  | tup hs ha =>
    refine ⟨_, _, rfl, (hs.ext e).t, fun _ => q _ G H (Xt.refl e) (.tup hs ha), fun n => ?_⟩
    rw [dpAll_len ha] at n
    exact absurd w n
/-- t + u, by its object -/
theorem rd_cat (hl : ds.length + es.length ≤ 100000) : RD K (rCatZ K) (.tuple .s ds) (.tuple .s es) (.tuple .s (ds ++ es)) := fun G H v u e dv du Q q => by
  cases dv with
  | tup hs ha =>
    cases du with
    | tup ht hb =>
      refine ⟨_, _, _, _, rfl, rfl, (hs.ext e).t, (ht.ext e).t, by rw [dpAll_len ha, dpAll_len hb]; exact sz_of hl, fun z => ?_, fun _ z => ?_, fun _ _ p o hp ho => ?_⟩
      · subst z
        cases ha
        exact q _ G H (Xt.refl e) (.tup ht hb)
      · subst z
        cases hb
        rw [List.append_nil] at q
        exact q _ G H (Xt.refl e) (.tup hs ha)
      · exact q _ _ _ (newZ e (dpAll_app ha hb) hp ho).1 (newZ e (dpAll_app ha hb) hp ho).2
theorem cutD_tail : cutD ds (some 1) none = ds.drop 1 := by
  unfold cutD
  rw [show HT.sIx ds.length 0 (some 1) = min 1 ds.length from HT.sIx_nat ds.length 0 1, HT.sIx_none]
  cases ds with
  | nil => rfl
  | cons x r =>
    rw [show min 1 (x :: r).length = 1 by simp]
    show List.take ((x :: r).length - 1) r = r
    rw [List.length_cons, Nat.add_sub_cancel]
    exact List.take_length
theorem cutD_from (n : Nat) : cutD ds (some (n : Int)) none = ds.drop n := by
  unfold cutD
  rw [HT.sIx_nat ds.length 0 n, HT.sIx_none]
  rcases Nat.le_total n ds.length with h | h
  · rw [Nat.min_eq_left h]
    exact List.take_of_length_le (by rw [List.length_drop]; omega)
  · rw [Nat.min_eq_right h, List.drop_eq_nil_of_le (Nat.le_refl _), List.drop_eq_nil_of_le h]
    simp
theorem cutD_to (n : Nat) : cutD ds none (some (n : Int)) = ds.take n := by
  unfold cutD
  rw [HT.sIx_nat ds.length ds.length n, HT.sIx_none]
  rw [List.drop_zero, Nat.sub_zero]
  rcases Nat.le_total n ds.length with h | h
  · rw [Nat.min_eq_left h]
  · rw [Nat.min_eq_right h, List.take_of_length_le h, List.take_length]
/-! isinstance with a built-in class -/
def tyName : Dat → String
  | .none => "NoneType" | .bool _ => "bool" | .int _ => "int" | .list _ => "list" | .tuple _ _ => "tuple"
theorem dp_ty {G : Hp} {v : V} (h : Dr K G v d) : TyX K G v (.type (tyName d)) := by
  cases h with
  | non => exact .base .non
  | bl b => exact .base (.bl b)
  | int i => exact .base (.int i)
  | lst hs ha =>
    rcases hs with (h | ⟨o, h⟩) | h
    · exact .base (.lst h)
    · exact .base (.frz h)
    · obtain ⟨o, its, n, h1, h2, _⟩ := h
      exact .kList h1 h2
  | tup hs ha =>
    rcases hs.rd with h | ⟨o, h⟩
    · exact .base (.tup h)
    · exact .fTuple h
theorem e_isi {T : String} (h : E1 K te δ d) (hb : kitB (tyName d) T = some b) : E1 K (tCB (rIsi K) (tCons te (tCons (tC (.ty T)) tNil))) δ (.bool b) := fun σ G H s e Q q =>
  h σ G H s e _ fun v G1 H1 x1 d1 => ⟨v, .ty T, _, _, b, rfl, .ty T, dp_ty (d1.ext x1.gh), kit_ty hb, q _ G1 H1 x1 (.bl b)⟩
end
end DL

/-! my data layer: rules that the hand layer has not: a for over a list or a tuple, tuple.index, min of a tuple, len(set(tuple)), sorted of data, > of data -/
namespace DL
open PySem PySem.Spec L2 RZ
open PyProof.Rows (IntsAre)
open Evl (Ex ex_l ex_t)
theorem u64 {k : Nat} {A : Around} (hr : Room k A) : A.units + 64 < cLine := by have := hr.un; omega
theorem u65 {k : Nat} {A : Around} (hr : Room k A) : A.units + 65 < cLine := by have := hr.un; omega
theorem u90 {k : Nat} {A : Around} (hr : Room k A) : A.units + 90 < cLine := by have := hr.un; omega
section
variable (K : PySem.W.Frag) {X : Cx}
theorem k_bm {T name : _} {id : String} {r : V → List V → Hp → VK → Prop} {o e : Expr} {es : List Expr} {to : TE} {t : TA} {apos cpos : Pos} (pa : PlainAttrs T) (slot : Slot T name id) (hty : typeOf (.builtin id) = pure (.type "method_descriptor")) (hm : MtR X id r) (ho : PE X o to) (ha : PA X (e :: es) t) (hK : X.K = K := by rfl)
    (h1 : attributeBase o name X.env (eval o X.env) = eval o X.env := by rfl)
    (h2 : ((backTo cpos (starEach (e :: es) X.env)).all (fun x => !x.1) && (backToKw cpos (keywordEach [] X.env)).all (fun x => x.1.isSome) && decide ((e :: es).length + ([] : List Keyword).length + (if ([] : List Keyword).isEmpty then 0 else 1) < 30)) = true := by rfl)
    (h3 : (apos.endLine == cpos.line) = true := by rfl) (h4 : starEach (e :: es) X.env = (false, eval e X.env) :: starEach es X.env := by rfl) (h5 : (backTo cpos (starEach es X.env)).any (·.1) = false := by rfl) :
    PE X (.Call (.Attribute o name apos) (e :: es) [] cpos) (tBM K T r to t) := hK ▸ pe_bm pa slot hty hm ho ha h1 h2 h3 h4 h5
/-- o.m(e, ..), o a tuple known by its object -/
def tBMZ (r : V → List V → Hp → VK → Prop) (to : TE) (t : TA) : TE := fun σ H Q => to σ H fun x H1 => (∃ p o xs, x = V.ref p ∧ o.dict = none ∧ H1 p = some (.frz o (.tup xs))) ∧ t σ H1 fun vs H2 => r x vs H2 Q
theorem k_bmT {name : Str} {id : String} {r : V → List V → Hp → VK → Prop} {o e : Expr} {es : List Expr} {to : TE} {t : TA} {apos cpos : Pos} (slot : Slot "tuple" name id) (hty : typeOf (.builtin id) = pure (.type "method_descriptor")) (hm : MtR X id r) (ho : PE X o to) (ha : PA X (e :: es) t)
    (h1 : attributeBase o name X.env (eval o X.env) = eval o X.env := by rfl)
    (h2 : ((backTo cpos (starEach (e :: es) X.env)).all (fun x => !x.1) && (backToKw cpos (keywordEach [] X.env)).all (fun x => x.1.isSome) && decide ((e :: es).length + ([] : List Keyword).length + (if ([] : List Keyword).isEmpty then 0 else 1) < 30)) = true := by rfl)
    (h3 : (apos.endLine == cpos.line) = true := by rfl) (h4 : starEach (e :: es) X.env = (false, eval e X.env) :: starEach es X.env := by rfl) (h5 : (backTo cpos (starEach es X.env)).any (·.1) = false := by rfl) :
    PE X (.Call (.Attribute o name apos) (e :: es) [] cpos) (tBMZ r to t) := by
  constructor
  intro pins s σ H Q I h
  refine wpAny_Call_method_late h1 h2 h3 rfl (thn (ho.run pins s σ H _ I h) ?_)
  rintro v s1 ⟨x, H1, I1, r1, ⟨p, ob, xs, rfl, hd, hp⟩, q1⟩
  cases r1
  obtain ⟨g, _, its, rv, o', g', hc, hs⟩ := I1.hok p _ hp
  rw [g] at g'
  cases g'
  refine ⟨"tuple", id, PySem.F.plainAttrs_tuple, slot, hty, ⟨ob, g, hc⟩, ?_, ?_⟩
  · rintro a ⟨⟩
    exact ⟨ob, g, hd⟩
  · have hA := ha.run cpos pins s1 σ H1 _ I1 q1
    rw [h4] at hA ⊢
    refine Calls.callWith_builtin ?_ (Calls.evalArgs_plain (thn hA ?_))
    · show (false || (backTo cpos (starEach es X.env)).any (·.1)) = false
      rw [h5]
      rfl
    · rintro us s2 ⟨vs, H2, I2, r2, q2⟩
      exact hm pins s2 σ H2 (.ref p) vs (.ref p) us Q I2 rfl r2 q2
theorem k_index (hK : X.K = K := by rfl) : MtR X "list.index" (rIndex K) := hK ▸ mt_index
theorem k_sortI (hK : X.K = K := by rfl) : CallR X (.builtin "sorted") (rSortedI K) := hK ▸ cr_sortedI

/-! a for over a list or a tuple, as it comes -/
def iSeq (tl : TE) : TI := fun σ H R => tl σ H fun x H1 => ∃ a, x = .ref a ∧ (((∃ xs, SqL K H1 a xs) ∧ R (Itl K a) H1) ∨ ((∃ xs, SqT K H1 a xs) ∧ R (Itt K a) H1))
theorem k_piS {tg l : Expr} {tl : TE} (hl : PE X l tl) (hK : X.K = K := by rfl) : PI X tg l (iSeq K tl) := by
  subst hK
  constructor
  intro pins s σ H R I h
  refine thn (hl.run pins s σ H _ I h) ?_
  rintro v s1 ⟨x, H1, I1, r1, a, rfl, q⟩
  cases r1
  have fp : ∀ b ∈ [s1.heap.objs.size], FpOk X pins H1 b := by
    intro b hb
    cases List.mem_singleton.mp hb
    exact I1.fpOk (Nat.le_refl _) (I1.hok.fresh (Nat.le_refl _))
  rcases q with ⟨⟨xs, hq⟩, q⟩ | ⟨⟨xs, hq⟩, q⟩
  · obtain ⟨its, _, p, _⟩ := I1.list hq
    exact wpAny_pyIter_list p.isList ⟨_, _, _, _, H1, rfl, I1.kept (t' := s1.toks) (fun b o e => Heap.get?_push_of_some _ e), turn_list a _, ⟨_, Heap.get?_push_size _ rfl, rfl, rfl⟩, fp, q⟩
  · obtain ⟨its, _, p, _⟩ := I1.tuple hq
    exact wpAny_pyIter_tuple (items := its.toArray) p ⟨_, _, _, _, H1, rfl, I1.kept (t' := s1.toks) (fun b o e => Heap.get?_push_of_some _ e), turn_tuple a _, ⟨_, Heap.get?_push_size _ rfl, rfl, rfl⟩, fp, q⟩
/-! tuple.index of ints -/
def rIdxT : V → List V → Hp → VK → Prop := fun x xs H Q => ∃ (p : Addr) (ns : List Int) (k : Int), x = V.ref p ∧ xs = [V.int k] ∧ SqT K H p (ns.map V.int) ∧ k ∈ ns ∧ Q (.int (ns.idxOf k : Nat)) H
theorem k_idxT (hK : X.K = K := by rfl) : MtR X "tuple.index" (rIdxT K) := by
  subst hK
  intro pins s σ H x xs v us Q I rx rs h
  obtain ⟨p, ns, k, rfl, rfl, hq, hk, q⟩ := h
  cases rx
  obtain ⟨u, rfl, t, rfl⟩ := vals1 rs
  obtain ⟨its, r, pl, _⟩ := I.tuple hq
  exact PySem.SeqAt.tuple_index_ints (vs := its) pl (intsAre_of r) hk ⟨.int _, H, I.tok _, ⟨_, rfl⟩, q⟩
/-! min of a tuple of ints -/
def rMinT : List V → Hp → VK → Prop := fun vs H Q => ∃ (p : Addr) (n : Int) (ns : List Int), vs = [V.ref p] ∧ SqT K H p ((n :: ns).map V.int) ∧ Q (.int (ns.foldl min n)) H
theorem reads_ints {h : Heap} : ∀ {us : List Value} {ns : List Int}, IntsAre us ns → ∃ as, ReadsAll h us (ns.map PyData.int) as
  | _, _, .nil => ⟨_, .nil⟩
  | _, _, .cons n t r => by
    obtain ⟨as, q⟩ := reads_ints r
    exact ⟨_, .cons (.int n t) q⟩
theorem k_minT (hu : X.A.units + 65 < cLine) (hc : X.calm = true := by rfl) (hK : X.K = K := by rfl) : CallR X (.builtin "min") (rMinT K) := by
  subst hK
  intro pins s σ H vs us Q I r h
  obtain ⟨p, n, ns, rfl, hq, q⟩ := h
  obtain ⟨its, rv, pl, _⟩ := I.tuple hq
  rw [Vals.ref1 r]
  obtain ⟨as, ra⟩ := reads_ints (h := s.heap) (intsAre_of rv)
  rw [List.map_cons] at ra
  have dz : PyData.depthAll (PyData.int n :: ns.map .int) = 0 := PySem.W.depth_ints (n :: ns)
  have al : PySem.W.AlikeAll (PyData.int n :: ns.map .int) := PySem.W.alikeAll_datum (n :: ns)
  refine PySem.W.min_tuple_data (vs := its.toArray) (x := .int n) (xs := ns.map .int) (I.ok.hd hc) pl (by simpa using ra) al (by rw [dz]; omega) ?_
  intro i v h' tk bs hi hr hk
  rw [PySem.W.minD_ints] at hr
  generalize ns.foldl min n = m at hr q
  cases hr with
  | int _ t => exact ⟨.int _, H, I.kept hk, ⟨_, rfl⟩, q⟩
/-! len(set(t)), t a tuple of ints, each once -/
def tLenSetT (ta : TE) : TE := fun σ H Q => ta σ H fun x H1 => ∃ (l : Addr) (ns : List Int), x = .ref l ∧ SqT K H1 l (ns.map V.int) ∧ ns.Nodup ∧ ns.length ≤ 4000 ∧ Q (.int (ns.length : Nat)) H1
theorem k_lenSet {a : Expr} {ta : TE} {p p2 q pos : Pos} (hg : Gl X "len") (hm : X.mg "len" = none) (hg2 : Gl X "set") (hm2 : X.mg "set" = none) (ha : PE X a ta) (hc : X.calm = true := by rfl) (hK : X.K = K := by rfl)
    (na : starEach [a] X.env = (false, eval a X.env) :: starEach [] X.env := by rfl) : PE X (.Call (.Name "len" p) [.Call (.Name "set" p2) [a] [] q] [] pos) (tLenSetT K ta) := by
  subst hK
  constructor
  intro pins s σ H Q I h
  refine PyProof.Rows.Call_ (ld_blt I hg hm boot_len (PyProof.Rows.callWith_builtin1 (PyProof.Rows.args_cons (PyProof.Rows.Call_ (ld_blt I hg2 hm2 PyProof.Rows.boot_set (PyProof.Rows.callWith_type1 (PyProof.Rows.args_cons (thn (ha.run pins s σ H _ I h) ?_) na) na rfl))) rfl) rfl rfl))
  rintro v s1 ⟨x, H1, I1, r1, l, ns, rfl, hq, nd, hl, q1⟩
  cases r1
  obtain ⟨its, rv, pl, _⟩ := I1.tuple hq
  have hsc : ns.length + 1 < scanBound := by unfold scanBound; omega
  refine PyProof.Rows.args_nil (call_set_tupI (items := its.toArray) ns (I1.ok.hd hc) pl (by simpa using intsAre_of rv) hsc ?_)
  intro h' tk c S hcn hk
  obtain ⟨o, es, ep, t, e1, e2, e3, _, e5, e6, e7, e8, e9, _⟩ := S
  have pm : (es.toList.map keyOf).Perm ns := (List.perm_ext_iff_of_nodup e5 nd).mpr fun k => by rw [← e6 k]; simp
  have hc2 : es.size = ns.length := by have := pm.length_eq; simpa using this
  have I2 : Inv X pins σ H1 { s1 with heap := h', toks := tk } := I1.kept hk
  exact PyProof.Rows.args_nil (call_len_set e1 e2 e3 e8 (by rw [hc2]; omega) ⟨.int ns.length, H1, I2.tok _, ⟨_, by rw [hc2]⟩, q1⟩)
/-! > of data -/
def rGtD : R2 := fun x y H Q => ∃ d e, Dp K H x d ∧ Dp K H y e ∧ PySem.W.alike d e = true ∧ d ≠ .none ∧ d.depth ≤ 8 ∧ Q (.bl (PySem.W.dataLt e d)) H
theorem k_gtD (hu : X.A.units + 64 < cLine) (hK : X.K = K := by rfl) : OpR X (compareOp .Gt) (rGtD K) := by
  subst hK
  intro pins s σ H x y v u Q I rx ry h
  obtain ⟨d, e, hd, he, al, nn, dl, q⟩ := h
  obtain ⟨as, ra⟩ := Dp.reads I d x v hd rx
  obtain ⟨bs, rb⟩ := Dp.reads I e y u he ry
  exact PySem.W.gt_data ra rb al nn (by have := Nat.min_le_left d.depth e.depth; omega) ⟨.bl _, H, I, rfl, q⟩
end
section
variable {K : PySem.W.Frag} {δ : Sl} {ta tb tc te : TE} {x y z d : Dat} {ds es xs ys : List Dat} {i j : Int} {a b c : Bool}
theorem w_seq (h : E1 K te δ d) (hd : d = .list xs ∨ d = .tuple .s xs) : W1 K (iSeq K te) δ xs := fun σ G H s e R q =>
  h σ G H s e _ fun v G1 H1 x1 d1 => by
    rcases hd with rfl | rfl
    · cases d1 with
      | @lst a vs _ hs ha =>
        refine ⟨a, rfl, .inl ⟨⟨_, ex_l x1.gh hs⟩, q _ G1 H1 x1 ?_⟩⟩
        rw [← dpAll_len ha]
        refine walk_list.mono (fun H' e' => ex_l e' hs) fun i H' x H'' hi e' y => ?_
        obtain ⟨rfl, hx⟩ := y
        obtain ⟨d, hd, dx⟩ := dpAll_getV ha hx
        exact ⟨d, hd, fun G' e1 e2 => ⟨G', Xt.refl e2, dx.ext e1⟩⟩
    · cases d1 with
      | @tup _ a vs _ hs ha =>
        refine ⟨a, rfl, .inr ⟨⟨_, (hs.ext x1.gh).t⟩, q _ G1 H1 x1 ?_⟩⟩
        rw [← dpAll_len ha]
        refine walk_tup.mono (fun H' e' => (hs.ext e').t) fun i H' x H'' hi e' y => ?_
        obtain ⟨rfl, hx⟩ := y
        obtain ⟨d, hd, dx⟩ := dpAll_getV ha hx
        exact ⟨d, hd, fun G' e1 e2 => ⟨G', Xt.refl e2, dx.ext e1⟩⟩
theorem e_bm {T : String} {r : V → List V → Hp → VK → Prop} {ta' : TA} (h : E1 K te δ x) (ha : A1 K ta' δ ds) (ht : ∀ G v, Dr K G v x → tyV K T v G) (hm : MD K r x ds z) (hty : ∀ (G H : Hp) v, Ex G H → Dr K G v x → tyV K T v H) : E1 K (tBM K T r te ta') δ z := fun σ G H s e Q q =>
  h σ G H s e _ fun v G1 H1 x1 d1 => ⟨hty G1 H1 v x1.gh d1, ha σ G1 H1 (s.ext x1.gg) x1.gh _ fun vs G2 H2 x2 d2 => hm G2 H2 v vs x2.gh (d1.ext x2.gg) d2 Q fun w G3 H3 x3 d3 => q w G3 H3 ((x1.trans x2).trans x3) d3⟩
theorem e_idxT {ta' : TA} {ns : List Int} {k : Int} (h : E1 K te δ (.tuple .s (ns.map .int))) (ha : A1 K ta' δ [.int k]) (hk : k ∈ ns) : E1 K (tBMZ (rIdxT K) te ta') δ (.int (ns.idxOf k : Nat)) := fun σ G H s e Q q =>
  h σ G H s e _ fun v G1 H1 x1 d1 => by
    cases d1 with
    | @tup _ a vs _ hs hv =>
      have ev := dpAll_ints hv
      subst ev
      obtain ⟨ob, hd, hf⟩ := hs
      have hs : StyOk .s G1 a (ns.map V.int) := ⟨ob, hd, hf⟩
      refine ⟨⟨a, ob, _, rfl, hd, x1.gh _ _ hf⟩, ha σ G1 H1 (s.ext x1.gg) x1.gh _ fun vs G2 H2 x2 d2 => ?_⟩
      cases d2 with
      | cons h1 h2 =>
        cases h1; cases h2
        exact ⟨a, ns, k, rfl, rfl, ((hs.ext x1.gh).ext x2.hh).t, hk, q _ G2 H2 (x1.trans x2) (.int _)⟩
theorem e_idxL {ta' : TA} {ns : List Int} {k : Int} (h : E1 K te δ (.list (ns.map .int))) (ha : A1 K ta' δ [.int k]) (hk : k ∈ ns) : E1 K (tBM K "list" (rIndex K) te ta') δ (.int (ns.idxOf k : Nat)) := fun σ G H s e Q q =>
  h σ G H s e _ fun v G1 H1 x1 d1 => by
    cases d1 with
    | @lst a vs _ hs hv =>
      have ev := dpAll_ints hv
      subst ev
      refine ⟨.inl ⟨rfl, _, ex_l x1.gh hs⟩, ha σ G1 H1 (s.ext x1.gg) x1.gh _ fun vs G2 H2 x2 d2 => ?_⟩
      cases d2 with
      | cons h1 h2 =>
        cases h1; cases h2
        have hlt : ns.idxOf k < ns.length := List.idxOf_lt_length_of_mem hk
        refine ⟨a, _, .int k, ns.idxOf k, .int k, rfl, rfl, ex_l (x1.gh.trans x2.hh) hs, rfl, flat_ints ns, ?_, ?_, fun m z' hm hz => ?_, q _ G2 H2 (x1.trans x2) (.int _)⟩
        · rw [List.getElem?_map, List.getElem?_eq_getElem hlt, List.getElem_idxOf hlt]
          rfl
        · show (k == k) = true
          simp
        · rw [List.getElem?_map] at hz
          cases hn : ns[m]? with
          | none => rw [hn] at hz; cases hz
          | some y =>
            rw [hn] at hz
            have hz := Option.some.inj hz
            subst hz
            show (y == k) = false
            have hml : m < ns.length := by omega
            have := List.not_of_lt_findIdx (p := (· == k)) (xs := ns) (i := m) (by simpa [List.idxOf] using hm)
            rw [List.getElem?_eq_getElem hml] at hn
            have hn := Option.some.inj hn
            rw [← hn]
            simpa using this
theorem cd_minT {st : Sty} {n : Int} {ns : List Int} : CD K (rMinT K) [.tuple st ((n :: ns).map .int)] (.int (ns.foldl min n)) := fun G H vs e d1 Q q => by
  cases d1 with
  | cons h t =>
    cases t
    cases h with
    | tup hs ha =>
      have hv := dpAll_ints ha
      subst hv
      exact ⟨_, n, ns, rfl, (hs.ext e).t, q _ G H (Xt.refl e) (.int _)⟩
theorem e_lenSet {st : Sty} {ns : List Int} (h : E1 K te δ (.tuple st (ns.map .int))) (nd : ns.Nodup) (hl : ns.length ≤ 4000) : E1 K (tLenSetT K te) δ (.int (ns.length : Nat)) := fun σ G H s e Q q =>
  h σ G H s e _ fun v G1 H1 x1 d1 => by
    cases d1 with
    | tup hs ha =>
      have hv := dpAll_ints ha
      subst hv
      exact ⟨_, ns, rfl, (hs.ext x1.gh).t, nd, hl, q _ G1 H1 x1 (.int _)⟩
theorem rd_gtD (al : PySem.W.alike x.py y.py = true) (nn : x.py ≠ .none) (dl : x.py.depth ≤ 8) : RD K (rGtD K) x y (.bool (PySem.W.dataLt y.py x.py)) := fun G H v u e dv du Q q =>
  ⟨x.py, y.py, dr_dp _ _ (dv.ext e), dr_dp _ _ (du.ext e), al, nn, dl, q _ G H (Xt.refl e) (.bl _)⟩
/-- sorted(xs) of ints -/
theorem cd_sortI {ns : List Int} {P : Dat → Prop} (hp : ∀ ns' : List Int, ns'.Perm ns → ns'.Pairwise (· ≤ ·) → P (.list (ns'.map .int))) : ∀ (G H : Hp) (vs : List V), Ex G H → DrAll K G vs [.list (ns.map .int)] → ∀ Q : VK, (∀ w G2 H2 d, Xt G H G2 H2 → Dr K G2 w d → P d → Q w H2) → rSortedI K vs H Q := fun G H vs e d1 Q q => by
  cases d1 with
  | cons h t =>
    cases t
    cases h with
    | lst hs ha =>
      have hv := dpAll_ints ha
      subst hv
      refine ⟨_, ns, rfl, ex_l e hs, fun ns' p pm pw np => ?_⟩
      obtain ⟨x2, d2⟩ := newL e (dpAll_ofInts (ns := ns')) np
      exact q _ _ _ _ x2 d2 (hp ns' pm pw)
end
end DL

/-! my data layer: a for whose slots go on from turn to turn -/
namespace DL
open PySem PySem.Spec L2 RZ
open Evl (Ex ex_l ex_t)
section
variable {K : PySem.W.Frag} {δ : Sl} {te : TE} {d : Dat} {ts tu : TS} {N : Sl → Prop} {R : Dat → Prop}
theorem sd_forI {α : Type} {wi : TI} {g : TG} {js : List Nat} (L : List α) (enc : α → Dat) (δi : Nat → Sl) {δ' : Nat → α → Sl} (hw : W1 K wi δ (L.map enc)) (hg : ∀ i a, G1 K g js (δi i) (enc a) (δ' i a)) (h0 : Weak δ (δi 0))
    (hb : ∀ (i : Nat) (a : α), L[i]? = some a → Sd K ts (δ' i a) (fun δ2 => Weak δ2 (δi (i + 1))) R) (hd : Sd K tu (δi L.length) N R) : Sd K (tSeq (tFor wi g ts) tu) δ N R := fun σ G H D s e nx rt => by
  refine hw σ G H s e _ fun J G1 H1 x1 w => ?_
  have LL : (L.map enc).length = L.length := by simp
  rw [LL] at w
  refine for_it w (fun i σ' H' => ∃ G', Xt G H G' H' ∧ Ex G1 G' ∧ SlOk K G' σ' (δi i)) ⟨G1, x1, Ex.refl _, h0 K _ _ (s.ext x1.gg)⟩ (fun i σ' H' _ p => ?_) (fun i x σ' H' H'' hi p y => ?_) (fun σ' H' p => ?_)
  · obtain ⟨G', x2, e2, _⟩ := p
    exact e2.trans x2.gh
  · obtain ⟨G', x2, e2, s2⟩ := p
    obtain ⟨d, hd', y⟩ := y
    obtain ⟨G'', x3, dx⟩ := y G' e2 x2.gh
    rw [List.getElem?_map] at hd'
    cases ha : L[i]? with
    | none => rw [ha] at hd'; cases hd'
    | some a =>
      rw [ha] at hd'
      have hd' := Option.some.inj hd'
      subst hd'
      refine hg i a σ' G'' H'' x (s2.ext x3.gg) x3.gh dx _ fun σ4 s4 _ => ?_
      exact hb i a ha σ4 G'' H'' _ s4 x3.gh (fun σ5 G5 H5 δ5 x5 s5 n5 => ⟨G5, (x2.trans x3).trans x5, (e2.trans x3.gg).trans x5.gg, n5 K G5 σ5 s5⟩) fun v G5 H5 d x5 d5 r => rt v G5 H5 d ((x2.trans x3).trans x5) d5 r
  · obtain ⟨G', x2, e2, s2⟩ := p
    exact hd σ' G' H' D s2 x2.gh (fun σ3 G3 H3 δ3 x3 s3 n3 => nx σ3 G3 H3 δ3 (x2.trans x3) s3 n3) fun v G3 H3 d x3 d3 r => rt v G3 H3 d (x2.trans x3) d3 r
/-- a statement alone, told as with nothing behind it -/
theorem Sd.one (h : Sd K (tSeq ts tNext) δ N R) : Sd K ts δ N R := fun σ G H D s e nx rt => h σ G H D s e nx rt
/-- sd_collect's form where each turn gives one item -/
theorem sd_gather {α : Type} {k : Nat} {ta : TA} {wi : TI} {g : TG} {js : List Nat} {tv : TS} (L : List α) (enc : α → Dat) (f : α → Dat) {δ' : Addr → α → Sl} (h0 : A1 K ta δ [])
    (hw : ∀ p, W1 K wi (δ.set k (some (.r (.ref p)))) (L.map enc)) (hg : ∀ p a, G1 K g js (δ.set k (some (.r (.ref p)))) (enc a) (δ' p a)) (hl : L.length ≤ 90000)
    (hb : ∀ p a, a ∈ L → Ad K 90000 p tv (δ' p a) (fun δ2 => Weak δ2 (δ.set k (some (.r (.ref p))))) (fun es => es = [f a]))
    (hd : Sd K tu (δ.set k (some (.d (.list (L.map f))))) N R) : Sd K (tSeq (tAsg (tLst ta) (gName k)) (tSeq (tFor wi g tv) tu)) δ N R := by
  have e : L.flatMap (fun a => [f a]) = L.map f := by
    clear hw hg hl hb hd
    induction L with
    | nil => rfl
    | cons a L ih => simp [ih]
  refine sd_collect L enc (fun a => [f a]) h0 hw hg hb (B := 90000) ?_ (by omega) ?_
  · rw [List.nil_append, e, List.length_map]
    exact hl
  · rw [List.nil_append, e]
    exact hd
end
end DL

/-! my data layer: enumerate of a tuple -/
namespace DL
open PySem PySem.Spec L2 RZ
open Evl (Ex ex_l ex_t)
section
variable {prog : Program} {w : World} {A : Around} {E : Value → Shared → Prop} {s : Shared}
theorem enumT_new (t : Addr) (items : Array Value) : Meets (Builtin.«enumerate.__new__» ⟨[.type "enumerate", .ref t], []⟩) (fun _ R s => s.heap.IsTuple t items ∧
    R (.ok (.ret (.ref (s.heap.objs.size + 1)))) { s with heap := (s.heap.push { cls := .type "tuple_iterator", data := .fields #[.ref t, .int 0 0] }).push { cls := .type "enumerate", data := .fields #[.none, .bool false, .ref s.heap.objs.size, rawInt 0, .none, .none] } }) :=
  .of_wp fun prog w A R s h => by
    obtain ⟨hp, g, d, tk, os⟩ := s
    obtain ⟨ht, h⟩ := h
    have hsub := sub_enumerate
    have hz : (hp.push { cls := .type "tuple_iterator", data := .fields #[.ref t, .int 0 0] }).objs.size = hp.objs.size + 1 := Heap.size_push ..
    have it {A' : Around} {E : Value → Shared → Prop} {Q : Value → Shared → Prop} (q : Q (.ref hp.objs.size) ⟨hp.push { cls := .type "tuple_iterator", data := .fields #[.ref t, .int 0 0] }, g, d, tk, os⟩) : wpAny (model prog w) A' (pyIter (.ref t)) Q E ⟨hp, g, d, tk, os⟩ := wpAny_pyIter_tuple (s := ⟨hp, g, d, tk, os⟩) ht q
    wp_walk using it
    refine wpAny_stack_any fun st => wpAny_pure ?_
    split
    · next c _ _ _ _ _ =>
      cases (c == Value.type "enumerate") <;> (wp_walk using it) <;> exact ⟨_, rfl, by rw [hz]; exact h⟩
    · wp_walk using it
      exact ⟨_, rfl, by rw [hz]; exact h⟩
theorem enumT_call {t : Addr} {items : Array Value} {Q : Value → Shared → Prop} (ht : s.heap.IsTuple t items)
    (h : ∀ h', IsEnum h' (s.heap.objs.size + 1) s.heap.objs.size 0 .none → h'.IsTupleIter s.heap.objs.size t 0 → (∀ b o, s.heap.get? b = some o → h'.get? b = some o) → Q (.ref (s.heap.objs.size + 1)) { s with heap := h' }) :
    wpAny (model prog w) A (call (.type "enumerate") [.ref t]) Q E s := by
  refine callType_new F.called_enumerate (by decide) (F.typeCall_enumerate_1 _) (F.newCall_enumerate_1 _) (fun obj => F.args_object_init_2 obj _) F.entry_enumerate_new (enumT_new t items) ⟨ht, ?_⟩
  have hz : (s.heap.push { cls := .type "tuple_iterator", data := .fields #[.ref t, .int 0 0] }).objs.size = s.heap.objs.size + 1 := Heap.size_push ..
  generalize hg : s.heap.push { cls := .type "tuple_iterator", data := .fields #[.ref t, .int 0 0] } = h1 at hz ⊢
  have i1 : h1.get? s.heap.objs.size = some { cls := .type "tuple_iterator", data := .fields #[.ref t, .int 0 0] } := by rw [← hg]; exact Heap.get?_push_size _ rfl
  have k1 : ∀ b o, s.heap.get? b = some o → h1.get? b = some o := fun b o e => by rw [← hg]; exact Heap.get?_push_of_some _ e
  have he : IsEnum (h1.push { cls := .type "enumerate", data := .fields #[.none, .bool false, .ref s.heap.objs.size, rawInt 0, .none, .none] }) (s.heap.objs.size + 1) s.heap.objs.size 0 .none := by
    rw [← hz]
    exact Heap.get?_push_size _ rfl
  exact ⟨⟨_, he, rfl⟩, h _ he ⟨_, Heap.get?_push_of_some _ i1, rfl, rfl⟩ fun b o e => Heap.get?_push_of_some _ (k1 b o e)⟩
end
/-- the tuple at a as it stands at each turn, each item in a new pair -/
def ItET (K : PySem.W.Frag) (a : Addr) : It :=
  ⟨fun i H => ∃ (xs : List V) (x : V), SqT K H a xs ∧ xs[i]? = some x, fun i H v H' => ∃ T x, v = .ref T ∧ H T = none ∧ H' = upd H T (.tup [.int (i : Nat), x]) ∧ ∀ xs, SqT K H a xs → xs[i]? = some x, fun i H => ∃ xs : List V, SqT K H a xs ∧ xs.length = i⟩
theorem turnET {P : Program} {w : World} {K : PySem.W.Frag} {elts : List Expr} {kk : Nat} {tpos : Pos} (a e it : Addr) (hai : a ≠ it) (hae : a ≠ e) (hei : e ≠ it) :
    Turn P w K (.Tuple elts kk tpos) (ItET K a) [e, it] e (fun i h => (∃ old, IsEnum h e it (i : Nat) old) ∧ h.IsTupleIter it a i) where
  mem := by simp
  obj := by
    rintro i h ⟨⟨old, he⟩, o, ho, hc, hd⟩ b hb
    rcases List.mem_cons.mp hb with rfl | hb
    · exact ⟨_, he, fun v q => nomatch q⟩
    · rw [List.mem_singleton.mp hb]
      exact ⟨o, ho, fun v q => by rw [hd] at q; cases q⟩
  keep := by
    rintro i h h' ⟨⟨old, he⟩, hi⟩ k
    exact ⟨⟨old, k e (by simp) _ he⟩, hi.at fun o q => k it (by simp) o q⟩
  item := by
    rintro X rfl rfl rfl hc i pins s σ H E I hf ⟨⟨old, he⟩, hit⟩ ⟨xs, x, hq, hx⟩
    obtain ⟨its, rv, p, hz⟩ := I.tuple hq
    obtain ⟨u, hu, ru⟩ := rv.get hx
    have hn : i < its.toArray.size := by
      have := (List.getElem?_eq_some_iff.mp hu).1
      simpa using this
    have hel : e < s.heap.objs.size := Heap.lt_size he
    have hil : it < s.heap.objs.size := by obtain ⟨_, q, _⟩ := hit; exact Heap.lt_size q
    have D := Draws.tuple (prog := X.prog) (w := X.w) (A := X.A.in1) (I.ok.hd hc) it a hai its.toArray
    refine wpAny_pyNext_enum_itemC D he ⟨hit, p⟩ hn hei (by simp [hei, Ne.symm hae]) fun v h' tk hv ho hst hT hsz hk => ?_
    have hv' : v = u := by
      have h1 : its.toArray[i]? = some u := by simpa using hu
      exact Option.some.inj (hv.symm.trans h1)
    subst hv'
    refine ⟨_, rfl, wpAny_letOwnedTupleGo_enum (s := { s with heap := h', toks := tk + 1 }) ho fun h2 he2 sb => ?_⟩
    have hT2 : h2.get? s.heap.objs.size = some { cls := .type "tuple", data := .seq #[.int (i : Nat) tk, v] } := (sb.2 _ (Nat.ne_of_gt hel)).trans hT
    have new : ObjOk X.prog X.w (upd H s.heap.objs.size (.tup [.int (i : Nat), x])) h2 s.heap.objs.size (.tup [.int (i : Nat), x]) :=
      ⟨sz_of (by simp), [.int (i : Nat) tk, v], .cons ⟨_, rfl⟩ (.cons ru .nil), ⟨_, hT2, rfl, _, rfl⟩⟩
    have J : Inv X pins σ (upd H s.heap.objs.size (.tup [.int (i : Nat), x])) { s with heap := h2, toks := tk + 1 } :=
      I.turnedNew (ch := [e, it]) (fun b ob hb q => (sb.2 b (fun z => hb (by simp [z]))).trans (hk b ob (fun z => hb (by simp [z])) (fun z => hb (by simp [z])) q)) hf (Nat.le_refl _) new
    refine ⟨.ref s.heap.objs.size, _, J, rfl, ⟨_, x, rfl, I.hok.fresh (Nat.le_refl _), rfl, fun ys hy => by rw [I.tuple_inj hy hq]; exact hx⟩, ⟨⟨v, ?_⟩, ?_⟩, fun b hb => ?_⟩
    · have e1 : ((i + 1 : Nat) : Int) = (i : Int) + 1 := by omega
      rw [e1]
      exact he2
    · obtain ⟨o, q1, q2, q3⟩ := hst.1
      exact ⟨o, (sb.2 it (Ne.symm hei)).trans q1, q2, q3⟩
    · have hb' : b < s.heap.objs.size := by
        rcases List.mem_cons.mp hb with rfl | hb
        · exact hel
        · rw [List.mem_singleton.mp hb]; exact hil
      rw [upd_ne (Nat.ne_of_lt hb')]
      exact (hf b hb).1
  done := by
    rintro X rfl rfl rfl hc i pins s σ H E I hf ⟨⟨old, he⟩, hit⟩ ⟨xs, hq, hx⟩
    obtain ⟨its, rv, p, hz⟩ := I.tuple hq
    obtain ⟨f0, f1, f2, f3, f4, f5⟩ := hf it (by simp)
    have hl := rv.length
    have D := Draws.tuple (prog := X.prog) (w := X.w) (A := X.A.in1) (I.ok.hd hc) it a hai its.toArray
    have hi : i = its.toArray.size := by simp; omega
    subst hi
    exact wpAny_pyNext_enum_endD D he ⟨hit, p⟩ fun h' eb => ⟨rfl, I.turned (t' := s.toks) (fun b o hb q => eb b o hb q) f0 f1 f3 f4 f5⟩
  self := by
    rintro A i s Q E ⟨⟨old, he⟩, _⟩ h
    exact wpAny_pyIter_enum he h
def iEnumT (K : PySem.W.Frag) (ta : TA) : TI := fun σ H R => ta σ H fun vs H1 => ∃ a xs, vs = [V.ref a] ∧ SqT K H1 a xs ∧ R (ItET K a) H1
theorem k_enumT (K : PySem.W.Frag) {X : Cx} {e : Expr} {ta : TA} {p pos tpos : Pos} {elts : List Expr} {kk : Nat} (hg : Gl X "enumerate") (hm : X.mg "enumerate" = none) (ha : PA X [e] ta) (hK : X.K = K := by rfl)
    (hs : starEach [e] X.env = [(false, eval e X.env)] := by rfl) : PI X (.Tuple elts kk tpos) (.Call (.Name "enumerate" p) [e] [] pos) (iEnumT K ta) := by
  subst hK
  constructor
  intro pins s σ H R I h
  refine PyProof.Rows.Call_ (ld_blt I hg hm PyProof.Rows.boot_enumerate (PyProof.Rows.callWith_type1 (thn (ha.run pos pins s σ H _ I h) ?_) hs rfl))
  rintro us s1 ⟨vs, H1, I1, r1, a, xs, rfl, hq, q⟩
  rw [Vals.ref1 r1]
  obtain ⟨its, rv, p', hz⟩ := I1.tuple hq
  have hal : a < s1.heap.objs.size := by obtain ⟨o, g, _⟩ := p'; exact Heap.lt_size g
  refine enumT_call p' fun h' he hit hk => wpAny_pyIter_enum he ?_
  refine ⟨s1.heap.objs.size + 1, [s1.heap.objs.size + 1, s1.heap.objs.size], _, _, H1, rfl, I1.kept (t' := s1.toks) hk, turnET a (s1.heap.objs.size + 1) s1.heap.objs.size (Nat.ne_of_lt hal) (Nat.ne_of_lt (Nat.lt_succ_of_lt hal)) (Nat.succ_ne_self _), ⟨⟨.none, he⟩, hit⟩, fun b hb => ?_, q⟩
  have hle : s1.heap.objs.size ≤ b := by
    rcases List.mem_cons.mp hb with rfl | hb
    · exact Nat.le_succ _
    · rw [List.mem_singleton.mp hb]
      exact Nat.le_refl _
  exact I1.fpOk hle (I1.hok.fresh hle)
section
variable {K : PySem.W.Frag} {δ : Sl} {xs : List Dat}
theorem w_enumT {st : Sty} {ta : TA} (h : A1 K ta δ [.tuple st xs]) : W1 K (iEnumT K ta) δ (enumD xs) := fun σ G H s e R q =>
  h σ G H s e _ fun vs G1 H1 x1 d1 => by
    cases d1 with
    | cons d1 d2 =>
      cases d2
      cases d1 with
      | @tup _ a vs _ hs ha =>
        refine ⟨_, _, rfl, (hs.ext x1.gh).t, q _ G1 H1 x1 ?_⟩
        rw [enumD_len, ← dpAll_len ha]
        refine ⟨fun i H' hi e' => ⟨vs, vs[i], (hs.ext e').t, by simp [hi]⟩, fun H' e' => ⟨vs, (hs.ext e').t, rfl⟩, fun i H' x H'' hi e' y => ?_⟩
        obtain ⟨T, z, h1, h2, h3, h4⟩ := y
        exact yd_enum ha ⟨T, .int (i : Nat), z, h1, h2, h3, rfl, h4 vs (hs.ext e').t⟩
end
end DL

/-! my data layer: sorted of data, of a dict's keys; list(d.values()) -/
namespace DL
open PySem PySem.Spec L2 RZ
open PySem.W (EachIs dataLe AllAlike Sortable alike SortsAt dataKind)
open Evl (Ex ex_l ex_t)
/-! one thing alone is sorted, whatever it is -/
theorem sortsAt_one {prog : Program} {w : World} {A : Around} {s : Shared} {v : Value} {d : PyData} {as : List Addr} (r : Reads s.heap v d as) (hal : alike d d = true) (nn : d ≠ .none) (hu : A.units + d.depth < cLine) : SortsAt prog w A s (dataKind s.heap [d]) [v] := by
  have al : AllAlike [d] := by
    intro x hx y hy
    rw [List.mem_singleton.mp hx, List.mem_singleton.mp hy]
    exact hal
  refine ⟨fun x hx => ?_, PyProof.Rows.general', ?_, fun h => absurd h (by simp)⟩
  · rw [List.mem_singleton.mp hx]
    exact ⟨_, PySem.W.dataKind_some al (List.mem_singleton.mpr rfl) r⟩
  · intro E x y a b Q ha hb hq
    obtain ⟨d1, as1, h1, r1, rfl⟩ := PySem.W.dataKind_inv ha
    obtain ⟨d2, as2, h2, r2, rfl⟩ := PySem.W.dataKind_inv hb
    have e1 := List.mem_singleton.mp h1
    have e2 := List.mem_singleton.mp h2
    subst e1 e2
    exact PySem.W.oneLt_alike (f := false) (fun z => nomatch z) r1 r2 hal nn (by rw [Nat.min_self]; exact hu) hq
theorem sortsAt_or {prog : Program} {w : World} {A : Around} {s : Shared} {vs : List Value} {ds : List PyData} (e : EachIs (fun v d => ∃ as, Reads s.heap v d as) vs ds) (hal : AllAlike ds) (hk : Sortable ds ∨ ds.length ≤ 1) (nn : ∀ d ∈ ds, d ≠ .none) (hu : ∀ d, d ∈ ds → A.units + d.depth < cLine) :
    SortsAt prog w A s (dataKind s.heap ds) vs := by
  rcases hk with hk | hk
  · exact SortsAt.data e hal hk hu
  · cases e with
    | nil => exact SortsAt.data .nil hal (.inr fun d hd => by cases hd) hu
    | @cons v d vs ds h t =>
      cases t with
      | nil =>
        obtain ⟨as, r⟩ := h
        exact sortsAt_one r (hal d (by simp) d (by simp)) (nn d (by simp)) (hu d (by simp))
      | cons h2 t2 => simp at hk
theorem each_vals {β : Type} {Rv : V → β → Prop} : ∀ {xs : List V} {us : List Value} {bs : List β}, Vals xs us → EachIs Rv xs bs → EachIs (fun u b => ∃ x, RelV x u ∧ Rv x b) us bs
  | _, _, _, .nil, .nil => .nil
  | _, _, _, .cons r t, .cons h e => .cons ⟨_, r, h⟩ (each_vals t e)
theorem vals_each {β : Type} {Rv : V → β → Prop} : ∀ {us : List Value} {bs : List β}, EachIs (fun u b => ∃ x, RelV x u ∧ Rv x b) us bs → ∃ xs, Vals xs us ∧ EachIs Rv xs bs
  | _, _, .nil => ⟨[], .nil, .nil⟩
  | _, _, .cons ⟨x, r, h⟩ t => by
    obtain ⟨xs, v, e⟩ := vals_each t
    exact ⟨x :: xs, .cons r v, .cons h e⟩
theorem each_reads {X : Cx} {pins : List (Addr × Obj)} {σ : L2.St} {H : Hp} {s : Shared} (I : Inv X pins σ H s) {β : Type} (enc : β → PyData) : ∀ {xs : List V} {us : List Value} {bs : List β}, Vals xs us → DpAll X.K H xs (bs.map enc) → EachIs (fun u b => ∃ as, Reads s.heap u (enc b) as) us bs
  | _, _, [], .nil, _ => .nil
  | _, _, [], .cons _ _, h => by cases h
  | _, _, b :: bs, .nil, h => by cases h
  | _, _, b :: bs, .cons r t, h => by
    cases h with
    | cons h1 h2 => exact .cons (Dp.reads I _ _ _ h1 r) (each_reads I enc t h2)
theorem each_len {α β : Type} {R : α → β → Prop} : ∀ {xs : List α} {ys : List β}, EachIs R xs ys → xs.length = ys.length
  | _, _, .nil => rfl
  | _, _, .cons _ t => by simp [each_len t]
/-- sorted(xs) of alike data, ts told of the items by Rv -/
def rSortedR (K : PySem.W.Frag) : List V → Hp → VK → Prop := fun vs H Q => ∃ (a : Addr) (xs : List V) (β : Type) (bs : List β) (enc : β → PyData) (Rv : V → β → Prop), vs = [V.ref a] ∧ SqL K H a xs ∧ EachIs Rv xs bs ∧ DpAll K H xs (bs.map enc) ∧ AllAlike (bs.map enc) ∧ (Sortable (bs.map enc) ∨ bs.length ≤ 1) ∧ (∀ b ∈ bs, enc b ≠ .none ∧ (enc b).depth ≤ 8) ∧
  ∀ (p : Addr) (ys : List V), H p = none → EachIs Rv ys (bs.mergeSort (dataLe false enc)) → Q (.ref p) (upd H p (.lst ys))
theorem k_sortD (K : PySem.W.Frag) {X : Cx} (hu : X.A.units + 90 < cLine) (hK : X.K = K := by rfl) : CallR X (.builtin "sorted") (rSortedR K) := by
  subst hK
  intro pins s σ H vs us Q I r h
  obtain ⟨a, xs, β, bs, enc, Rv, rfl, hs, eR, hd, hal, hk, hn, q⟩ := h
  obtain ⟨its, rv, hl, hz⟩ := I.list hs
  rw [Vals.ref1 r]
  have lb : xs.length = bs.length := each_len eR
  have li : its.length = bs.length := by rw [← rv.length, lb]
  have e := each_vals rv eR
  have er := each_reads I enc rv hd
  have ks : ∀ b o, s.heap.get? b = some o → (PySem.W.sortingHeap (PySem.W.copyHeap s.heap its) (s.heap.objs.size + 1) its).get? b = some o := fun b o g => PySem.W.sorting_copy_old g
  have er' := er.mono fun u b ⟨as, g⟩ => (⟨as, PyProof.Rows.Reads.keeps ks g⟩ : ∃ as, Reads (PySem.W.sortingHeap (PySem.W.copyHeap s.heap its) (s.heap.objs.size + 1) its) u (enc b) as)
  have S : SortsAt X.prog X.w X.A.in1.in1 { s with heap := PySem.W.sortingHeap (PySem.W.copyHeap s.heap its) (s.heap.objs.size + 1) its } (dataKind (PySem.W.sortingHeap (PySem.W.copyHeap s.heap its) (s.heap.objs.size + 1) its) (bs.map enc)) its :=
    sortsAt_or (s := { s with heap := PySem.W.sortingHeap (PySem.W.copyHeap s.heap its) (s.heap.objs.size + 1) its }) (PySem.W.each_map (R := fun v d => ∃ as, Reads (PySem.W.sortingHeap (PySem.W.copyHeap s.heap its) (s.heap.objs.size + 1) its) v d as) enc er') hal (by rw [List.length_map]; exact hk)
      (fun d hd => by obtain ⟨b, hb, rfl⟩ := List.mem_map.mp hd; exact (hn b hb).1) (fun d hd => by obtain ⟨b, hb, rfl⟩ := List.mem_map.mp hd; have := (hn b hb).2; show X.A.units + 2 + (enc b).depth < cLine; omega)
  have hz2 : its.length ≤ sizeLine := by rw [← rv.length]; exact hz
  refine PySem.W.sorted_vals hl.isList S hz2 ?_
  have eo := PySem.W.sortVals_data (h' := PySem.W.sortingHeap (PySem.W.copyHeap s.heap its) (s.heap.objs.size + 1) its) false e er' hal
  generalize PySem.W.sortVals (dataKind (PySem.W.sortingHeap (PySem.W.copyHeap s.heap its) (s.heap.objs.size + 1) its) (bs.map enc)) false its its = out at eo ⊢
  obtain ⟨ys, vy, ey⟩ := vals_each eo
  obtain ⟨ep, he⟩ := PyProof.Rows.sortedAll_at s.heap its out.toArray
  have ly : ys.length ≤ sizeLine := by rw [each_len ey, List.length_mergeSort, ← lb]; exact hz
  exact ⟨.ref _, upd H (s.heap.objs.size + 1) (.lst ys), I.laid (t' := s.toks) (fun _ _ g => PyProof.Rows.sortedAll_old g) (Nat.le_succ _) ⟨ly, out, ep, vy, he⟩, rfl, q _ ys (I.hok.fresh (Nat.le_succ _)) ey⟩
section
variable {K : PySem.W.Frag} {δ : Sl} {te : TE} {α : Type}
theorem each_of_drAll {G : Hp} {enc : α → Dat} : ∀ {xs : List V} {L : List α}, DrAll K G xs (L.map enc) → EachIs (fun v a => Dr K G v (enc a)) xs L
  | _, [], h => by cases h; exact .nil
  | _, a :: L, h => by
    cases h with
    | cons h1 h2 => exact .cons h1 (each_of_drAll h2)
theorem drAll_of_each {G : Hp} {enc : α → Dat} : ∀ {xs : List V} {L : List α}, EachIs (fun v a => Dr K G v (enc a)) xs L → DrAll K G xs (L.map enc)
  | _, _, .nil => .nil
  | _, _, .cons h t => .cons h (drAll_of_each t)
theorem pys_map {enc : α → Dat} : ∀ L : List α, Dat.pys (L.map enc) = L.map fun a => (enc a).py
  | [] => rfl
  | a :: L => by
    show (enc a).py :: Dat.pys (L.map enc) = _
    rw [pys_map L]
    rfl
theorem cd_sortD {L : List α} {enc : α → Dat} (hal : AllAlike (L.map fun a => (enc a).py)) (hk : Sortable (L.map fun a => (enc a).py) ∨ L.length ≤ 1) (hn : ∀ a ∈ L, (enc a).py ≠ .none ∧ (enc a).py.depth ≤ 8) : CD K (rSortedR K) [.list (L.map enc)] (.list ((L.mergeSort (dataLe false fun a => (enc a).py)).map enc)) := fun G H vs e d1 Q q => by
  cases d1 with
  | cons h t =>
    cases t
    cases h with
    | lst hs ha =>
      refine ⟨_, _, α, L, fun a => (enc a).py, fun v a => Dr K G v (enc a), rfl, ex_l e hs, each_of_drAll ha, ?_, hal, hk, hn, fun p ys hp ey => ?_⟩
      · have := drAll_dp _ _ (ha.ext e)
        rw [pys_map] at this
        exact this
      · exact q _ _ _ (newL e (drAll_of_each ey) hp).1 (newL e (drAll_of_each ey) hp).2
end
end DL

/-! my data layer: dicts with tuple keys: sorted(d), list(d.values()) -/
namespace DL
open PySem PySem.Spec L2 RZ
open PyProof.Rows (seqObj size_push')
open PySem.W (EachIs dataLe AllAlike Sortable alike SortsAt dataKind)
open Evl (Ex ex_l ex_t)
def tD (k : List Int) : PyData := .tuple (k.map .int)
theorem kE_V (k : List Int) : (kE k).map kV = k.map V.int := by
  unfold kE
  rw [List.map_map]
  rfl
theorem kE_inj {a b : List Int} (h : kE a = kE b) : a = b := by
  have := congrArg (List.map fun k : Key => match k with | .inl i => i | .inr _ => 0) h
  simpa [kE, Function.comp_def] using this
theorem dpAll_iv {K : PySem.W.Frag} {H : Hp} : ∀ {k : List Int}, DpAll K H (k.map V.int) (k.map .int)
  | [] => .nil
  | i :: k => .cons (.int i) dpAll_iv
theorem alike_tD (ks : List (List Int)) : AllAlike (ks.map tD) := by
  intro d hd d' hd'
  obtain ⟨k, _, rfl⟩ := List.mem_map.mp hd
  obtain ⟨k', _, rfl⟩ := List.mem_map.mp hd'
  show alike (.tuple _) (.tuple _) = true
  rw [alike]
  exact PySem.W.alike_ints k k'
theorem keys_each {H : Hp} : ∀ {kvs : List (List Key × V)} {xs : List (List Key × Addr × Value)} {ks : List (List Int)}, Paired (fun (p : List Key × V) (q : List Key × Addr × Value) => p.1 = q.1 ∧ H q.2.1 = some (.tup (p.1.map kV)) ∧ RelV p.2 q.2.2) kvs xs → kvs.map (·.1) = ks.map kE →
    EachIs (fun v k => ∃ b, v = Value.ref b ∧ H b = some (.tup (k.map V.int))) (xs.map fun x => Value.ref x.2.1) ks
  | _, _, [], .nil, _ => .nil
  | _, _, _ :: _, .nil, e => by simp at e
  | _, _, [], .cons _ _, e => by simp at e
  | p :: kvs, q :: xs, k :: ks, .cons h t, e => by
    simp only [List.map_cons, List.cons.injEq] at e
    refine .cons ⟨q.2.1, rfl, ?_⟩ (keys_each t e.2)
    rw [h.2.1, e.1, kE_V]
theorem entries_keys {es : Array DictEntry} {ks : List (List Key × Addr × Value)} {prog : Program} {w : World} (he : es.toList = ks.map (entryOfKey (tupleKind (mixKind prog w)))) {acc : Array Value} (it : ItemsOf (fun i v => ∃ en : DictEntry, es[i]? = some en ∧ v = en.key) acc es.size) : acc.toList = ks.map fun x => Value.ref x.2.1 := by
  have l1 : es.size = ks.length := by have := congrArg List.length he; simpa using this
  apply List.ext_getElem?
  intro j
  rw [List.getElem?_map]
  by_cases hj : j < acc.size
  · obtain ⟨en, hen, hv⟩ := it.2 j acc[j] (by simp [hj])
    have hj' : j < ks.length := by rw [← l1, ← it.1]; exact hj
    have q : es.toList[j]? = some (entryOfKey (tupleKind (mixKind prog w)) ks[j]) := by rw [he, List.getElem?_map, List.getElem?_eq_getElem hj']; rfl
    rw [Array.getElem?_toList, hen] at q
    have q := Option.some.inj q
    rw [List.getElem?_eq_getElem hj', Array.getElem?_toList, Array.getElem?_eq_getElem hj, hv, q]
    rfl
  · have hj' : ¬ j < ks.length := by rw [← l1, ← it.1]; exact hj
    rw [List.getElem?_eq_none (by simpa using hj), List.getElem?_eq_none (by omega)]
    rfl
def rSortKeys : List V → Hp → VK → Prop := fun vs H Q => ∃ (d : Addr) (kvs : List (List Key × V)) (ks : List (List Int)), vs = [V.ref d] ∧ H d = some (.dT kvs) ∧ kvs.map (·.1) = ks.map kE ∧ (Sortable (ks.map tD) ∨ ks.length ≤ 1) ∧
  ∀ (p : Addr) (bs : List V), H p = none → EachIs (fun v k => ∃ b, v = V.ref b ∧ H b = some (.tup (k.map V.int))) bs (ks.mergeSort (dataLe false tD)) → Q (.ref p) (upd H p (.lst bs))
theorem k_sortKeys (K : PySem.W.Frag) {X : Cx} (hu : X.A.units + 90 < cLine) (hc : X.calm = true := by rfl) : CallR X (.builtin "sorted") rSortKeys := by
  intro pins s σ H vs us Q I r h
  obtain ⟨d, kvs, ks, rfl, hd, hks, hk, q⟩ := h
  rw [Vals.ref1 r]
  obtain ⟨z, lo, xs, pr, o, es, ep, ho, hx, hdt, he, hn⟩ := I.hok d _ hd
  have l1 : es.size = xs.length := by have := congrArg List.length he; simpa using this
  have l2 : kvs.length = xs.length := Paired.length pr
  have l3 : kvs.length = ks.length := by have := congrArg List.length hks; simpa using this
  refine Calls.call_function_entry PyProof.Rows.kind_sorted PyProof.Rows.plain_sorted PyProof.Rows.entry_sorted (PyProof.Rows.args_sorted1 _) ?_
  unfold Builtin.«sorted»
  refine wpAny_bind (m := checkCount "sorted" 1 1 _) (wpAny_pure (wpAny_bind (PySem.W.kdu_collect (A := X.A.in1) (kdl_raw lo hx hdt) (I.ok.hd hc) ho (by omega) fun h' tk acc hk' hacc => ?_)))
  have ea := entries_keys he hacc
  have hal : acc.toList.length = ks.length := by rw [ea, List.length_map]; omega
  have J : Inv X pins σ H { s with heap := h', toks := tk } := I.kept hk'
  have eR := keys_each pr hks
  rw [← ea] at eR
  have hz : acc.toList.length ≤ sizeLine := by omega
  refine wpAny_bind (wpAny_newList ?_ hz)
  generalize acc.toList = vl at ea hal eR hz ⊢
  have hoL : (h'.push (seqObj "list" vl.toArray 0)).get? h'.objs.size = some (seqObj "list" vl.toArray 0) := Heap.get?_push_size _ rfl
  have old : ∀ b o, h'.get? b = some o → (PySem.W.sortingHeap (h'.push (seqObj "list" vl.toArray 0)) h'.objs.size vl).get? b = some o := fun b o g => PySem.W.sortingHeap_old (Nat.ne_of_lt (Heap.lt_size g)) (Heap.get?_push_of_some _ g)
  have er : EachIs (fun v k => ∃ as, Reads (PySem.W.sortingHeap (h'.push (seqObj "list" vl.toArray 0)) h'.objs.size vl) v (tD k) as) vl ks := eR.mono fun v k ⟨b, e1, hb⟩ => by
    subst e1
    obtain ⟨as, g⟩ := Dp.reads J (tD k) (.ref b) (.ref b) (.tup (.inl (.inl hb)) dpAll_iv) rfl
    exact ⟨as, PyProof.Rows.Reads.keeps old g⟩
  have dz : ∀ k : List Int, (tD k).depth ≤ 8 := fun k => by
    show (PyData.tuple _).depth ≤ 8
    simp only [PyData.depth, PySem.W.depth_ints]
    omega
  have S : SortsAt X.prog X.w X.A.in1.in1 { s with heap := PySem.W.sortingHeap (h'.push (seqObj "list" vl.toArray 0)) h'.objs.size vl, toks := tk } (dataKind (PySem.W.sortingHeap (h'.push (seqObj "list" vl.toArray 0)) h'.objs.size vl) (ks.map tD)) vl :=
    sortsAt_or (s := { s with heap := PySem.W.sortingHeap (h'.push (seqObj "list" vl.toArray 0)) h'.objs.size vl, toks := tk }) (PySem.W.each_map (R := fun v d => ∃ as, Reads (PySem.W.sortingHeap (h'.push (seqObj "list" vl.toArray 0)) h'.objs.size vl) v d as) tD er) (alike_tD ks) (by rw [List.length_map]; exact hk)
      (fun d hd => by obtain ⟨b, _, rfl⟩ := List.mem_map.mp hd; exact fun z => nomatch z) (fun d hd => by obtain ⟨b, _, rfl⟩ := List.mem_map.mp hd; have := dz b; show X.A.units + 2 + (tD b).depth < cLine; omega)
  have eo := PySem.W.sortVals_data (h' := PySem.W.sortingHeap (h'.push (seqObj "list" vl.toArray 0)) h'.objs.size vl) false eR er (alike_tD ks)
  refine wpAny_bind (wpAny_holding (wpAny_call_entry (s := { s with heap := h'.push (seqObj "list" vl.toArray 0), toks := tk }) PyProof.Rows.slot_list_sort ⟨_, hoL, rfl⟩ PyProof.Rows.entry_list_sort (PySem.W.list_sort_vals (s := { s with heap := h'.push (seqObj "list" vl.toArray 0), toks := tk }) hoL S hz ⟨_, rfl, ?_⟩) (PyProof.Rows.args_list_sort _)))
  generalize PySem.W.sortVals (dataKind (PySem.W.sortingHeap (h'.push (seqObj "list" vl.toArray 0)) h'.objs.size vl) (ks.map tD)) false vl vl = out at eo ⊢
  obtain ⟨e', he'⟩ := PyProof.Rows.sortedHeap_at (vs := vl) (out := out.toArray) hoL
  obtain ⟨ys, vy, ey⟩ := vals_each (Rv := fun v k => ∃ b, v = V.ref b ∧ H b = some (.tup (k.map V.int))) (eo.mono fun u k ⟨b, e1, hb⟩ => ⟨V.ref b, e1, b, rfl, hb⟩)
  have ly : ys.length ≤ sizeLine := by rw [each_len ey, List.length_mergeSort]; omega
  refine wpAny_pure ⟨_, rfl, .ref h'.objs.size, upd H h'.objs.size (.lst ys), J.laid (t' := tk) (fun b u g => ?_) (Nat.le_refl _) ⟨ly, out, e', vy, he'⟩, rfl, q _ ys (J.hok.fresh (Nat.le_refl _)) ey⟩
  have hb : b < h'.objs.size := Heap.lt_size g
  rw [PyProof.Rows.sortedHeap_old (Nat.ne_of_lt hb) (by rw [size_push']; exact Nat.lt_succ_of_lt hb)]
  exact Heap.get?_push_of_some _ g
end DL

/-! my data layer: a dict that tells where each key stands, filled by a loop; list(d.values()); tuple(range(..)) -/
namespace DL
open PySem PySem.Spec L2 RZ
open PyProof.Rows (seqObj size_push')
open PySem.W (EachIs dataLe AllAlike Sortable alike SortsAt dataKind)
open Evl (Ex ex_l ex_t)
abbrev iDs (l : List Nat) : Dat := .tuple .s (l.map fun i : Nat => .int (i : Int))
abbrev kD (k : List Int) : Dat := .tuple .p (k.map .int)
theorem idxs_snoc (S : List (List Int)) (key k : List Int) : idxs (S ++ [key]) k = idxs S k ++ (if key = k then [S.length] else []) := by
  unfold idxs
  rw [List.length_append, List.length_singleton, List.range_succ, List.filter_append]
  congr 1
  · apply List.filter_congr
    intro i hi
    have hi : i < S.length := by simpa using hi
    rw [List.getElem?_append_left hi]
  · by_cases h : key = k
    · subst h; simp
    · simp [h]
theorem idxs_none {S : List (List Int)} {k : List Int} (h : k ∉ S) : idxs S k = [] := by
  unfold idxs
  rw [List.filter_eq_nil_iff]
  intro i _ q
  have q : S[i]? = some k := by simpa using q
  exact h (List.mem_of_getElem? q)
theorem idxs_le (S : List (List Int)) (k : List Int) : (idxs S k).length ≤ S.length := by
  unfold idxs
  have := List.length_filter_le (fun i => decide (S[i]? = some k)) (List.range S.length)
  rw [List.length_range] at this
  exact this
section
variable {K : PySem.W.Frag}
theorem keys_put {κ : Type} [DecidableEq κ] {vs : List (κ × V)} {k : κ} {w : V} : (putK vs k w).map (·.1) = if (valV vs k).isSome = true then vs.map (·.1) else vs.map (·.1) ++ [k] := by
  unfold putK
  rw [valV_any]
  split
  · rw [List.map_map]
    apply List.map_congr_left
    intro kv _
    simp only [Function.comp]
    split <;> rfl
  · simp
theorem val_some {vs : List (List Key × V)} {ks : List (List Int)} (h : vs.map (·.1) = ks.map kE) (k : List Int) : (valV vs (kE k)).isSome = true ↔ k ∈ ks := by
  rw [← valV_any]
  rw [List.any_eq_true]
  constructor
  · rintro ⟨kv, hm, e⟩
    have e : kv.1 = kE k := by simpa using e
    have : kE k ∈ ks.map kE := by rw [← h, ← e]; exact List.mem_map_of_mem hm
    obtain ⟨k', hk', e'⟩ := List.mem_map.mp this
    exact kE_inj e' ▸ hk'
  · intro hk
    have : kE k ∈ vs.map (·.1) := by rw [h]; exact List.mem_map_of_mem hk
    obtain ⟨kv, hm, e⟩ := List.mem_map.mp this
    exact ⟨kv, hm, by simpa using e⟩
theorem TallyOk.nil {G : Hp} : TallyOk K G [] [] := ⟨[], rfl, List.nodup_nil, fun k => by simp, Nat.le_refl _, fun k hk => by simp at hk⟩
theorem TallyOk.put {G : Hp} {vs : List (List Key × V)} {S : List (List Int)} {key : List Int} {w : V} (h : TallyOk K G vs S) (dw : Dr K G w (iDs (idxs S key ++ [S.length]))) : TallyOk K G (putK vs (kE key) w) (S ++ [key]) := by
  obtain ⟨ks, h1, h2, h3, h4, h5⟩ := h
  have new : Dr K G w (iDs (idxs (S ++ [key]) key)) := by rw [idxs_snoc, if_pos rfl]; exact dw
  have old : ∀ k ∈ ks, k ≠ key → ∃ v, valV (putK vs (kE key) w) (kE k) = some v ∧ Dr K G v (iDs (idxs (S ++ [key]) k)) := by
    intro k hk ne
    obtain ⟨v, a, b⟩ := h5 k hk
    refine ⟨v, ?_, ?_⟩
    · rw [valV_put, if_neg fun e => ne (kE_inj e)]
      exact a
    · rw [idxs_snoc, if_neg fun e => ne e.symm, List.append_nil]
      exact b
  have here : ∃ v, valV (putK vs (kE key) w) (kE key) = some v ∧ Dr K G v (iDs (idxs (S ++ [key]) key)) := ⟨w, by rw [valV_put, if_pos rfl], new⟩
  by_cases hm : key ∈ ks
  · refine ⟨ks, ?_, h2, fun k => ?_, by rw [List.length_append]; omega, fun k hk => ?_⟩
    · rw [keys_put, if_pos ((val_some h1 key).mpr hm)]
      exact h1
    · rw [h3 k, List.mem_append, List.mem_singleton]
      exact ⟨.inl, fun q => q.elim id fun e => e ▸ (h3 key).mp hm⟩
    · by_cases e : k = key
      · subst e; exact here
      · exact old k hk e
  · refine ⟨ks ++ [key], ?_, ?_, fun k => ?_, by simp; exact h4, fun k hk => ?_⟩
    · rw [keys_put, if_neg fun q => hm ((val_some h1 key).mp q), h1]
      simp
    · rw [List.nodup_append]
      exact ⟨h2, by simp, fun a ha b hb e => hm (by rw [List.mem_singleton.mp hb] at e; exact e ▸ ha)⟩
    · rw [List.mem_append, List.mem_append, h3 k]
    · rcases List.mem_append.mp hk with hk | hk
      · exact old k hk fun e => hm (e ▸ hk)
      · rw [List.mem_singleton.mp hk]; exact here
structure OwnT (K : PySem.W.Frag) (G1 H1 G' H' : Hp) (D : Addr) (S : List (List Int)) : Prop where
  xt : Xt G1 H1 G' H'
  nd : G' D = none
  hd : ∃ vs, H' D = some (.dT vs) ∧ TallyOk K G' vs S
theorem OwnT.start {G1 H1 : Hp} {D : Addr} (e : Ex G1 H1) (h : H1 D = none) : OwnT K G1 H1 G1 (upd H1 D (.dT [])) D [] :=
  ⟨⟨Ex.refl _, Ex.new h, e.trans (Ex.new h), fun a _ h1 _ _ => h1⟩, ex_none e h, [], upd_same, .nil⟩
theorem OwnT.go {G1 H1 G' H' G2 H2 : Hp} {D : Addr} {S : List (List Int)} (o : OwnT K G1 H1 G' H' D S) (x : Xt G' H' G2 H2) : OwnT K G1 H1 G2 H2 D S := by
  obtain ⟨xt, nd, vs, hd, da⟩ := o
  exact ⟨xt.trans x, x.fr D _ nd hd trivial, vs, x.hh D _ hd, da.ext x.gg⟩
theorem OwnT.put {G1 H1 G' H' : Hp} {D : Addr} {S : List (List Int)} (o : OwnT K G1 H1 G' H' D S) (h1 : H1 D = none) {key : List Int} {w : V} (dw : Dr K G' w (iDs (idxs S key ++ [S.length]))) {vs : List (List Key × V)} (hv : H' D = some (.dT vs)) :
    OwnT K G1 H1 G' (upd H' D (.dT (putK vs (kE key) w))) D (S ++ [key]) := by
  obtain ⟨xt, nd, vs', hd, da⟩ := o
  rw [hv] at hd
  cases hd
  refine ⟨⟨xt.gg, xt.hh.mut h1, fun a o q => ?_, xt.fr⟩, nd, _, upd_same, da.put dw⟩
  have ne : a ≠ D := fun z => by subst z; rw [nd] at q; cases q
  rw [upd_ne ne]
  exact xt.gh a o q
theorem OwnT.done {G1 H1 G' H' : Hp} {D : Addr} {S : List (List Int)} (o : OwnT K G1 H1 G' H' D S) (h1 : H1 D = none) : ∃ G2, Xt G1 H1 G2 H' ∧ Slot1 K G2 (some (.ref D)) (some (.t S)) ∧ Ex G' G2 := by
  obtain ⟨xt, nd, vs, hd, da⟩ := o
  refine ⟨upd G' D (.dT vs), ⟨xt.gg.trans (Ex.new nd), xt.hh, fun a o q => ?_, fun a u q1 q2 q3 => ?_⟩, ⟨D, vs, rfl, upd_same, da.ext (Ex.new nd)⟩, Ex.new nd⟩
  · by_cases ne : a = D
    · subst ne; rw [upd_same] at q; cases q; exact hd
    · rw [upd_ne ne] at q; exact xt.gh a o q
  · have ne : a ≠ D := fun z => by subst z; rw [h1] at q2; cases q2
    rw [upd_ne ne]; exact xt.fr a u q1 q2 q3
end
section
variable (K : PySem.W.Frag)
/-- a turn: the dict at p, behind which the key stands at one more place -/
def Ta (n : Nat) (p : Addr) (tb : TS) (δ : Sl) (N : Sl → Prop) (key : List Int) : Prop := ∀ (σ : L2.St) (G1 H1 G H : Hp) (S : List (List Int)) (D : Ends), SlOk K G σ δ → OwnT K G1 H1 G H p S → H1 p = none → S.length = n → n ≤ 1000 →
  (∀ σ2 G2 H2 δ2, OwnT K G1 H1 G2 H2 p (S ++ [key]) → Ex G G2 → SlOk K G2 σ2 δ2 → N δ2 → D.nx σ2 H2) → tb D σ H
end
section
variable {K : PySem.W.Frag} {δ : Sl} {te : TE} {d : Dat} {ts tu : TS} {N : Sl → Prop} {R : Dat → Prop} {p : Addr} {n : Nat} {key : List Int}
theorem ta_set {k : Nat} (h : E1 K te δ d) (h2 : Ta K n p ts (δ.set k (some (.d d))) N key) : Ta K n p (tSeq (tAsg te (gName k)) ts) δ N key := fun σ G1 H1 G H S D s o h1 hl hn nx =>
  h σ G H s o.xt.gh _ fun v G2 H2 x2 d2 => h2 _ G1 H1 G2 H2 S D (SlOk.set (o := some v) (s := some (.d d)) d2 k (s.ext x2.gg)) (o.go x2) h1 hl hn fun σ3 G3 H3 δ3 o3 e3 s3 n3 => nx σ3 G3 H3 δ3 o3 (x2.gg.trans e3) s3 n3
theorem tally_some {G : Hp} {vs : List (List Key × V)} {S : List (List Int)} (h : TallyOk K G vs S) {v : V} (e : valV vs (kE key) = some v) : Dr K G v (iDs (idxs S key)) := by
  obtain ⟨ks, h1, h2, h3, h4, h5⟩ := h
  obtain ⟨u, a, b⟩ := h5 key ((val_some h1 key).mp (by rw [e]; rfl))
  rw [e] at a
  cases a
  exact b
theorem tally_none {G : Hp} {vs : List (List Key × V)} {S : List (List Int)} (h : TallyOk K G vs S) (e : valV vs (kE key) = none) : key ∉ S := by
  obtain ⟨ks, h1, h2, h3, h4, h5⟩ := h
  intro q
  have := (val_some h1 key).mpr ((h3 key).mpr q)
  rw [e] at this
  cases this
theorem ta_put {k0 k1 k2 : Nat} (e0 : δ[k0]? = some (some (.r (.ref p)))) (e1 : δ[k1]? = some (some (.d (kD key)))) (e2 : δ[k2]? = some (some (.d (.int (n : Nat))))) (hn : N δ) :
    Ta K n p (sDPut (tVar k0) (tVar k1) (tOp (rCatZ K) (tDGet2 (tVar k0) (tVar k1) (tTupZ tNil)) (tTupZ (tCons (tVar k2) tNil)))) δ N key := fun σ G1 H1 G H S D s o h1 hl hb nx => by
  obtain ⟨v0, q0, r0⟩ := s.get e0
  have r0 : v0 = .ref p := r0
  subst r0
  obtain ⟨v1, q1, r1⟩ := s.get e1
  have r1 : Dr K G v1 (kD key) := r1
  obtain ⟨b, rfl, hb1⟩ : ∃ b, v1 = .ref b ∧ G b = some (.tup ((kE key).map kV)) := by
    cases r1 with
    | @tup _ b xs _ hs ha =>
      refine ⟨b, rfl, ?_⟩
      rw [kE_V]
      rw [dpAll_ints ha] at hs
      exact hs
  obtain ⟨vs, hv, tv⟩ := o.hd
  refine ⟨_, q0, p, rfl, .inr ⟨vs, .inl hv⟩, _, q1, ?_⟩
  refine ⟨by show (0 : Nat) ≤ sizeLine; exact Nat.zero_le _, fun q oq hq hoq => ?_⟩
  obtain ⟨x3, d3⟩ := newZ o.xt.gh (ds := []) .nil hq hoq
  have o3 := o.go x3
  have hv3 := x3.hh _ _ hv
  have hb3 := x3.gg _ _ hb1
  refine ⟨valV vs (kE key), .inr ⟨vs, kE key, b, .inl hv3, rfl, x3.gh _ _ hb3, rfl⟩, ?_⟩
  have dold : Dr K (upd G q (.frz oq (.tup []))) ((valV vs (kE key)).getD (.ref q)) (iDs (idxs S key)) := by
    cases e : valV vs (kE key) with
    | some v => exact (tally_some tv e).ext x3.gg
    | none =>
      rw [idxs_none (tally_none tv e)]
      exact d3
  have key2 := e_tupZ (K := K) (δ := δ) (ds := [.int (n : Nat)]) (a_cons (e_var e2) a_nil)
  refine key2 σ _ _ (s.ext x3.gg) x3.gh _ fun w4 G4 H4 x4 d4 => ?_
  have o4 := o3.go x4
  refine rd_cat (K := K) (ds := (idxs S key).map fun i : Nat => .int (i : Int)) (es := [.int (n : Nat)]) (by have := idxs_le S key; simp; omega) G4 H4 _ w4 x4.gh (dold.ext x4.gg) d4 _ fun w5 G5 H5 x5 d5 => ?_
  have o5 := o4.go x5
  have hv5 : H5 p = some (.dT vs) := x5.hh _ _ (x4.hh _ _ hv3)
  have hb5 : H5 b = some (.tup ((kE key).map kV)) := x5.gh _ _ (x5.gg _ _ (x4.gg _ _ hb3))
  refine ⟨_, q0, _, q1, p, _, rfl, .inr ⟨vs, kE key, b, hv5, rfl, hb5, ?_, rfl⟩, ?_⟩
  · obtain ⟨ks, t1, t2, t3, t4, t5⟩ := tv
    have : vs.length = ks.length := by have := congrArg List.length t1; simpa using this
    exact sz_lt (by omega)
  · have d5' : Dr K G5 w5 (iDs (idxs S key ++ [S.length])) := by
      rw [hl]
      have e : ((idxs S key).map fun i : Nat => Dat.int (i : Int)) ++ [.int (n : Nat)] = (idxs S key ++ [n]).map fun i : Nat => Dat.int (i : Int) := by simp
      rw [e] at d5
      exact d5
    exact nx σ G5 _ δ (o5.put h1 d5' hv5) ((x3.trans x4).trans x5).gg (s.ext ((x3.trans x4).trans x5).gg) hn
/-- d = {}; for target in iter: (a turn of the tally); the rest -/
theorem sd_tally {α : Type} {k : Nat} {wi : TI} {g : TG} {js : List Nat} {tv : TS} (L : List α) (enc : α → Dat) (f : α → List Int) {δ' : Addr → α → Sl} (hw : ∀ p, W1 K wi (δ.set k (some (.r (.ref p)))) (L.map enc))
    (hg : ∀ p a, G1 K g js (δ.set k (some (.r (.ref p)))) (enc a) (δ' p a)) (hb : ∀ p i a, L[i]? = some a → Ta K i p tv (δ' p a) (fun δ2 => Weak δ2 (δ.set k (some (.r (.ref p))))) (f a)) (hl : L.length ≤ 1000)
    (hd : Sd K ts (δ.set k (some (.t (L.map f)))) N R) : Sd K (tSeq (tAsg tDNewT (gName k)) (tSeq (tFor wi g tv) ts)) δ N R := fun σ G1 H1 D s e nx rt => by
  intro p hp
  have o0 : OwnT K G1 H1 G1 (upd H1 p (.dT [])) p [] := .start e hp
  have s0 : SlOk K G1 (σ.set k (some (.ref p))) (δ.set k (some (.r (.ref p)))) := SlOk.set (o := some (.ref p)) (s := some (.r (.ref p))) rfl k s
  show tFor wi g tv { D with nx := ts D } (σ.set k (some (.ref p))) (upd H1 p (.dT []))
  refine hw p _ G1 _ s0 o0.xt.gh _ fun J G2 H2 x2 w => ?_
  have LL : (L.map enc).length = L.length := by simp
  rw [LL] at w
  refine for_it w (fun i σ' H' => ∃ G', OwnT K G1 H1 G' H' p ((L.take i).map f) ∧ Ex G2 G' ∧ SlOk K G' σ' (δ.set k (some (.r (.ref p))))) ⟨G2, by simpa using o0.go x2, Ex.refl _, s0.ext x2.gg⟩ (fun i σ' H' _ q => ?_) (fun i x σ' H' H'' hi q y => ?_) (fun σ' H' q => ?_)
  · obtain ⟨G', o, e2, _⟩ := q
    exact e2.trans o.xt.gh
  · obtain ⟨G', o, e2, s2⟩ := q
    obtain ⟨d, hd', y⟩ := y
    obtain ⟨G'', x3, dx⟩ := y G' e2 o.xt.gh
    rw [List.getElem?_map] at hd'
    cases ha : L[i]? with
    | none => rw [ha] at hd'; cases hd'
    | some a =>
      rw [ha] at hd'
      have hd' := Option.some.inj hd'
      subst hd'
      have o3 := o.go x3
      refine hg p a σ' G'' H'' x (s2.ext x3.gg) x3.gh dx _ fun σ4 s4 _ => ?_
      refine hb p i a ha σ4 G1 H1 G'' H'' _ _ s4 o3 hp (by rw [List.length_map, List.length_take]; omega) (by omega) fun σ5 G5 H5 δ5 o5 e5 s5 n5 => ⟨G5, ?_, (e2.trans x3.gg).trans e5, n5 K G5 σ5 s5⟩
      rw [List.take_add_one, ha]
      simpa using o5
  · obtain ⟨G', o, e2, s2⟩ := q
    rw [List.take_length] at o
    obtain ⟨G3, x3, d3, e3⟩ := o.done hp
    have s3 : SlOk K G3 σ' (δ.set k (some (.t (L.map f)))) := by
      have aux : ∀ {σ : L2.St} {δ : Sl} (k : Nat), SlOk K G3 σ (δ.set k (some (.r (.ref p)))) → SlOk K G3 σ (δ.set k (some (.t (L.map f)))) := by
        intro σ δ
        induction δ generalizing σ with
        | nil => intro k h; exact h
        | cons s δ ih =>
          intro k h
          cases k with
          | zero =>
            cases h with
            | @cons o _ _ _ h t =>
              cases o with
              | none => exact h.elim
              | some u =>
                have h : u = .ref p := h
                subst h
                exact .cons d3 t
          | succ k =>
            cases h with
            | cons h t => exact .cons h (ih k t)
      exact aux k (s2.ext e3)
    exact hd σ' G3 H' D s3 x3.gh (fun σ4 G4 H4 δ4 x4 s4 n4 => nx σ4 G4 H4 δ4 (x3.trans x4) s4 n4) fun v G4 H4 d x4 d4 r => rt v G4 H4 d (x3.trans x4) d4 r
/-- d[k] -/
theorem e_tget {S : List (List Int)} {k0 : Nat} (e0 : δ[k0]? = some (some (.t S))) (h : E1 K te δ (kD key)) (hk : key ∈ S) : E1 K (tDGet (tVar k0) te) δ (iDs (idxs S key)) := fun σ G H s e Q q => by
  obtain ⟨v0, q0, D, vs, rfl, hD, tv⟩ := s.get e0
  refine ⟨_, q0, h σ G H s e _ fun v G2 H2 x2 d2 => ?_⟩
  obtain ⟨b, rfl, hb1⟩ : ∃ b, v = .ref b ∧ G2 b = some (.tup ((kE key).map kV)) := by
    cases d2 with
    | @tup _ b xs _ hs ha =>
      refine ⟨b, rfl, ?_⟩
      rw [kE_V]
      rw [dpAll_ints ha] at hs
      exact hs
  obtain ⟨ks, t1, t2, t3, t4, t5⟩ := id tv
  obtain ⟨w, e1, d1⟩ := t5 key ((t3 key).mpr hk)
  exact ⟨D, w, rfl, .inr ⟨vs, kE key, b, .inl (x2.gh _ _ (x2.gg _ _ hD)), rfl, x2.gh _ _ hb1, e1.symm⟩, q w G2 H2 x2 (d1.ext x2.gg)⟩
theorem le_ints (a b : List Int) : dataLe false tD a b = decide (a ≤ b) := by
  show (!PySem.W.dataLt (tD b) (tD a)) = _
  unfold tD
  rw [PySem.W.dataLt_tuple]
  show (!PySem.W.rowLt (b.map .int) (a.map .int)) = _
  rw [PySem.W.dataLt_ints]
  by_cases h : b < a
  · have h' : ¬ a ≤ b := fun r => List.not_lt.mpr r h
    simp [h, h']
  · have h' : a ≤ b := List.not_lt.mp h
    simp [h, h']
/-- all plain tuples there are, known too -/
def learnT (G H : Hp) : Hp := fun a => match G a with
  | some o => some o
  | none => match H a with
    | some (.tup xs) => some (.tup xs)
    | _ => none
theorem learn_xt {G H : Hp} (e : Ex G H) : Xt G H (learnT G H) H := by
  refine ⟨fun a o h => ?_, Ex.refl H, fun a o h => ?_, fun a o h1 h2 h3 => ?_⟩
  · unfold learnT; rw [h]
  · unfold learnT at h
    cases hg : G a with
    | some u => rw [hg] at h; cases h; exact e a _ hg
    | none =>
      rw [hg] at h
      cases hh : H a with
      | none => rw [hh] at h; cases h
      | some u =>
        rw [hh] at h
        cases u <;> first | (cases h; rfl) | cases h
  · unfold learnT
    rw [h1, h2]
    cases o <;> first | rfl | exact h3.elim
theorem learn_at {G H : Hp} {b : Addr} {xs : List V} (e : Ex G H) (h : H b = some (.tup xs)) : learnT G H b = some (.tup xs) := by
  unfold learnT
  cases hg : G b with
  | some u => rw [e _ _ hg] at h; exact h
  | none => rw [h]
theorem drAll_keys {G H : Hp} (e : Ex G H) : ∀ {bs : List V} {ks : List (List Int)}, EachIs (fun v k => ∃ b, v = V.ref b ∧ H b = some (.tup (k.map V.int))) bs ks → DrAll K (learnT G H) bs (ks.map kD)
  | _, _, .nil => .nil
  | _, _, .cons ⟨b, e1, h⟩ t => .cons (e1 ▸ .tup (s := .p) (learn_at e h) dpAll_ofInts) (drAll_keys e t)
/-- sorted(d) -/
theorem e_sortKeys {S : List (List Int)} {k0 : Nat} (e0 : δ[k0]? = some (some (.t S))) (hS : (∀ k ∈ S, k ≠ []) ∨ ∀ k ∈ S, k = []) :
    ER K (tCB rSortKeys (tCons (tVar k0) tNil)) δ fun d => ∃ told : List (List Int), d = .list (told.map kD) ∧ told.Pairwise (· < ·) ∧ (∀ k, k ∈ told ↔ k ∈ S) ∧ told.length ≤ S.length := fun σ G H s e Q q => by
  obtain ⟨v0, q0, D, vs, rfl, hD, ks, t1, t2, t3, t4, t5⟩ := s.get e0
  refine ⟨_, q0, D, vs, ks, rfl, e _ _ hD, t1, ?_, fun p bs hp eb => ?_⟩
  · rcases hS with hS | hS
    · left
      left
      intro d hd
      obtain ⟨k, hk, rfl⟩ := List.mem_map.mp hd
      cases k with
      | nil => exact absurd rfl (hS [] ((t3 []).mp hk))
      | cons x r => exact ⟨.int x, r.map .int, rfl⟩
    · right
      cases ks with
      | nil => exact Nat.zero_le _
      | cons a r =>
        cases r with
        | nil => exact Nat.le_refl _
        | cons b r =>
          have h1 := hS a ((t3 a).mp (by simp))
          have h2 := hS b ((t3 b).mp (by simp))
          rw [h1, h2] at t2
          simp at t2
  · have pm : (ks.mergeSort (dataLe false tD)).Perm ks := List.mergeSort_perm _ _
    have so : (ks.mergeSort (dataLe false tD)).Pairwise (fun a b => dataLe false tD a b = true) := List.pairwise_mergeSort (fun a b c h1 h2 => by
      rw [le_ints, decide_eq_true_eq] at *
      exact List.le_trans h1 h2) (fun a b => by
      rw [le_ints, le_ints, Bool.or_eq_true, decide_eq_true_eq, decide_eq_true_eq]
      exact List.le_total a b) ks
    have nd : (ks.mergeSort (dataLe false tD)).Nodup := pm.nodup_iff.mpr t2
    have x1 := learn_xt e
    obtain ⟨x2, d2⟩ := newL x1.gh (drAll_keys (K := K) e eb) hp
    refine q _ _ _ _ (x1.trans x2) d2 ⟨_, rfl, ?_, fun k => ?_, ?_⟩
    · refine List.Pairwise.imp₂ (R := fun a b => dataLe false tD a b = true) (S := (· ≠ ·)) (fun a b h1 h2 => ?_) so nd
      rw [le_ints, decide_eq_true_eq] at h1
      exact Std.lt_of_le_of_ne h1 h2
    · rw [pm.mem_iff]; exact t3 k
    · rw [pm.length_eq]; exact t4
end
end DL

/-! my data layer: list(d.values()), tuple(range(..)), two names at once -/
namespace DL
open PySem PySem.Spec L2 RZ
open PySem.W (EachIs dataLe AllAlike Sortable alike SortsAt dataKind)
open PyProof.Rows (seqObj size_push' Call_ boot_tuple args_cons args_nil)
open Evl (Ex ex_l ex_t)
def tListVals (te : TE) : TE := fun σ H Q => te σ H fun x H1 => ∃ (d : Addr) (kvs : List (List Key × V)), x = .ref d ∧ H1 d = some (.dT kvs) ∧ ∀ p, H1 p = none → Q (.ref p) (upd H1 p (.lst (kvs.map (·.2))))
theorem entries_vals {H : Hp} {es : Array DictEntry} {kvs : List (List Key × V)} {ks : List (List Key × Addr × Value)} {prog : Program} {w : World} (he : es.toList = ks.map (entryOfKey (tupleKind (mixKind prog w)))) (pr : Paired (fun (p : List Key × V) (q : List Key × Addr × Value) => p.1 = q.1 ∧ H q.2.1 = some (.tup (p.1.map kV)) ∧ RelV p.2 q.2.2) kvs ks)
    {acc : Array Value} (it : ItemsOf (fun i v => ∃ hi : i < es.size, v = es[i].val) acc es.size) : Vals (kvs.map (·.2)) acc.toList := by
  have l1 : es.size = ks.length := by have := congrArg List.length he; simpa using this
  have e : acc.toList = ks.map fun x => x.2.2 := by
    apply List.ext_getElem?
    intro j
    rw [List.getElem?_map]
    by_cases hj : j < acc.size
    · obtain ⟨hi, hv⟩ := it.2 j acc[j] (by simp [hj])
      have hj' : j < ks.length := by rw [← l1]; exact hi
      have q : es.toList[j]? = some (entryOfKey (tupleKind (mixKind prog w)) ks[j]) := by rw [he, List.getElem?_map, List.getElem?_eq_getElem hj']; rfl
      rw [Array.getElem?_toList, Array.getElem?_eq_getElem hi] at q
      have q := Option.some.inj q
      rw [List.getElem?_eq_getElem hj', Array.getElem?_toList, Array.getElem?_eq_getElem hj, hv, q]
      rfl
    · have hj' : ¬ j < ks.length := by rw [← l1, ← it.1]; exact hj
      rw [List.getElem?_eq_none (by simpa using hj), List.getElem?_eq_none (by omega)]
      rfl
  rw [e]
  clear it e he l1
  induction pr with
  | nil => exact .nil
  | cons h t ih => exact .cons h.2.2 ih
theorem k_listVals (K : PySem.W.Frag) {X : Cx} {e : Expr} {te : TE} {p apos cpos pos : Pos} (hg : Gl X "list") (hm : X.mg "list" = none) (he : PE X e te) (hc : X.calm = true := by rfl) (hv : bootBuiltins "list" = some (.type "list") := by decide +kernel)
    (hbase : attributeBase e "values" X.env (eval e X.env) = eval e X.env := by rfl) (hline : (apos.endLine == cpos.line) = true := by rfl)
    (hs : starEach [.Call (.Attribute e "values" apos) [] [] cpos] X.env = (false, eval (.Call (.Attribute e "values" apos) [] [] cpos) X.env) :: starEach [] X.env := by rfl) :
    PE X (.Call (.Name "list" p) [.Call (.Attribute e "values" apos) [] [] cpos] [] pos) (tListVals te) := by
  refine ⟨fun pins s σ H Q I hq => ?_⟩
  refine PyProof.Rows.Call_ (ld_blt I hg hm hv ?_)
  refine PyProof.Rows.callWith_type1 ?_ hs rfl
  rw [hs]
  show wpAny _ _ (spliced ((false, eval (.Call (.Attribute e "values" apos) [] [] cpos) X.env) :: backTo pos (starEach [] X.env))) _ _ s
  refine Calls.spliced_cons ?_
  refine wpAny_Call_method (T := "dict") (id := "dict.values") hbase rfl hline F.plainAttrs_dict F.slot_dict_values F.type_dict_values (thn (he.run pins s σ H _ I hq) fun u s1 ⟨x, H1, I1, rx, d, kvs, ex, hd, q⟩ => ?_)
  subst ex
  obtain rfl : u = Value.ref d := rx
  obtain ⟨z, lo, xs, pr, o, es, ep, ho, hx, hdt, hes, hn⟩ := I1.hok d _ hd
  have l1 : es.size = xs.length := by have := congrArg List.length hes; simpa using this
  have l2 : kvs.length = xs.length := Paired.length pr
  have raw : s1.heap.DictRaw d es ep := ⟨o, ho, hx, hdt⟩
  have I2 : Inv X pins σ H1 { s1 with heap := s1.heap.push { cls := .type "dict_values", data := .fields #[.ref d] } } := I1.kept (t' := s1.toks) fun b ob q => Heap.get?_push_of_some _ q
  refine ⟨raw.typeIs, fun b q => ?_, ?_⟩
  · cases q
    exact ⟨o, ho, hx.2.1⟩
  show wpAny _ _ (callWith cpos (.builtin "dict.values") [.ref d] [] []) _ X.xe s1
  refine method_meetsIn F.slot_dict_values F.entry_dict_values rfl (PySem.evalArgs_none ⟨rfl, raw.typeIs, F.args_dict_values_1 _, _, meets_dict_values_raw d lo, ⟨es, ep, raw⟩, ?_⟩)
  refine Calls.spliced_nil ?_
  refine PySem.W.kdl_call (PySem.KdlSrc.rawValues (es := es) (ep := ep) (d := d)) (I1.ok.hd hc) ⟨⟨_, Heap.get?_push_size _ rfl, rfl, rfl⟩, raw.at fun o e => Heap.get?_push_of_some _ e⟩ (by omega) fun h' tk acc c hk hS hacc => ?_
  have rv := entries_vals hes pr hacc
  have hz : (kvs.map (·.2)).length ≤ sizeLine := by rw [List.length_map]; omega
  have hz2 : s1.heap.objs.size ≤ (s1.heap.push { cls := .type "dict_values", data := .fields #[.ref d] }).objs.size := by rw [size_push']; exact Nat.le_succ _
  refine ⟨.ref _, upd H1 _ (.lst (kvs.map (·.2))), I2.laid (t' := tk) hk (Nat.le_refl _) ?_, rfl, q _ (I2.hok.fresh (Nat.le_refl _))⟩
  exact ⟨hz, acc.toList, c, rv, by rw [Array.toArray_toList]; exact hS⟩
theorem m2_rfl {X : Cx} {o e f : Expr} {m : Str} {apos cpos : Pos} (base : attributeBase o m X.env (eval o X.env) = eval o X.env := by rfl)
    (few : ((backTo cpos (starEach [e, f] X.env)).all (fun x => !x.1) && (backToKw cpos (keywordEach [] X.env)).all (fun x => x.1.isSome) && decide (([e, f] : List Expr).length + ([] : List Keyword).length + (if ([] : List Keyword).isEmpty then 0 else 1) < 30)) = true := by rfl)
    (line : (apos.endLine == cpos.line) = true := by rfl) (trees : backTo cpos (starEach [e, f] X.env) = [(false, eval e X.env), (false, eval f X.env)] := by rfl) : M2 X o m apos e f cpos := ⟨base, few, line, trees⟩
def tTupRgZ (te : St → Hp → (Int → Int → Hp → Prop) → Prop) : TE := fun σ H Q => te σ H fun a b H1 => RgOk a b ∧ ∀ (q : Addr) (o : Obj), H1 q = none → o.dict = none → Q (.ref q) (upd H1 q (.frz o (.tup (rgV a b))))
theorem k_tupRgZ {X : Cx} {e : Expr} {te : St → Hp → (Int → Int → Hp → Prop) → Prop} {p pos : Pos} (hc : X.calm = true) (hg : Gl X "tuple") (hm : X.mg "tuple" = none) (he : PRg X e te) (na : starEach [e] X.env = (false, eval e X.env) :: starEach [] X.env := by rfl) : PE X (.Call (.Name "tuple" p) [e] [] pos) (tTupRgZ te) := by
  refine ⟨fun pins s σ H Q I h => ?_⟩
  refine Call_ (ld_blt I hg hm boot_tuple (PyProof.Rows.callWith_type1 (args_cons (thn (he pins s σ H _ I h) fun x s1 ⟨r, a, b, t, u, v, H1, ex, hr, I1, ok, q⟩ => args_nil ?_) na) na))
  subst ex
  obtain ⟨b1, b2, b3, b4, b5⟩ := ok
  refine call_tuple_range (n := (b - a).toNat) (I1.ok.hd hc) hr (small_one b1 b2 b3 b4) (PyProof.Rows.rangeSize_nat a b) b5 fun h' tk acc hk hi => ?_
  have I2 : Inv X pins σ H1 { s1 with heap := h', toks := tk } := I1.kept hk
  refine ⟨.ref h'.objs.size, _, I2.laid (t' := tk) (o := .frz { cls := .type "tuple", data := .seq acc } (.tup (rgV a b))) (fun c o e => Heap.get?_push_of_some _ e) (Nat.le_refl _) ⟨Heap.get?_push_size _ rfl, ?_, acc.toList, vals_rg hi, ?_⟩, rfl, q _ _ (I2.hok.fresh (Nat.le_refl _)) rfl⟩
  · rw [rgV_length, sizeLine_eq]; omega
  · rw [Array.toArray_toList]; exact PyProof.Rows.IsTup.new _ _
section
variable {K : PySem.W.Frag} {δ : Sl} {te : TE} {ta tb : TE} {ds : List Dat} {x y d : Dat} {ts tu : TS} {N : Sl → Prop} {R : Dat → Prop} {a b : Bool}
theorem e_tupRg {n : Nat} (h : E1 K te δ (.int (n : Nat))) (hn : n ≤ 100000) : E1 K (tTupRgZ (tRg1 te)) δ (iDs (List.range n)) := fun σ G H s e Q q =>
  h σ G H s e _ fun v G1 H1 x1 d1 => by
    cases d1
    refine ⟨(n : Int), rfl, .of_le (by omega) (by omega) (by omega) (by omega), fun p o hp ho => ?_⟩
    have dd : DrAll K G1 (rgV 0 (n : Int)) ((List.range n).map fun i : Nat => .int (i : Int)) := by
      have ev : rgV 0 (n : Int) = ((List.range n).map fun n : Nat => (n : Int)).map V.int := by simp [rgV]
      have ev2 : ((List.range n).map fun i : Nat => Dat.int (i : Int)) = ((List.range n).map fun n : Nat => (n : Int)).map .int := by simp
      rw [ev, ev2]
      exact dpAll_ofInts
    obtain ⟨x2, d2⟩ := newZ x1.gh dd hp ho
    exact q _ _ _ (x1.trans x2) d2
theorem vals_drAll {G : Hp} {g : List Int → Dat} : ∀ {vs : List (List Key × V)} {ks : List (List Int)}, vs.map (·.1) = ks.map kE → ks.Nodup → (∀ k ∈ ks, ∃ v, valV vs (kE k) = some v ∧ Dr K G v (g k)) → DrAll K G (vs.map (·.2)) (ks.map g)
  | [], [], _, _, _ => .nil
  | [], _ :: _, h, _, _ => by simp at h
  | _ :: _, [], h, _, _ => by simp at h
  | p :: vs, k :: ks, h, nd, hv => by
    simp only [List.map_cons, List.cons.injEq] at h
    rw [List.nodup_cons] at nd
    obtain ⟨v, e1, d1⟩ := hv k (by simp)
    rw [valV_pos h.1] at e1
    have e1 := Option.some.inj e1
    subst e1
    refine .cons d1 (vals_drAll h.2 nd.2 fun k' hk' => ?_)
    obtain ⟨v', e2, d2⟩ := hv k' (by simp [hk'])
    rw [valV_neg (by rw [h.1]; exact fun q => nd.1 (kE_inj q ▸ hk'))] at e2
    exact ⟨v', e2, d2⟩
/-- list(d.values()) -/
theorem e_listVals {S : List (List Int)} {k0 : Nat} (e0 : δ[k0]? = some (some (.t S))) :
    ER K (tListVals (tVar k0)) δ fun d => ∃ ks : List (List Int), d = .list (ks.map fun k => iDs (idxs S k)) ∧ ks.Nodup ∧ (∀ k, k ∈ ks ↔ k ∈ S) ∧ ks.length ≤ S.length := fun σ G H s e Q q => by
  obtain ⟨v0, q0, D, vs, rfl, hD, ks, t1, t2, t3, t4, t5⟩ := s.get e0
  refine ⟨_, q0, D, vs, rfl, e _ _ hD, fun p hp => ?_⟩
  obtain ⟨x2, d2⟩ := newL e (vals_drAll t1 t2 t5) hp
  exact q _ _ _ _ x2 d2 ⟨ks, rfl, t2, t3, t4⟩
/-- a, b = .., .. -/
theorem sd_par {i j : Nat} {ta : TA} (h : A1 K ta δ [x, y]) (h2 : Sd K ts ((δ.set i (some (.d x))).set j (some (.d y))) N R) : Sd K (tSeq (tPar i j ta) ts) δ N R := fun σ G H D s e nx rt =>
  h σ G H s e _ fun vs G1 H1 x1 d1 => by
    cases d1 with
    | cons h1 t1 =>
      cases t1 with
      | cons h2' t2 =>
        cases t2
        exact ⟨_, _, rfl, h2 _ G1 H1 D (SlOk.set (o := some _) (s := some (.d y)) h2' j (SlOk.set (o := some _) (s := some (.d x)) h1 i (s.ext x1.gg))) x1.gh (fun σ2 G2 H2 δ2 x2 s2 n2 => nx σ2 G2 H2 δ2 (x1.trans x2) s2 n2) fun v G2 H2 d x2 d2 r => rt v G2 H2 d (x1.trans x2) d2 r⟩
/-- a built-in's call by a relation -/
def CR (K : PySem.W.Frag) (r : List V → Hp → VK → Prop) (ds : List Dat) (P : Dat → Prop) : Prop := ∀ (G H : Hp) (vs : List V), Ex G H → DrAll K G vs ds → ∀ Q : VK, (∀ w G2 H2 d, Xt G H G2 H2 → Dr K G2 w d → P d → Q w H2) → r vs H Q
theorem CD.cr {r : List V → Hp → VK → Prop} {P : Dat → Prop} (h : CD K r ds d) (p : P d) : CR K r ds P := fun G H vs e dv Q q => h G H vs e dv Q fun w G2 H2 x2 d2 => q w G2 H2 d x2 d2 p
theorem er_cb1 {P P' : Dat → Prop} {r : List V → Hp → VK → Prop} (h : ER K te δ P) (hr : ∀ d, P d → CR K r [d] P') : ER K (tCB r (tCons te tNil)) δ P' := fun σ G H s e Q q =>
  h σ G H s e _ fun v G1 H1 d x1 d1 p => hr d p G1 H1 [v] x1.gh (.cons d1 .nil) Q fun w G2 H2 d' x2 d2 p2 => q w G2 H2 d' (x1.trans x2) d2 p2
theorem er_cb {P' : Dat → Prop} {r : List V → Hp → VK → Prop} {ta : TA} (h : A1 K ta δ ds) (hr : CR K r ds P') : ER K (tCB r ta) δ P' := fun σ G H s e Q q =>
  h σ G H s e _ fun vs G1 H1 x1 d1 => hr G1 H1 vs x1.gh d1 Q fun w G2 H2 d' x2 d2 p2 => q w G2 H2 d' (x1.trans x2) d2 p2
theorem ER.mono {P P' : Dat → Prop} (h : ER K te δ P) (hp : ∀ d, P d → P' d) : ER K te δ P' := fun σ G H s e Q q => h σ G H s e Q fun v G2 H2 d x2 d2 p => q v G2 H2 d x2 d2 (hp d p)
theorem rd_isB : RD K rIsB (.bool a) (.bool b) (.bool (decide (a = b))) := fun G H v u e dv du Q q => by
  cases dv; cases du
  exact ⟨a, b, rfl, rfl, q _ G H (Xt.refl e) (.bl _)⟩
theorem rd_notB : RD K rNotB (.bool a) (.bool b) (.bool (!decide (a = b))) := fun G H v u e dv du Q q => by
  cases dv; cases du
  exact ⟨a, b, rfl, rfl, q _ G H (Xt.refl e) (.bl _)⟩
end
end DL

/-! the mirror: what the defs compute, over plain lists -/
namespace Mix
def en (T : List (List Int)) (r c : Nat) : Int := (T.getD r []).getD c 0
def place (T : List (List Int)) (rows cols : List Nat) : List (List Int) := rows.map fun r => cols.map fun c => en T r c
structure Rect (n m : Nat) (T : List (List Int)) : Prop where
  rows : T.length = n
  cols : ∀ row ∈ T, row.length = m
/-- a table of the document: one to eight rows and columns -/
structure Tb (n m : Nat) (T : List (List Int)) : Prop extends Rect n m T where
  n1 : 1 ≤ n
  n8 : n ≤ 8
  m1 : 1 ≤ m
  m8 : m ≤ 8
/-- the sequences of k of the indexes below n -/
def seqs (n : Nat) : Nat → List (List Nat)
  | 0 => [[]]
  | k + 1 => (seqs n k).flatMap fun s => ((List.range n).filter fun i => !decide (i ∈ s)).map fun i => s ++ [i]
/-- the differences of neighbours -/
def dif (l : List Int) : List Int := (l.zip (l.drop 1)).map fun p => p.1 - p.2
def step (T : List (List Int)) (rows : List Nat) (c : Nat) : List Int := dif (rows.map fun r => en T r c)
def nf (a b : List Int) : Bool := (a.zip b).all fun p => decide (p.1 ≤ p.2)
def chainB (l : List (List Int)) : Bool := (l.zip (l.drop 1)).all fun p => nf p.1 p.2
def plainB (n m : Nat) (T : List (List Int)) : Bool := chainB ((List.range m).map fun c => step T (List.range n) c)
/-- all mixings of a block -/
def mixB (b : List Nat) : List (List Nat) := (seqs b.length b.length).map fun s => s.map fun i => b.getD i 0
def everyC (bs : List (List Nat)) : List (List Nat) := bs.foldl (fun f b => f.flatMap fun a => (mixB b).map fun z => a ++ z) [[]]
def gainOf (T : List (List Int)) (r o c l : Nat) : Int := en T r l + en T o c - (en T r c + en T o l)
def gains (n m : Nat) (T : List (List Int)) : List (List Int) := (List.range (n - 1)).map fun r => (List.range (m - 1)).map fun c => gainOf T r (r + 1) c (c + 1)
def colOf (T : List (List Int)) (c : Nat) : List Int := T.map fun row => row.getD c 0
def turnT (m : Nat) (T : List (List Int)) : List (List Int) := (List.range m).map fun c => colOf T c
def liftT (T : List (List Int)) (more less : List Int) : List (List Int) := (T.zip more).map fun p => (p.1.zip less).map fun q => q.1 + p.2 + q.2
theorem seqs_len : ∀ n ≤ 6, ∀ k ≤ n, (seqs n k).length ≤ 1000 := by decide +kernel
theorem len_of_seqs {n : Nat} : ∀ {k : Nat} {s : List Nat}, s ∈ seqs n k → s.length = k
  | 0, s, h => by simp [seqs] at h; subst h; rfl
  | k + 1, s, h => by
    simp only [seqs, List.mem_flatMap, List.mem_map] at h
    obtain ⟨a, ha, i, _, rfl⟩ := h
    simp [len_of_seqs ha]
theorem lt_of_seqs {n : Nat} : ∀ {k : Nat} {s : List Nat}, s ∈ seqs n k → ∀ i ∈ s, i < n
  | 0, s, h => by simp [seqs] at h; subst h; simp
  | k + 1, s, h => by
    simp only [seqs, List.mem_flatMap, List.mem_map, List.mem_filter, List.mem_range] at h
    obtain ⟨a, ha, i, ⟨hi, _⟩, rfl⟩ := h
    intro j hj
    rcases List.mem_append.mp hj with hj | hj
    · exact lt_of_seqs ha j hj
    · simp at hj; omega
theorem nodup_of_seqs {n : Nat} : ∀ {k : Nat} {s : List Nat}, s ∈ seqs n k → s.Nodup
  | 0, s, h => by simp [seqs] at h; subst h; exact List.nodup_nil
  | k + 1, s, h => by
    simp only [seqs, List.mem_flatMap, List.mem_map, List.mem_filter, List.mem_range] at h
    obtain ⟨a, ha, i, ⟨hi, hn⟩, rfl⟩ := h
    rw [List.nodup_append]
    refine ⟨nodup_of_seqs ha, by simp, ?_⟩
    intro x hx y hy e
    simp at hy hn
    subst e
    subst hy
    exact hn hx
end Mix

/-! tables as data -/
namespace Mix
open PySem PySem.Spec L2 RZ DL
open PyProof.Rows (envOfC)
def iD (n : Nat) : Dat := .int (n : Int)
def zT (l : List Int) : Dat := .tuple .s (l.map .int)
def nT (l : List Nat) : Dat := .tuple .s (l.map iD)
def tab (T : List (List Int)) : Dat := .tuple .s (T.map zT)
theorem map_iD (l : List Nat) : l.map iD = (l.map fun n : Nat => (n : Int)).map .int := by simp [iD, Function.comp_def]
theorem at_nat {α : Type} {xs : List α} {j : Nat} {v : α} (h : xs[j]? = some v) : atI xs (j : Int) = some v := by
  unfold atI ixN
  have hj : j < xs.length := (List.getElem?_eq_some_iff.mp h).1
  rw [if_pos (by omega), if_pos (by omega)]
  simpa using h
theorem at_map {α : Type} {l : List α} {f : α → Dat} {c : Nat} {x : α} (h : l[c]? = some x) : atI (l.map f) (c : Int) = some (f x) := at_nat (by rw [List.getElem?_map, h]; rfl)
theorem get_getD {α : Type} {l : List α} {c : Nat} {d : α} (h : c < l.length) : l[c]? = some (l.getD c d) := by simp [List.getD, List.getElem?_eq_getElem h]
theorem at_tab {n m : Nat} {T : List (List Int)} (R : Rect n m T) {r : Nat} (h : r < n) : atI (T.map zT) (r : Int) = some (zT (T.getD r [])) := at_map (get_getD (by rw [R.rows]; exact h))
theorem at_row {l : List Int} {c : Nat} (h : c < l.length) : atI (l.map Dat.int) (c : Int) = some (.int (l.getD c 0)) := at_map (get_getD h)
theorem getD_mem {α : Type} {l : List α} {c : Nat} {d : α} (h : c < l.length) : l.getD c d ∈ l := List.mem_of_getElem? (get_getD h)
theorem row_len {n m : Nat} {T : List (List Int)} (R : Rect n m T) {r : Nat} (h : r < n) : (T.getD r []).length = m := R.cols _ (getD_mem (by rw [R.rows]; exact h))
/-- table[r][c] -/
theorem e_en {K : PySem.W.Frag} {δ : Sl} {ta tb tc : TE} {n m : Nat} {T : List (List Int)} (R : Rect n m T) {r c : Nat} (ha : E1 K ta δ (tab T)) (hb : E1 K tb δ (.int (r : Nat))) (hc : E1 K tc δ (.int (c : Nat))) (hr : r < n) (hm : c < m) :
    E1 K (tOp (rIxT K) (tOp (rIxT K) ta tb) tc) δ (.int (en T r c)) := e_op (e_op ha hb (rd_ixT (at_tab R hr))) hc (rd_ixT (at_row (by rw [row_len R hr]; exact hm)))
theorem place_rect {T : List (List Int)} {rows cols : List Nat} : Rect rows.length cols.length (place T rows cols) :=
  ⟨by simp [place], fun row h => by
    obtain ⟨r, _, rfl⟩ := List.mem_map.mp h
    simp⟩
section
variable {K : PySem.W.Frag} {α : Type}
theorem cd_all' {L : List α} {p : α → Bool} : CD K (rAll K) [.list (L.map fun a => .bool (p a))] (.bool (L.all p)) := by
  have h := cd_all (K := K) (bs := L.map p)
  rw [List.map_map] at h
  have e : (L.map p).all id = L.all p := by simp [List.all_map]
  rw [e] at h
  exact h
theorem cd_allT {L : List α} : CD K (rAll K) [.list (L.map fun _ => .bool true)] (.bool true) := by
  have h := cd_all' (K := K) (L := L) (p := fun _ => true)
  have e : (L.all fun _ => true) = true := by simp
  rw [e] at h
  exact h
theorem cd_sum' {L : List α} {f : α → Int} : CD K (rSum K) [.list (L.map fun a => .int (f a))] (.int (L.map f).sum) := by
  have h := cd_sum (K := K) (ns := L.map f)
  rw [List.map_map] at h
  exact h
theorem e_len {δ : Sl} {te : TE} {ds : List Dat} {n : Nat} {st : Sty} (h : E1 K te δ (.tuple st ds)) (hn : ds.length = n) : E1 K (tCB (rLenS K) (tCons te tNil)) δ (.int (n : Nat)) := by
  subst hn
  exact e_cb (a_cons h a_nil) cd_lenT
theorem e_lenL {δ : Sl} {te : TE} {ds : List Dat} {n : Nat} (h : E1 K te δ (.list ds)) (hn : ds.length = n) : E1 K (tCB (rLenS K) (tCons te tNil)) δ (.int (n : Nat)) := by
  subst hn
  exact e_cb (a_cons h a_nil) cd_lenL
end
end Mix

namespace Mix
open PySem PySem.Spec L2 RZ DL
open PyProof.Rows (envOfC)
section
variable {P : Program} {w : World} {K : PySem.W.Frag} {mg : Str → Option Value} {base h : Heap}

theorem sc8 : FnScope ["thing"] ["thing"] (defScope (top 8)) := ⟨rfl, rfl, rfl, by decide +kernel, rfl, by decide +kernel, by decide +kernel⟩
abbrev sp_is_integer (K : PySem.W.Frag) : Sp := SpI K (ι := Int) (fun i => [.int i]) (fun _ => True) (fun _ d => d = .bool true)
theorem ok_is_integer (T : Top K mg h) : C8.Cal P w K mg base 1 "is_integer" (sp_is_integer K) [] := by
  have m_isinstance := T.free 63 "isinstance"
  have m_bool := T.free 65 "bool"
  have m_int := T.free 64 "int"
  obtain ⟨fd, F⟩ := T.says.def_ 0 (d := dd8) rfl
  have g : mg "is_integer" = some (.ref (He.ga K "is_integer")) := He.glo_ok T.kin T.ns (T.says.fact 0 (f := .glo "is_integer") rfl)
  refine cal_mk (fn_ok F sc8 (fun i => rfl) (fun cdv A outer s H E hr => (pss_one (ps_ret (pe_and (pe_callB (k_isi K) (by rfl) m_isinstance (by decide +kernel) (pa_cons (pv 0) (pa_cons (pe_bltn (v := .ty "int") (by rfl) m_int (by decide +kernel) rfl) pa_nil))) (pe_one (pe_not (pe_callB (k_isi K) (by rfl) m_isinstance (by decide +kernel) (pa_cons (pv 0) (pa_cons (pe_bltn (v := .ty "bool") (by rfl) m_bool (by decide +kernel) rfl) pa_nil))))))))) ?_) g F.kp (F.bindsN fun _ _ _ _ _ _ us hl => match us, hl with | [_], _ => rfl)
  intro i _
  exact sd_ret (e_and (a := true) (b := true) (e_isi (e_var rfl) (show kitB "int" "int" = some true by decide +kernel)) fun _ => e_not (a := false) (e_isi (e_var rfl) (show kitB "int" "bool" = some false by decide +kernel))) rfl

theorem sc9 : FnScope ["thing", "least", "most"] ["thing", "least", "most"] (defScope (top 9)) := ⟨rfl, rfl, rfl, by decide +kernel, rfl, by decide +kernel, by decide +kernel⟩
abbrev sp_is_within (K : PySem.W.Frag) : Sp := SpI K (ι := Int × Int × Int) (fun i => [.int i.1, .int i.2.1, .int i.2.2]) (fun i => i.2.1 ≤ i.1 ∧ i.1 ≤ i.2.2) (fun _ d => d = .bool true)
theorem ok_is_within (T : Top K mg h) : C8.Cal P w K mg base 2 "is_within" (sp_is_within K) [] := by
  have c_is_integer := ok_is_integer (P := P) (w := w) (base := base) T
  obtain ⟨fd, F⟩ := T.says.def_ 1 (d := dd9) rfl
  have g : mg "is_within" = some (.ref (He.ga K "is_within")) := He.glo_ok T.kin T.ns (T.says.fact 1 (f := .glo "is_within") rfl)
  refine cal_mk (fn_ok F sc9 (fun i => rfl) (fun cdv A outer s H E hr => (pss_one (ps_ret (pe_and (C8.pe_c c_is_integer hr (by decide) (by rfl) (pa_cons (pv 0) pa_nil)) (pe_one (pe_chain op_le op_le (pv 1) (pv 0) (pv 2))))))) ?_) g F.kp (F.bindsN fun _ _ _ _ _ _ us hl => match us, hl with | [_, _, _], _ => rfl)
  rintro ⟨x, lo, hi⟩ hk
  dsimp only at hk
  have h1 : decide (lo ≤ x) = true := decide_eq_true hk.1
  have h2 : decide (x ≤ hi) = true := decide_eq_true hk.2
  exact sd_ret (e_and (a := true) (e_call (res := fun _ => .bool true) x (a_cons (e_var rfl) a_nil) trivial) fun _ => e_chain (e_var rfl) (e_var rfl) rd_le (fun _ => e_var rfl) fun _ => rd_le) (by rw [h1, h2]; rfl)

theorem sc10 : FnScope ["thing", "least", "most"] ["thing", "least", "most"] (defScope (top 10)) := ⟨rfl, rfl, rfl, by decide +kernel, rfl, by decide +kernel, by decide +kernel⟩
abbrev sp_is_row_of (K : PySem.W.Frag) : Sp := SpI K (ι := List Dat × Int × Int) (fun i => [.tuple .s i.1, .int i.2.1, .int i.2.2]) (fun i => i.2.1 ≤ (i.1.length : Int) ∧ (i.1.length : Int) ≤ i.2.2) (fun _ d => d = .bool true)
theorem ok_is_row_of (T : Top K mg h) : C8.Cal P w K mg base 1 "is_row_of" (sp_is_row_of K) [] := by
  have m_len := T.free 67 "len"
  have m_isinstance := T.free 63 "isinstance"
  have m_tuple := T.free 66 "tuple"
  obtain ⟨fd, F⟩ := T.says.def_ 2 (d := dd10) rfl
  have g : mg "is_row_of" = some (.ref (He.ga K "is_row_of")) := He.glo_ok T.kin T.ns (T.says.fact 2 (f := .glo "is_row_of") rfl)
  refine cal_mk (fn_ok F sc10 (fun i => rfl) (fun cdv A outer s H E hr => (pss_one (ps_ret (pe_and (pe_callB (k_isi K) (by rfl) m_isinstance (by decide +kernel) (pa_cons (pv 0) (pa_cons (pe_bltn (v := .ty "tuple") (by rfl) m_tuple (by decide +kernel) rfl) pa_nil))) (pe_one (pe_chain op_le op_le (pv 1) (pe_callB (k_len K) (by rfl) m_len PySem.boot_len (pa_cons (pv 0) pa_nil)) (pv 2))))))) ?_) g F.kp (F.bindsN fun _ _ _ _ _ _ us hl => match us, hl with | [_, _, _], _ => rfl)
  rintro ⟨x, lo, hi⟩ hk
  dsimp only at hk
  have h1 : decide (lo ≤ (x.length : Int)) = true := decide_eq_true hk.1
  have h2 : decide ((x.length : Int) ≤ hi) = true := decide_eq_true hk.2
  exact sd_ret (e_and (a := true) (e_isi (e_var rfl) (show kitB "tuple" "tuple" = some true by decide +kernel)) fun _ => e_chain (e_var rfl) (e_len (e_var rfl) rfl) rd_le (fun _ => e_var rfl) fun _ => rd_le) (by rw [h1, h2]; rfl)

theorem sc11 : FnScope ["thing", "many", "one"] ["thing", "many"] (defScope (top 11)) := ⟨rfl, rfl, rfl, by decide +kernel, rfl, by decide +kernel, by decide +kernel⟩
abbrev sp_are_integers (K : PySem.W.Frag) : Sp := SpI K (ι := List Int) (fun l => [zT l, .int (l.length : Nat)]) (fun l => l.length ≤ 1000) (fun _ d => d = .bool true)
theorem ok_are_integers (T : Top K mg h) : C8.Cal P w K mg base 2 "are_integers" (sp_are_integers K) [] := by
  have c_is_integer := ok_is_integer (P := P) (w := w) (base := base) T
  have c_is_row_of := ok_is_row_of (P := P) (w := w) (base := base) T
  have m_all := T.free 68 "all"
  obtain ⟨fd, F⟩ := T.says.def_ 3 (d := dd11) rfl
  have g : mg "are_integers" = some (.ref (He.ga K "are_integers")) := He.glo_ok T.kin T.ns (T.says.fact 3 (f := .glo "are_integers") rfl)
  refine cal_mk (fn_ok F sc11 (fun i => rfl) (fun cdv A outer s H E hr => (pss_one (ps_ret (pe_and (C8.pe_c c_is_row_of hr (by decide) (by rfl) (pa_cons (pv 0) (pa_cons (pv 1) (pa_cons (pv 1) pa_nil)))) (pe_one (pe_callB (k_all K) (by rfl) m_all (by decide +kernel) (pa_cons (pe_lc (own := [("one", 2)]) rfl sc11.nd (k_piT K (pv 0)) (blkOk_by (by rfl)) (fun _ _ _ _ _ => (pg_name (i := 2) sc11.nd rfl (by first | exact Or.inl rfl | exact Or.inr rfl))) (fun _ _ _ _ _ => pts_nil) (fun _ _ _ _ _ => (C8.pe_c c_is_integer hr (by decide) (by rfl) (pa_cons (pv 2) pa_nil)))) pa_nil))))))) ?_) g F.kp (F.bindsN fun _ _ _ _ _ _ us hl => match us, hl with | [_, _], _ => rfl)
  intro l hk
  exact sd_ret (e_and (a := true) (b := true) (e_call (res := fun _ => .bool true) (l.map Dat.int, (l.length : Int), (l.length : Int)) (a_cons (e_var rfl) (a_cons (e_var rfl) (a_cons (e_var rfl) a_nil))) (by simp)) fun _ =>
    e_cb (a_cons (e_lcm l Dat.int (w_tup (e_var rfl)) (fun a => g_name 2) (by simp) (fun a _ => e_call (res := fun _ => .bool true) a (a_cons (e_var rfl) a_nil) trivial) (by omega)) a_nil) cd_allT) rfl

theorem sc12 : FnScope ["thing", "many", "count", "one"] ["thing", "many", "count"] (defScope (top 12)) := ⟨rfl, rfl, rfl, by decide +kernel, rfl, by decide +kernel, by decide +kernel⟩
abbrev sp_are_numbers (K : PySem.W.Frag) : Sp := SpI K (ι := List Nat × Nat) (fun i => [nT i.1, .int (i.1.length : Nat), .int (i.2 : Nat)]) (fun i => i.1.length ≤ 1000 ∧ ∀ x ∈ i.1, x < i.2) (fun _ d => d = .bool true)
theorem ok_are_numbers (T : Top K mg h) : C8.Cal P w K mg base 3 "are_numbers" (sp_are_numbers K) [] := by
  have c_is_within := ok_is_within (P := P) (w := w) (base := base) T
  have c_is_row_of := ok_is_row_of (P := P) (w := w) (base := base) T
  have m_all := T.free 68 "all"
  obtain ⟨fd, F⟩ := T.says.def_ 4 (d := dd12) rfl
  have g : mg "are_numbers" = some (.ref (He.ga K "are_numbers")) := He.glo_ok T.kin T.ns (T.says.fact 4 (f := .glo "are_numbers") rfl)
  refine cal_mk (fn_ok F sc12 (fun i => rfl) (fun cdv A outer s H E hr => (pss_one (ps_ret (pe_and (C8.pe_c c_is_row_of hr (by decide) (by rfl) (pa_cons (pv 0) (pa_cons (pv 1) (pa_cons (pv 1) pa_nil)))) (pe_one (pe_callB (k_all K) (by rfl) m_all (by decide +kernel) (pa_cons (pe_lc (own := [("one", 3)]) rfl sc12.nd (k_piT K (pv 0)) (blkOk_by (by rfl)) (fun _ _ _ _ _ => (pg_name (i := 3) sc12.nd rfl (by first | exact Or.inl rfl | exact Or.inr rfl))) (fun _ _ _ _ _ => pts_nil) (fun _ _ _ _ _ => (C8.pe_c c_is_within hr (by decide) (by rfl) (pa_cons (pv 3) (pa_cons pe_int (pa_cons (pe_op op_sub (pv 2) pe_int) pa_nil)))))) pa_nil))))))) ?_) g F.kp (F.bindsN fun _ _ _ _ _ _ us hl => match us, hl with | [_, _, _], _ => rfl)
  rintro ⟨l, n⟩ ⟨hl, hk⟩
  dsimp only at hl hk
  exact sd_ret (e_and (a := true) (b := true) (e_call (res := fun _ => .bool true) (l.map iD, (l.length : Int), (l.length : Int)) (a_cons (e_var rfl) (a_cons (e_var rfl) (a_cons (e_var rfl) a_nil))) (by simp)) fun _ =>
    e_cb (a_cons (e_lcm l iD (w_tup (e_var rfl)) (fun a => g_name 3) (by simp) (fun a ha => e_call (res := fun _ => .bool true) ((a : Int), 0, (n : Int) - 1) (a_cons (e_var rfl) (a_cons (e_int 0) (a_cons (e_op (e_var rfl) (e_int 1) rd_sub) a_nil))) (by have := hk a ha; dsimp only; omega)) (by omega)) a_nil) cd_allT) rfl

theorem sc13 : FnScope ["thing", "many"] ["thing", "many"] (defScope (top 13)) := ⟨rfl, rfl, rfl, by decide +kernel, rfl, by decide +kernel, by decide +kernel⟩
abbrev sp_is_sequence (K : PySem.W.Frag) : Sp := SpI K (ι := List Nat × Nat) (fun i => [nT i.1, .int (i.2 : Nat)]) (fun i => i.2 ≤ 1000 ∧ i.1.Perm (List.range i.2)) (fun _ d => d = .bool true)
theorem ok_is_sequence (T : Top K mg h) : C8.Cal P w K mg base 4 "is_sequence" (sp_is_sequence K) [] := by
  have c_are_numbers := ok_are_numbers (P := P) (w := w) (base := base) T
  have m_len := T.free 67 "len"
  have m_set := T.free 69 "set"
  obtain ⟨fd, F⟩ := T.says.def_ 5 (d := dd13) rfl
  have g : mg "is_sequence" = some (.ref (He.ga K "is_sequence")) := He.glo_ok T.kin T.ns (T.says.fact 5 (f := .glo "is_sequence") rfl)
  refine cal_mk (fn_ok F sc13 (fun i => rfl) (fun cdv A outer s H E hr => (pss_one (ps_ret (pe_and (C8.pe_c c_are_numbers hr (by decide) (by rfl) (pa_cons (pv 0) (pa_cons (pv 1) (pa_cons (pv 1) pa_nil)))) (pe_one (pe_cmpR op_eq (k_lenSet K (by rfl) m_len (by rfl) m_set (pv 0)) (pv 1) (nomark _))))))) ?_) g F.kp (F.bindsN fun _ _ _ _ _ _ us hl => match us, hl with | [_, _], _ => rfl)
  rintro ⟨l, n⟩ ⟨hn, hk⟩
  dsimp only at hn hk
  have hl : l.length = n := by have := hk.length_eq; simpa using this
  have hm : ∀ x ∈ l, x < n := fun x hx => by simpa using hk.mem_iff.mp hx
  have nd : (l.map fun n : Nat => (n : Int)).Nodup := by
    have h1 : l.Nodup := hk.nodup_iff.mpr List.nodup_range
    unfold List.Nodup at h1 ⊢
    rw [List.pairwise_map]
    exact h1.imp fun h e => h (by omega)
  subst hl
  exact sd_ret (e_and (a := true) (e_call (res := fun _ => .bool true) (l, l.length) (a_cons (e_var rfl) (a_cons (e_var rfl) (a_cons (e_var rfl) a_nil))) ⟨hn, hm⟩) fun _ =>
    e_op (e_lenSet (st := .s) (ns := l.map fun n : Nat => (n : Int)) (e_var (by unfold nT; rw [map_iD]; rfl)) nd (by simpa using (by omega : l.length ≤ 4000))) (e_var rfl) rd_eqI) (by simp)

theorem sc14 : FnScope ["numbers", "one", "other"] ["numbers"] (defScope (top 14)) := ⟨rfl, rfl, rfl, by decide +kernel, rfl, by decide +kernel, by decide +kernel⟩
abbrev sp_are_rising (K : PySem.W.Frag) : Sp := SpI K (ι := List Nat) (fun l => [nT l]) (fun l => l.length ≤ 1000 ∧ l.Pairwise (· < ·)) (fun _ d => d = .bool true)
theorem ok_are_rising (T : Top K mg h) : C8.Cal P w K mg base 1 "are_rising" (sp_are_rising K) [] := by
  have m_all := T.free 68 "all"
  have m_zip := T.free 70 "zip"
  obtain ⟨fd, F⟩ := T.says.def_ 6 (d := dd14) rfl
  have g : mg "are_rising" = some (.ref (He.ga K "are_rising")) := He.glo_ok T.kin T.ns (T.says.fact 6 (f := .glo "are_rising") rfl)
  refine cal_mk (fn_ok F sc14 (fun i => rfl) (fun cdv A outer s H E hr => (pss_one (ps_ret (pe_callB (k_all K) (by rfl) m_all (by decide +kernel) (pa_cons (pe_lc (own := [("one", 1), ("other", 2)]) rfl sc14.nd (k_zip K (by rfl) m_zip (pa_cons (pv 0) (pa_cons (pe_slice (k_slT K) (pv 0) (po_some pe_int) po_none) pa_nil))) (blkOk_by (by rfl)) (fun _ _ _ _ _ => (k_tuple K (n := 2) (pgs_cons (pg_name (i := 1) sc14.nd rfl (by first | exact Or.inl rfl | exact Or.inr rfl)) (pgs_cons (pg_name (i := 2) sc14.nd rfl (by first | exact Or.inl rfl | exact Or.inr rfl)) pgs_nil)))) (fun _ _ _ _ _ => pts_nil) (fun _ _ _ _ _ => (pe_cmpR op_lt (pv 1) (pv 2) (nomark _)))) pa_nil))))) ?_) g F.kp (F.bindsN fun _ _ _ _ _ _ us hl => match us, hl with | [_], _ => rfl)
  rintro l ⟨hl, hk⟩
  have z : zipD (l.map iD) (cutD (l.map iD) (some 1) none) = (l.zip (l.drop 1)).map fun p => .tuple .p [iD p.1, iD p.2] := by
    rw [cutD_tail, ← List.map_drop]
    unfold zipD
    rw [List.zip_map]
    simp [Function.comp_def]
  refine sd_ret (e_cb (a_cons (e_lcm (l.zip (l.drop 1)) (fun p => .tuple .p [iD p.1, iD p.2]) (z ▸ w_zipT (a_cons (e_var rfl) (a_cons (e_sl (e_var rfl) (o_some (e_int 1)) o_no sl_t) a_nil))) (fun a => g_tup2) (by simp) (fun a ha => e_op (e_var rfl) (e_var rfl) rd_lt) (by simp; omega)) a_nil) cd_all') ?_
  have key : ∀ a ∈ l.zip (l.drop 1), decide (((a.1 : Nat) : Int) < (a.2 : Nat)) = true := by
    rintro ⟨x, y⟩ ha
    obtain ⟨i, hi, he⟩ := List.mem_iff_getElem.mp ha
    rw [List.getElem_zip, List.getElem_drop] at he
    cases he
    have := List.pairwise_iff_getElem.mp hk i (1 + i) (by simp at hi; omega) (by simp at hi; omega) (by omega)
    exact decide_eq_true (by omega)
  rw [List.all_eq_true.mpr key]

theorem sc15 : FnScope ["thing", "count"] ["thing", "count"] (defScope (top 15)) := ⟨rfl, rfl, rfl, by decide +kernel, rfl, by decide +kernel, by decide +kernel⟩
abbrev sp_are_indexes (K : PySem.W.Frag) : Sp := SpI K (ι := List Nat × Nat) (fun i => [nT i.1, .int (i.2 : Nat)]) (fun i => i.2 ≤ 1000 ∧ 1 ≤ i.1.length ∧ i.1.length ≤ i.2 ∧ (∀ x ∈ i.1, x < i.2) ∧ i.1.Pairwise (· < ·)) (fun _ d => d = .bool true)
theorem ok_are_indexes (T : Top K mg h) : C8.Cal P w K mg base 4 "are_indexes" (sp_are_indexes K) [] := by
  have c_are_rising := ok_are_rising (P := P) (w := w) (base := base) T
  have c_are_numbers := ok_are_numbers (P := P) (w := w) (base := base) T
  have c_is_row_of := ok_is_row_of (P := P) (w := w) (base := base) T
  have m_len := T.free 67 "len"
  obtain ⟨fd, F⟩ := T.says.def_ 7 (d := dd15) rfl
  have g : mg "are_indexes" = some (.ref (He.ga K "are_indexes")) := He.glo_ok T.kin T.ns (T.says.fact 7 (f := .glo "are_indexes") rfl)
  refine cal_mk (fn_ok F sc15 (fun i => rfl) (fun cdv A outer s H E hr => (pss_one (ps_ret (pe_and (C8.pe_c c_is_row_of hr (by decide) (by rfl) (pa_cons (pv 0) (pa_cons pe_int (pa_cons (pv 1) pa_nil)))) (pe_and (C8.pe_c c_are_numbers hr (by decide) (by rfl) (pa_cons (pv 0) (pa_cons (pe_callB (k_len K) (by rfl) m_len PySem.boot_len (pa_cons (pv 0) pa_nil)) (pa_cons (pv 1) pa_nil)))) (pe_one (C8.pe_c c_are_rising hr (by decide) (by rfl) (pa_cons (pv 0) pa_nil)))))))) ?_) g F.kp (F.bindsN fun _ _ _ _ _ _ us hl => match us, hl with | [_, _], _ => rfl)
  rintro ⟨l, n⟩ ⟨hn, h1, h2, hm, hk⟩
  dsimp only at hn h1 h2 hm hk
  exact sd_ret (e_and (a := true) (b := true) (e_call (res := fun _ => .bool true) (l.map iD, 1, (n : Int)) (a_cons (e_var rfl) (a_cons (e_int 1) (a_cons (e_var rfl) a_nil))) (by dsimp only; rw [List.length_map]; omega)) fun _ =>
    e_and (a := true) (b := true) (e_call (res := fun _ => .bool true) (l, n) (a_cons (e_var rfl) (a_cons (e_len (e_var rfl) (by simp)) (a_cons (e_var rfl) a_nil))) ⟨by dsimp only; omega, hm⟩) fun _ => e_call (res := fun _ => .bool true) l (a_cons (e_var rfl) a_nil) ⟨by omega, hk⟩) rfl

end
end Mix

namespace Mix
open PySem PySem.Spec L2 RZ DL
open PyProof.Rows (envOfC)
section
variable {P : Program} {w : World} {K : PySem.W.Frag} {mg : Str → Option Value} {base h : Heap}

def keyT (l : List Int) : Dat := .tuple .p (l.map .int)
theorem rgD_nat (n : Nat) : rgD 0 (n : Int) = (List.range n).map iD := by
  unfold rgD iD
  simp
theorem w_rangeN {δ : Sl} {te : TE} {n : Nat} (h : E1 K te δ (.int (n : Nat))) (hn : n ≤ 100000) : W1 K (iRng1 (tCons te tNil)) δ ((List.range n).map iD) := by
  rw [← rgD_nat]
  exact w_range1 (a_cons h a_nil) (by omega)
theorem e_listRg {δ : Sl} {te : TE} {n : Nat} (h : E1 K te δ (.int (n : Nat))) (hn : n ≤ 100000) : E1 K (tLstRg (tRg1 te)) δ (.list ((List.range n).map iD)) := fun σ G H s e Q q =>
  h σ G H s e _ fun v G1 H1 x1 d1 => by
    cases d1
    refine ⟨(n : Int), rfl, .of_le (by omega) (by omega) (by omega) (by omega), fun p hp => ?_⟩
    have ev : rgV 0 (n : Int) = ((List.range n).map fun n : Nat => (n : Int)).map V.int := by simp [rgV]
    have dd : DrAll K G1 (rgV 0 (n : Int)) ((List.range n).map iD) := by
      rw [ev, map_iD]
      exact dpAll_ofInts
    obtain ⟨x2, d2⟩ := newL x1.gh dd hp
    exact q _ _ _ (x1.trans x2) d2
theorem filter_yes {α : Type} (a : List α) : a.filter (fun _ => true) = a := List.filter_eq_self.mpr (by simp)
theorem mem_cast {k : Nat} {l : List Nat} : decide ((k : Int) ∈ l.map fun n : Nat => (n : Int)) = decide (k ∈ l) := by
  have e : ((k : Int) ∈ l.map fun n : Nat => (n : Int)) ↔ k ∈ l := by
    constructor
    · intro h
      obtain ⟨a, ha, e⟩ := List.mem_map.mp h
      have : a = k := by omega
      exact this ▸ ha
    · exact fun h => List.mem_map.mpr ⟨k, h, rfl⟩
  exact decide_eq_decide.mpr e
theorem e_notIn {δ : Sl} {ta tb : TE} {k : Nat} {l : List Nat} {st : Sty} (ha : E1 K ta δ (.int (k : Nat))) (hb : E1 K tb δ (.tuple st (l.map iD))) : E1 K (tOp (rIn K true) ta tb) δ (.bool (!decide (k ∈ l))) := by
  rw [map_iD] at hb
  have h := e_op ha hb (rd_notInT (st := st))
  rw [mem_cast] at h
  exact h
theorem zip_tail {α : Type} (L : List α) (enc : α → Dat) : zipD (L.map enc) (cutD (L.map enc) (some 1) none) = (L.zip (L.drop 1)).map fun p => .tuple .p [enc p.1, enc p.2] := by
  rw [cutD_tail, ← List.map_drop]
  unfold zipD
  rw [List.zip_map]
  simp [Function.comp_def]
theorem zip_len_le {α : Type} (L : List α) : (L.zip (L.drop 1)).length ≤ L.length := by simp

theorem sc17 : FnScope ["many", "found", "turn", "sequence", "index"] ["many"] (defScope (top 17)) := ⟨rfl, rfl, rfl, by decide +kernel, rfl, by decide +kernel, by decide +kernel⟩
abbrev sp_sequences (K : PySem.W.Frag) : Sp := SpI K (ι := Nat) (fun n => [.int (n : Nat)]) (fun n => n ≤ 6) (fun n d => d = .list ((seqs n n).map nT))
theorem ok_sequences (T : Top K mg h) : C8.Cal P w K mg base 1 "sequences" (sp_sequences K) [] := by
  have m_range := T.free 71 "range"
  obtain ⟨fd, F⟩ := T.says.def_ 8 (d := dd17) rfl
  have g : mg "sequences" = some (.ref (He.ga K "sequences")) := He.glo_ok T.kin T.ns (T.says.fact 8 (f := .glo "sequences") rfl)
  refine cal_mk (fn_ok F sc17 (fun i => rfl) (fun cdv A outer s H E hr => (pss_cons (ps_set (i := 1) sc17.nd rfl (by first | exact Or.inl rfl | exact Or.inr rfl) (pe_lst (pa_cons (pe_tupZ pa_nil) pa_nil))) (pss_cons (ps_for PassesOwn.never rfl (pi_range1 (by rfl) m_range (pa_cons (pv 0) pa_nil)) (pg_name (i := 2) sc17.nd rfl (by first | exact Or.inl rfl | exact Or.inr rfl)) (pss_one (ps_setLc2 (i := 1) (own := [("sequence", 3), ("index", 4)]) (vs1 := [4]) rfl sc17.nd rfl rfl (sw_true rfl rfl rfl (by decide +kernel)) (k_piL K (pv 1)) (blkOk_by (by rfl)) (by decide) (fun _ _ _ _ _ => (pg_name (i := 3) sc17.nd rfl (by first | exact Or.inl rfl | exact Or.inr rfl))) (fun _ _ _ _ _ => pts_nil) (fun _ _ _ _ _ => (pi_range1 (by rfl) m_range (pa_cons (pv 0) pa_nil))) (fun _ _ _ _ _ => (pg_name (i := 4) sc17.nd rfl (by first | exact Or.inl rfl | exact Or.inr rfl))) (fun _ _ _ _ _ => pts_one (pt_cmpR (k_notIn K) (pv 4) (pv 3) rfl)) (fun _ _ _ _ _ => (pe_op (k_catZ K) (pv 3) (pe_tupZ (pa_cons (pv 4) pa_nil))))))) (pss_one (ps_ret (pv 1)))))) ?_) g F.kp (F.bindsN fun _ _ _ _ _ _ us hl => match us, hl with | [_], _ => rfl)
  intro n hn
  refine sd_set (e_lst (a_cons (e_tupZ a_nil) a_nil)) (sd_forI (List.range n) iD (fun i => [some (.d (.int (n : Nat))), some (.d (.list ((seqs n i).map nT))), none, none, none]) (w_rangeN (e_var rfl) (by omega)) (fun i a => g_name 2) ?_ (fun i a ha => ?_) ?_)
  · exact .refl _
  · have hi : i < n := by have := (List.getElem?_eq_some_iff.mp ha).1; simpa using this
    refine sd_set1 (E1.is (x := .list ((seqs n (i + 1)).map nT)) (e_lc2 (seqs n i) nT (fun _ => List.range n) (fun _ => iD) (fun s k => !decide (k ∈ s)) (f := fun s k => nT (s ++ [k]))
      (w_list (e_var rfl)) (fun a => g_name 3) (by simp) (fun a _ => w_rangeN (e_var rfl) (by omega)) (fun a b => g_name 4) (by simp) (fun a _ b _ => t_test (e_notIn (e_var rfl) (e_var rfl)))
      (fun a ha b hb _ => E1.is (e_op (e_var rfl) (e_tupZ (ds := [iD b]) (a_cons (e_var rfl) a_nil)) (rd_cat (ds := a.map iD) (es := [iD b]) (by have := len_of_seqs ha; simp; omega))) (by simp [nT])) (by
        have := seqs_len n hn (i + 1) hi
        simp only [seqs, List.length_flatMap, List.length_map] at this ⊢
        omega)) ?_) ?_
    · show Dat.list _ = Dat.list ((seqs n (i + 1)).map nT)
      simp only [seqs, List.map_flatMap, List.map_map]
      rfl
    · exact .cons _ (.cons _ (.drop _ (.refl _)))
  · exact sd_ret (e_var rfl) (by simp)

theorem sc18 : FnScope ["table", "rows", "columns", "row", "column"] ["table", "rows", "columns"] (defScope (top 18)) := ⟨rfl, rfl, rfl, by decide +kernel, rfl, by decide +kernel, by decide +kernel⟩
abbrev sp_in_sequence (K : PySem.W.Frag) : Sp := SpI K (ι := List (List Int) × List Nat × List Nat) (fun i => [tab i.1, nT i.2.1, nT i.2.2])
  (fun i => ∃ n m, Rect n m i.1 ∧ (∀ r ∈ i.2.1, r < n) ∧ (∀ c ∈ i.2.2, c < m) ∧ i.2.1.length ≤ 1000 ∧ i.2.2.length ≤ 1000) (fun i d => d = tab (place i.1 i.2.1 i.2.2))
theorem ok_in_sequence (T : Top K mg h) : C8.Cal P w K mg base 1 "in_sequence" (sp_in_sequence K) [] := by
  have m_tuple := T.free 66 "tuple"
  obtain ⟨fd, F⟩ := T.says.def_ 9 (d := dd18) rfl
  have g : mg "in_sequence" = some (.ref (He.ga K "in_sequence")) := He.glo_ok T.kin T.ns (T.says.fact 9 (f := .glo "in_sequence") rfl)
  refine cal_mk (fn_ok F sc18 (fun i => rfl) (fun cdv A outer s H E hr => (pss_one (ps_ret (pe_callTy (k_tupZ K) (by rfl) m_tuple (by decide +kernel) (pa_cons (pe_lc (own := [("row", 3)]) rfl sc18.nd (k_piT K (pv 1)) (blkOk_by (by rfl)) (fun _ _ _ _ _ => (pg_name (i := 3) sc18.nd rfl (by first | exact Or.inl rfl | exact Or.inr rfl))) (fun _ _ _ _ _ => pts_nil) (fun _ _ _ _ _ => (pe_callTy (k_tupZ K) (by rfl) m_tuple (by decide +kernel) (pa_cons (pe_lc (own := [("column", 4)]) rfl sc18.nd (k_piT K (pv 2)) (blkOk_by (by rfl)) (fun _ _ _ _ _ => (pg_name (i := 4) sc18.nd rfl (by first | exact Or.inl rfl | exact Or.inr rfl))) (fun _ _ _ _ _ => pts_nil) (fun _ _ _ _ _ => (pe_ix (k_ixT K) (pe_ix (k_ixT K) (pv 0) (pv 3) (fun _ _ => rfl)) (pv 4) (fun _ _ => rfl)))) pa_nil)))) pa_nil))))) ?_) g F.kp (F.bindsN fun _ _ _ _ _ _ us hl => match us, hl with | [_, _, _], _ => rfl)
  rintro ⟨T, rows, cols⟩ ⟨n, m, R, hr, hc, lr, lc⟩
  dsimp only at R hr hc lr lc
  exact sd_ret (e_cb (a_cons (e_lcm rows iD (w_tup (e_var rfl)) (fun a => g_name 3) (by simp) (fun a ha => e_cb (a_cons (e_lcm cols iD (w_tup (e_var rfl)) (fun c => g_name 4) (by simp)
    (fun c hc' => e_en R (e_var rfl) (e_var rfl) (e_var rfl) (hr a ha) (hc c hc')) (by omega)) a_nil) cd_tupZ) (by omega)) a_nil) cd_tupZ) (by simp [tab, place, zT])

theorem sc19 : FnScope ["table", "rows", "found", "column", "entries", "row", "one", "other"] ["table", "rows"] (defScope (top 19)) := ⟨rfl, rfl, rfl, by decide +kernel, rfl, by decide +kernel, by decide +kernel⟩
abbrev sp_differences (K : PySem.W.Frag) : Sp := SpI K (ι := Nat × Nat × List (List Int) × List Nat × Dat) (fun i => [tab i.2.2.1, i.2.2.2.2])
  (fun i => Tb i.1 i.2.1 i.2.2.1 ∧ (∀ r ∈ i.2.2.2.1, r < i.1) ∧ i.2.2.2.1.length ≤ 1000 ∧ (i.2.2.2.2 = .list (i.2.2.2.1.map iD) ∨ i.2.2.2.2 = .tuple .s (i.2.2.2.1.map iD)))
  (fun i d => d = .list ((List.range i.2.1).map fun c => keyT (step i.2.2.1 i.2.2.2.1 c)))
theorem ok_differences (T : Top K mg h) : C8.Cal P w K mg base 1 "differences" (sp_differences K) [] := by
  have m_range := T.free 71 "range"
  have m_len := T.free 67 "len"
  have m_zip := T.free 70 "zip"
  have m_tuple := T.free 66 "tuple"
  obtain ⟨fd, F⟩ := T.says.def_ 10 (d := dd19) rfl
  have g : mg "differences" = some (.ref (He.ga K "differences")) := He.glo_ok T.kin T.ns (T.says.fact 10 (f := .glo "differences") rfl)
  refine cal_mk (fn_ok F sc19 (fun i => rfl) (fun cdv A outer s H E hr => (pss_cons (ps_set (i := 2) sc19.nd rfl (by first | exact Or.inl rfl | exact Or.inr rfl) (pe_lst pa_nil)) (pss_cons (ps_for PassesOwn.never rfl (pi_range1 (by rfl) m_range (pa_cons (pe_callB (k_len K) (by rfl) m_len PySem.boot_len (pa_cons (pe_ix (k_ixT K) (pv 0) pe_int (fun _ _ => rfl)) pa_nil)) pa_nil)) (pg_name (i := 3) sc19.nd rfl (by first | exact Or.inl rfl | exact Or.inr rfl)) (pss_cons (ps_setLc (i := 4) (own := [("row", 5)]) rfl sc19.nd rfl rfl (sw_true rfl rfl rfl (by decide +kernel)) (k_piS K (pv 1)) (blkOk_by (by rfl)) (fun _ _ _ _ _ => (pg_name (i := 5) sc19.nd rfl (by first | exact Or.inl rfl | exact Or.inr rfl))) (fun _ _ _ _ _ => pts_nil) (fun _ _ _ _ _ => (pe_ix (k_ixT K) (pe_ix (k_ixT K) (pv 0) (pv 5) (fun _ _ => rfl)) (pv 3) (fun _ _ => rfl)))) (pss_one (ps_expr (k_bm K PySem.F.plainAttrs_list PySem.F.slot_list_append PySem.F.type_list_append mt_append (pv 2) (pa_cons (pe_callTy (k_tupOf K) (by rfl) m_tuple (by decide +kernel) (pa_cons (pe_lc (own := [("one", 6), ("other", 7)]) rfl sc19.nd (k_zip K (by rfl) m_zip (pa_cons (pv 4) (pa_cons (pe_slice (k_slL K) (pv 4) (po_some pe_int) po_none) pa_nil))) (blkOk_by (by rfl)) (fun _ _ _ _ _ => (k_tuple K (n := 2) (pgs_cons (pg_name (i := 6) sc19.nd rfl (by first | exact Or.inl rfl | exact Or.inr rfl)) (pgs_cons (pg_name (i := 7) sc19.nd rfl (by first | exact Or.inl rfl | exact Or.inr rfl)) pgs_nil)))) (fun _ _ _ _ _ => pts_nil) (fun _ _ _ _ _ => (pe_op op_sub (pv 6) (pv 7)))) pa_nil)) pa_nil)))))) (pss_one (ps_ret (pv 2)))))) ?_) g F.kp (F.bindsN fun _ _ _ _ _ _ us hl => match us, hl with | [_, _], _ => rfl)
  rintro ⟨n, m, T, rows, R⟩ ⟨W, hr, lr, hR⟩
  dsimp only at W hr lr hR
  refine sd_gather (List.range m) iD (fun c => keyT (step T rows c)) a_nil (fun p => w_rangeN (e_len (e_op (e_var rfl) (e_int 0) (rd_ixT (at_tab W.toRect (r := 0) W.n1))) (by rw [List.length_map]; exact row_len W.toRect W.n1)) (by have := W.m8; omega)) (fun p a => g_name 3)
    (by have := W.m8; simp; omega) (fun p c hc => ?_) (sd_ret (e_var rfl) rfl)
  have hc : c < m := by simpa using hc
  refine ad_set (e_lcm rows iD (w_seq (e_var rfl) hR) (fun a => g_name 5) (by simp) (fun r hr' => e_en W.toRect (e_var rfl) (e_var rfl) (e_var rfl) (hr r hr') hc) (by omega)) (ad_append (by omega) rfl (E1.is (e_cb (a_cons (e_lcm ((rows.map fun r => en T r c).zip ((rows.map fun r => en T r c).drop 1)) (fun p => .tuple .p [.int p.1, .int p.2])
    (zip_tail (rows.map fun r => en T r c) Dat.int ▸ w_zipL (a_cons (e_var (by rw [List.map_map]; rfl)) (a_cons (e_sl (e_var (by rw [List.map_map]; rfl)) (o_some (e_int 1)) o_no sl_l) a_nil))) (fun a => g_tup2) (by simp) (fun a _ => e_op (e_var rfl) (e_var rfl) rd_sub) (Nat.le_trans (zip_len_le _) (by simp; omega))) a_nil) cd_tupL) (by simp [keyT, step, dif])) ?_ rfl)
  exact .cons _ (.cons _ (.cons _ (.drop _ (.drop _ (.refl _)))))

theorem sc20 : FnScope ["one", "other", "first", "second"] ["one", "other"] (defScope (top 20)) := ⟨rfl, rfl, rfl, by decide +kernel, rfl, by decide +kernel, by decide +kernel⟩
abbrev sp_never_falls (K : PySem.W.Frag) : Sp := SpI K (ι := List Int × List Int) (fun i => [keyT i.1, keyT i.2]) (fun i => i.1.length ≤ 1000) (fun i d => d = .bool (nf i.1 i.2))
theorem ok_never_falls (T : Top K mg h) : C8.Cal P w K mg base 1 "never_falls" (sp_never_falls K) [] := by
  have m_all := T.free 68 "all"
  have m_zip := T.free 70 "zip"
  obtain ⟨fd, F⟩ := T.says.def_ 11 (d := dd20) rfl
  have g : mg "never_falls" = some (.ref (He.ga K "never_falls")) := He.glo_ok T.kin T.ns (T.says.fact 11 (f := .glo "never_falls") rfl)
  refine cal_mk (fn_ok F sc20 (fun i => rfl) (fun cdv A outer s H E hr => (pss_one (ps_ret (pe_callB (k_all K) (by rfl) m_all (by decide +kernel) (pa_cons (pe_lc (own := [("first", 2), ("second", 3)]) rfl sc20.nd (k_zip K (by rfl) m_zip (pa_cons (pv 0) (pa_cons (pv 1) pa_nil))) (blkOk_by (by rfl)) (fun _ _ _ _ _ => (k_tuple K (n := 2) (pgs_cons (pg_name (i := 2) sc20.nd rfl (by first | exact Or.inl rfl | exact Or.inr rfl)) (pgs_cons (pg_name (i := 3) sc20.nd rfl (by first | exact Or.inl rfl | exact Or.inr rfl)) pgs_nil)))) (fun _ _ _ _ _ => pts_nil) (fun _ _ _ _ _ => (pe_cmpR op_le (pv 2) (pv 3) (nomark _)))) pa_nil))))) ?_) g F.kp (F.bindsN fun _ _ _ _ _ _ us hl => match us, hl with | [_, _], _ => rfl)
  rintro ⟨a, b⟩ hl
  dsimp only at hl
  have z : zipD (a.map Dat.int) (b.map Dat.int) = (a.zip b).map fun p => .tuple .p [.int p.1, .int p.2] := by
    unfold zipD
    rw [List.zip_map]
    simp [Function.comp_def]
  exact sd_ret (e_cb (a_cons (e_lcm (a.zip b) (fun p => .tuple .p [.int p.1, .int p.2]) (z ▸ w_zipT (a_cons (e_var rfl) (a_cons (e_var rfl) a_nil))) (fun a => g_tup2) (by simp) (fun a _ => e_op (e_var rfl) (e_var rfl) rd_le) (by simp; omega)) a_nil) cd_all') rfl

theorem sc21 : FnScope ["table", "steps", "one", "other"] ["table"] (defScope (top 21)) := ⟨rfl, rfl, rfl, by decide +kernel, rfl, by decide +kernel, by decide +kernel⟩
abbrev sp_is_plain (K : PySem.W.Frag) : Sp := SpI K (ι := Nat × Nat × List (List Int)) (fun i => [tab i.2.2]) (fun i => Tb i.1 i.2.1 i.2.2) (fun i d => d = .bool (plainB i.1 i.2.1 i.2.2))
theorem ok_is_plain (T : Top K mg h) : C8.Cal P w K mg base 2 "is_plain" (sp_is_plain K) [] := by
  have c_differences := ok_differences (P := P) (w := w) (base := base) T
  have c_never_falls := ok_never_falls (P := P) (w := w) (base := base) T
  have m_range := T.free 71 "range"
  have m_len := T.free 67 "len"
  have m_list := T.free 72 "list"
  have m_all := T.free 68 "all"
  have m_zip := T.free 70 "zip"
  obtain ⟨fd, F⟩ := T.says.def_ 12 (d := dd21) rfl
  have g : mg "is_plain" = some (.ref (He.ga K "is_plain")) := He.glo_ok T.kin T.ns (T.says.fact 12 (f := .glo "is_plain") rfl)
  refine cal_mk (fn_ok F sc21 (fun i => rfl) (fun cdv A outer s H E hr => (pss_cons (ps_set (i := 1) sc21.nd rfl (by first | exact Or.inl rfl | exact Or.inr rfl) (C8.pe_c c_differences hr (by decide) (by rfl) (pa_cons (pv 0) (pa_cons (pe_listRg rfl (by rfl) m_list (prg_1 (by rfl) m_range (pe_callB (k_len K) (by rfl) m_len PySem.boot_len (pa_cons (pv 0) pa_nil)))) pa_nil)))) (pss_one (ps_ret (pe_callB (k_all K) (by rfl) m_all (by decide +kernel) (pa_cons (pe_lc (own := [("one", 2), ("other", 3)]) rfl sc21.nd (k_zip K (by rfl) m_zip (pa_cons (pv 1) (pa_cons (pe_slice (k_slL K) (pv 1) (po_some pe_int) po_none) pa_nil))) (blkOk_by (by rfl)) (fun _ _ _ _ _ => (k_tuple K (n := 2) (pgs_cons (pg_name (i := 2) sc21.nd rfl (by first | exact Or.inl rfl | exact Or.inr rfl)) (pgs_cons (pg_name (i := 3) sc21.nd rfl (by first | exact Or.inl rfl | exact Or.inr rfl)) pgs_nil)))) (fun _ _ _ _ _ => pts_nil) (fun _ _ _ _ _ => (C8.pe_c c_never_falls hr (by decide) (by rfl) (pa_cons (pv 2) (pa_cons (pv 3) pa_nil))))) pa_nil)))))) ?_) g F.kp (F.bindsN fun _ _ _ _ _ _ us hl => match us, hl with | [_], _ => rfl)
  rintro ⟨n, m, T⟩ W
  dsimp only at W
  have hn := W.n8
  have hm := W.m8
  refine sd_set (e_call (res := fun i : Nat × Nat × List (List Int) × List Nat × Dat => .list ((List.range i.2.1).map fun c => keyT (step i.2.2.1 i.2.2.2.1 c))) (n, m, T, List.range n, .list ((List.range n).map iD)) (a_cons (e_var rfl) (a_cons (e_listRg (e_len (e_var rfl) (by rw [List.length_map]; exact W.rows)) (by omega)) a_nil)) ⟨W, by simp, by simp; omega, .inl rfl⟩) ?_
  refine sd_ret (e_cb (a_cons (e_lcm (((List.range m).map fun c => step T (List.range n) c).zip (((List.range m).map fun c => step T (List.range n) c).drop 1)) (fun p => .tuple .p [keyT p.1, keyT p.2])
    (zip_tail ((List.range m).map fun c => step T (List.range n) c) keyT ▸ w_zipL (a_cons (e_var (by rw [List.map_map]; rfl)) (a_cons (e_sl (e_var (by rw [List.map_map]; rfl)) (o_some (e_int 1)) o_no sl_l) a_nil))) (fun a => g_tup2) (by simp)
    (fun a ha => e_call (res := fun i : List Int × List Int => .bool (nf i.1 i.2)) (a.1, a.2) (a_cons (e_var rfl) (a_cons (e_var rfl) a_nil)) ?_) (Nat.le_trans (zip_len_le _) (by simp; omega))) a_nil) cd_all') rfl
  have h1 := (List.of_mem_zip ha).1
  obtain ⟨c, _, e⟩ := List.mem_map.mp h1
  show a.1.length ≤ 1000
  rw [← e]
  simp [step, dif]
  omega

theorem sc23 : FnScope ["blocks", "block", "column"] ["blocks"] (defScope (top 23)) := ⟨rfl, rfl, rfl, by decide +kernel, rfl, by decide +kernel, by decide +kernel⟩
abbrev sp_first_columns_orderways (K : PySem.W.Frag) : Sp := SpI K (ι := List (List Nat)) (fun bs => [.list (bs.map nT)]) (fun bs => bs.flatten.length ≤ 1000) (fun bs d => d = nT bs.flatten)
theorem ok_first_columns_orderways (T : Top K mg h) : C8.Cal P w K mg base 1 "first_columns_orderways" (sp_first_columns_orderways K) [] := by
  have m_tuple := T.free 66 "tuple"
  obtain ⟨fd, F⟩ := T.says.def_ 14 (d := dd23) rfl
  have g : mg "first_columns_orderways" = some (.ref (He.ga K "first_columns_orderways")) := He.glo_ok T.kin T.ns (T.says.fact 14 (f := .glo "first_columns_orderways") rfl)
  refine cal_mk (fn_ok F sc23 (fun i => rfl) (fun cdv A outer s H E hr => (pss_one (ps_ret (pe_callTy (k_tupZ K) (by rfl) m_tuple (by decide +kernel) (pa_cons (pe_lc2 (own := [("block", 1), ("column", 2)]) (vs1 := [2]) rfl sc23.nd (k_piL K (pv 0)) (blkOk_by (by rfl)) (by decide) (fun _ _ _ _ _ => (pg_name (i := 1) sc23.nd rfl (by first | exact Or.inl rfl | exact Or.inr rfl))) (fun _ _ _ _ _ => pts_nil) (fun _ _ _ _ _ => (k_piT K (pv 1))) (fun _ _ _ _ _ => (pg_name (i := 2) sc23.nd rfl (by first | exact Or.inl rfl | exact Or.inr rfl))) (fun _ _ _ _ _ => pts_nil) (fun _ _ _ _ _ => (pv 2))) pa_nil))))) ?_) g F.kp (F.bindsN fun _ _ _ _ _ _ us hl => match us, hl with | [_], _ => rfl)
  intro bs hl
  refine sd_ret (e_cb (a_cons (e_lc2 bs nT (fun b => b) (fun _ => iD) (fun _ _ => true) (w_list (e_var rfl)) (fun a => g_name 1) (by simp) (fun a _ => w_tup (e_var rfl)) (fun a b => g_name 2) (by simp) (fun _ _ _ _ => t_yes) (fun a _ b _ _ => e_var rfl) ?_) a_nil) cd_tupZ) ?_
  · rw [List.length_flatten] at hl
    rw [List.length_flatMap]
    simp only [filter_yes, List.length_map]
    exact Nat.le_trans (show _ ≤ 1000 from hl) (by omega)
  · unfold nT
    rw [List.map_flatten]
    simp only [filter_yes, List.flatMap_def]

theorem sc29 : FnScope ["many", "found", "mask", "index"] ["many"] (defScope (top 29)) := ⟨rfl, rfl, rfl, by decide +kernel, rfl, by decide +kernel, by decide +kernel⟩
abbrev sp_choices (K : PySem.W.Frag) : Sp := SpI K (ι := Nat) (fun n => [.int (n : Nat)]) (fun n => n ≤ 6) (fun n d => d = .list ((List.range (2 ^ n - 1)).map fun k => nT ((List.range n).filter fun i => decide (Builtin.bitAnd ((1 + (k : Nat) : Int) / 2 ^ i) 1 = 1))))
theorem ok_choices (T : Top K mg h) : C8.Cal P w K mg base 1 "choices" (sp_choices K) [] := by
  have m_range := T.free 71 "range"
  have m_tuple := T.free 66 "tuple"
  obtain ⟨fd, F⟩ := T.says.def_ 19 (d := dd29) rfl
  have g : mg "choices" = some (.ref (He.ga K "choices")) := He.glo_ok T.kin T.ns (T.says.fact 19 (f := .glo "choices") rfl)
  refine cal_mk (fn_ok F sc29 (fun i => rfl) (fun cdv A outer s H E hr => (pss_cons (ps_set (i := 1) sc29.nd rfl (by first | exact Or.inl rfl | exact Or.inr rfl) (pe_lst pa_nil)) (pss_cons (ps_for PassesOwn.never rfl (pi_range2 (by rfl) m_range (pa_cons pe_int (pa_cons (pe_op op_shl pe_int (pv 0)) pa_nil))) (pg_name (i := 2) sc29.nd rfl (by first | exact Or.inl rfl | exact Or.inr rfl)) (pss_one (ps_expr (k_bm K PySem.F.plainAttrs_list PySem.F.slot_list_append PySem.F.type_list_append mt_append (pv 1) (pa_cons (pe_callTy (k_tupZ K) (by rfl) m_tuple (by decide +kernel) (pa_cons (pe_lc (own := [("index", 3)]) rfl sc29.nd (pi_range1 (by rfl) m_range (pa_cons (pv 0) pa_nil)) (blkOk_by (by rfl)) (fun _ _ _ _ _ => (pg_name (i := 3) sc29.nd rfl (by first | exact Or.inl rfl | exact Or.inr rfl))) (fun _ _ _ _ _ => pts_one (pt_cmpR op_eq (pe_op op_and (pe_op op_shr (pv 2) (pv 3)) pe_int) pe_int (nomark _))) (fun _ _ _ _ _ => (pv 3))) pa_nil)) pa_nil))))) (pss_one (ps_ret (pv 1)))))) ?_) g F.kp (F.bindsN fun _ _ _ _ _ _ us hl => match us, hl with | [_], _ => rfl)
  intro n hn
  have h2 : 2 ^ n ≤ 64 := Nat.le_trans (Nat.pow_le_pow_right (by omega) hn) (by decide)
  have hs : ((1 : Int) * 2 ^ (n : Int).toNat) = ((2 ^ n : Nat) : Int) := by simp
  have rg : rgD 1 ((2 ^ n : Nat) : Int) = (List.range (2 ^ n - 1)).map fun k => Dat.int (1 + (k : Nat)) := by
    unfold rgD
    have : (((2 ^ n : Nat) : Int) - 1).toNat = 2 ^ n - 1 := by omega
    rw [this]
  have hw : ∀ p, W1 K (iRng2 (tCons (tC (.int 1)) (tCons (tOp (rI CPow fun i j => .int (i * 2 ^ j.toNat)) (tC (.int 1)) (tVar 0)) tNil))) ((startD [.int (n : Nat)] 3).set 1 (some (.r (.ref p)))) ((List.range (2 ^ n - 1)).map fun k => Dat.int (1 + (k : Nat))) := by
    intro p
    rw [← rg]
    refine w_range2 (a_cons (e_int 1) (a_cons (E1.is (e_op (e_int 1) (e_var rfl) (rd_shl ⟨by omega, by omega, by decide⟩)) (by rw [hs])) a_nil)) ?_
    generalize 2 ^ n = k at h2
    omega
  refine sd_gather (List.range (2 ^ n - 1)) (fun k => Dat.int (1 + (k : Nat))) _ a_nil hw (fun p a => g_name 2)
    (by simp; omega) (fun p k hk => ?_) (sd_ret (e_var rfl) rfl)
  refine ad_append (by omega) rfl (E1.is (e_cb (a_cons (e_lcG (List.range n) iD _ (fun i => decide (Builtin.bitAnd ((1 + (k : Nat) : Int) / 2 ^ i) 1 = 1)) iD (w_rangeN (e_var rfl) (by omega)) (fun a => g_name 3) (by simp) (fun i hi => t_test (e_op (e_op (e_op (e_var rfl) (e_var rfl) (rd_shr (by omega))) (e_int 1) rd_and) (e_int 1) rd_eqI)) (fun i hi _ => e_var rfl) (by simp; omega)) a_nil) cd_tupZ) (by simp [nT])) ?_ rfl
  exact .cons _ (.cons _ (.drop _ (.refl _)))

end
end Mix

namespace Mix
open PySem PySem.Spec L2 RZ DL
open PyProof.Rows (envOfC)
section
variable {P : Program} {w : World} {K : PySem.W.Frag} {mg : Str → Option Value} {base h : Heap}

theorem sd_skip {δ : Sl} {t : TT} {ts tu : TS} {N : Sl → Prop} {R : Dat → Prop} (h : T1 K t δ false) (h2 : Sd K tu δ N R) : Sd K (tSeq (tIfS t ts tNext) tu) δ N R := sd_guard h (fun z => nomatch z) fun _ => h2
theorem e_call' {ι : Type} {args : ι → List Dat} {ok : ι → Prop} {res : ι → Dat} {E : XK} {ta : TA} {δ : Sl} {ds : List Dat} {z : Dat} (i : ι) (h : A1 K ta δ ds) (hd : ds = args i) (hk : ok i) (hz : res i = z) : E1 K (tCall (SpI K args ok fun i d => d = res i) [] E ta) δ z := by
  subst hd hz
  exact e_call i h hk

theorem sc32 : FnScope ["table"] ["table"] (defScope (top 32)) := ⟨rfl, rfl, rfl, by decide +kernel, rfl, by decide +kernel, by decide +kernel⟩
abbrev sp_width (K : PySem.W.Frag) : Sp := SpI K (ι := Nat × Nat × List (List Int)) (fun i => [tab i.2.2]) (fun i => Tb i.1 i.2.1 i.2.2) (fun i d => d = .int (i.2.1 : Nat))
theorem ok_width (T : Top K mg h) : C8.Cal P w K mg base 1 "width" (sp_width K) [] := by
  have m_len := T.free 67 "len"
  obtain ⟨fd, F⟩ := T.says.def_ 21 (d := dd32) rfl
  have g : mg "width" = some (.ref (He.ga K "width")) := He.glo_ok T.kin T.ns (T.says.fact 21 (f := .glo "width") rfl)
  refine cal_mk (fn_ok F sc32 (fun i => rfl) (fun cdv A outer s H E hr => (pss_one (ps_ret (pe_callB (k_len K) (by rfl) m_len PySem.boot_len (pa_cons (pe_ix (k_ixT K) (pv 0) pe_int (fun _ _ => rfl)) pa_nil))))) ?_) g F.kp (F.bindsN fun _ _ _ _ _ _ us hl => match us, hl with | [_], _ => rfl)
  rintro ⟨n, m, T⟩ W
  dsimp only at W
  exact sd_ret (e_len (e_op (e_var rfl) (e_int 0) (rd_ixT (at_tab W.toRect (r := 0) W.n1))) (by rw [List.length_map]; exact row_len W.toRect W.n1)) rfl

theorem sc33 : FnScope ["table", "column", "row"] ["table", "column"] (defScope (top 33)) := ⟨rfl, rfl, rfl, by decide +kernel, rfl, by decide +kernel, by decide +kernel⟩
abbrev sp_column_of (K : PySem.W.Frag) : Sp := SpI K (ι := Nat × Nat × List (List Int) × Nat) (fun i => [tab i.2.2.1, .int (i.2.2.2 : Nat)]) (fun i => Tb i.1 i.2.1 i.2.2.1 ∧ i.2.2.2 < i.2.1) (fun i d => d = zT (colOf i.2.2.1 i.2.2.2))
theorem ok_column_of (T : Top K mg h) : C8.Cal P w K mg base 1 "column_of" (sp_column_of K) [] := by
  have m_tuple := T.free 66 "tuple"
  obtain ⟨fd, F⟩ := T.says.def_ 22 (d := dd33) rfl
  have g : mg "column_of" = some (.ref (He.ga K "column_of")) := He.glo_ok T.kin T.ns (T.says.fact 22 (f := .glo "column_of") rfl)
  refine cal_mk (fn_ok F sc33 (fun i => rfl) (fun cdv A outer s H E hr => (pss_one (ps_ret (pe_callTy (k_tupZ K) (by rfl) m_tuple (by decide +kernel) (pa_cons (pe_lc (own := [("row", 2)]) rfl sc33.nd (k_piT K (pv 0)) (blkOk_by (by rfl)) (fun _ _ _ _ _ => (pg_name (i := 2) sc33.nd rfl (by first | exact Or.inl rfl | exact Or.inr rfl))) (fun _ _ _ _ _ => pts_nil) (fun _ _ _ _ _ => (pe_ix (k_ixT K) (pv 2) (pv 1) (fun _ _ => rfl)))) pa_nil))))) ?_) g F.kp (F.bindsN fun _ _ _ _ _ _ us hl => match us, hl with | [_, _], _ => rfl)
  rintro ⟨n, m, T, c⟩ ⟨W, hc⟩
  dsimp only at W hc
  have := W.n8
  exact sd_ret (e_cb (a_cons (e_lcm T zT (w_tup (e_var rfl)) (fun a => g_name 2) (by simp) (fun row hr => e_op (e_var rfl) (e_var rfl) (rd_ixT (at_row (by rw [W.cols row hr]; exact hc)))) (by have := W.rows; omega)) a_nil) cd_tupZ) (by simp [zT, colOf])

theorem sc34 : FnScope ["table", "row", "other", "column", "last", "straight"] ["table", "row", "other", "column", "last"] (defScope (top 34)) := ⟨rfl, rfl, rfl, by decide +kernel, rfl, by decide +kernel, by decide +kernel⟩
abbrev sp_gain_of (K : PySem.W.Frag) : Sp := SpI K (ι := Nat × Nat × List (List Int) × Nat × Nat × Nat × Nat) (fun i => [tab i.2.2.1, .int (i.2.2.2.1 : Nat), .int (i.2.2.2.2.1 : Nat), .int (i.2.2.2.2.2.1 : Nat), .int (i.2.2.2.2.2.2 : Nat)])
  (fun i => Tb i.1 i.2.1 i.2.2.1 ∧ i.2.2.2.1 < i.1 ∧ i.2.2.2.2.1 < i.1 ∧ i.2.2.2.2.2.1 < i.2.1 ∧ i.2.2.2.2.2.2 < i.2.1) (fun i d => d = .int (gainOf i.2.2.1 i.2.2.2.1 i.2.2.2.2.1 i.2.2.2.2.2.1 i.2.2.2.2.2.2))
theorem ok_gain_of (T : Top K mg h) : C8.Cal P w K mg base 1 "gain_of" (sp_gain_of K) [] := by
  obtain ⟨fd, F⟩ := T.says.def_ 23 (d := dd34) rfl
  have g : mg "gain_of" = some (.ref (He.ga K "gain_of")) := He.glo_ok T.kin T.ns (T.says.fact 23 (f := .glo "gain_of") rfl)
  refine cal_mk (fn_ok F sc34 (fun i => rfl) (fun cdv A outer s H E hr => (pss_cons (ps_set (i := 5) sc34.nd rfl (by first | exact Or.inl rfl | exact Or.inr rfl) (pe_op op_add (pe_ix (k_ixT K) (pe_ix (k_ixT K) (pv 0) (pv 1) (fun _ _ => rfl)) (pv 3) (fun _ _ => rfl)) (pe_ix (k_ixT K) (pe_ix (k_ixT K) (pv 0) (pv 2) (fun _ _ => rfl)) (pv 4) (fun _ _ => rfl)))) (pss_one (ps_ret (pe_op op_sub (pe_op op_add (pe_ix (k_ixT K) (pe_ix (k_ixT K) (pv 0) (pv 1) (fun _ _ => rfl)) (pv 4) (fun _ _ => rfl)) (pe_ix (k_ixT K) (pe_ix (k_ixT K) (pv 0) (pv 2) (fun _ _ => rfl)) (pv 3) (fun _ _ => rfl))) (pv 5)))))) ?_) g F.kp (F.bindsN fun _ _ _ _ _ _ us hl => match us, hl with | [_, _, _, _, _], _ => rfl)
  rintro ⟨n, m, T, r, o, c, l⟩ ⟨W, hr, ho, hc, hl⟩
  dsimp only at W hr ho hc hl
  exact sd_set (e_op (e_en W.toRect (e_var rfl) (e_var rfl) (e_var rfl) hr hc) (e_en W.toRect (e_var rfl) (e_var rfl) (e_var rfl) ho hl) rd_add) (sd_ret (e_op (e_op (e_en W.toRect (e_var rfl) (e_var rfl) (e_var rfl) hr hl) (e_en W.toRect (e_var rfl) (e_var rfl) (e_var rfl) ho hc) rd_add) (e_var rfl) rd_sub) rfl)

theorem sc35 : FnScope ["table", "row", "column"] ["table", "row", "column"] (defScope (top 35)) := ⟨rfl, rfl, rfl, by decide +kernel, rfl, by decide +kernel, by decide +kernel⟩
abbrev sp_gain_at (K : PySem.W.Frag) : Sp := SpI K (ι := Nat × Nat × List (List Int) × Nat × Nat) (fun i => [tab i.2.2.1, .int (i.2.2.2.1 : Nat), .int (i.2.2.2.2 : Nat)])
  (fun i => Tb i.1 i.2.1 i.2.2.1 ∧ i.2.2.2.1 + 1 < i.1 ∧ i.2.2.2.2 + 1 < i.2.1) (fun i d => d = .int (gainOf i.2.2.1 i.2.2.2.1 (i.2.2.2.1 + 1) i.2.2.2.2 (i.2.2.2.2 + 1)))
theorem ok_gain_at (T : Top K mg h) : C8.Cal P w K mg base 2 "gain_at" (sp_gain_at K) [] := by
  have c_gain_of := ok_gain_of (P := P) (w := w) (base := base) T
  obtain ⟨fd, F⟩ := T.says.def_ 24 (d := dd35) rfl
  have g : mg "gain_at" = some (.ref (He.ga K "gain_at")) := He.glo_ok T.kin T.ns (T.says.fact 24 (f := .glo "gain_at") rfl)
  refine cal_mk (fn_ok F sc35 (fun i => rfl) (fun cdv A outer s H E hr => (pss_one (ps_ret (C8.pe_c c_gain_of hr (by decide) (by rfl) (pa_cons (pv 0) (pa_cons (pv 1) (pa_cons (pe_op op_add (pv 1) pe_int) (pa_cons (pv 2) (pa_cons (pe_op op_add (pv 2) pe_int) pa_nil))))))))) ?_) g F.kp (F.bindsN fun _ _ _ _ _ _ us hl => match us, hl with | [_, _, _], _ => rfl)
  rintro ⟨n, m, T, r, c⟩ ⟨W, hr, hc⟩
  dsimp only at W hr hc
  exact sd_ret (e_call' (res := fun i : Nat × Nat × List (List Int) × Nat × Nat × Nat × Nat => .int (gainOf i.2.2.1 i.2.2.2.1 i.2.2.2.2.1 i.2.2.2.2.2.1 i.2.2.2.2.2.2)) (n, m, T, r, r + 1, c, c + 1) (a_cons (e_var rfl) (a_cons (e_var rfl) (a_cons (e_op (e_var rfl) (e_int 1) rd_add) (a_cons (e_var rfl) (a_cons (e_op (e_var rfl) (e_int 1) rd_add) a_nil))))) (by simp) ⟨W, by dsimp only; omega, hr, by dsimp only; omega, hc⟩ rfl) rfl

theorem sc36 : FnScope ["table", "found", "row", "column"] ["table"] (defScope (top 36)) := ⟨rfl, rfl, rfl, by decide +kernel, rfl, by decide +kernel, by decide +kernel⟩
abbrev sp_gains_of (K : PySem.W.Frag) : Sp := SpI K (ι := Nat × Nat × List (List Int)) (fun i => [tab i.2.2]) (fun i => Tb i.1 i.2.1 i.2.2) (fun i d => d = tab (gains i.1 i.2.1 i.2.2))
theorem ok_gains_of (T : Top K mg h) : C8.Cal P w K mg base 3 "gains_of" (sp_gains_of K) [] := by
  have c_width := ok_width (P := P) (w := w) (base := base) T
  have c_gain_at := ok_gain_at (P := P) (w := w) (base := base) T
  have m_range := T.free 71 "range"
  have m_len := T.free 67 "len"
  have m_tuple := T.free 66 "tuple"
  obtain ⟨fd, F⟩ := T.says.def_ 25 (d := dd36) rfl
  have g : mg "gains_of" = some (.ref (He.ga K "gains_of")) := He.glo_ok T.kin T.ns (T.says.fact 25 (f := .glo "gains_of") rfl)
  refine cal_mk (fn_ok F sc36 (fun i => rfl) (fun cdv A outer s H E hr => (pss_cons (ps_set (i := 1) sc36.nd rfl (by first | exact Or.inl rfl | exact Or.inr rfl) (pe_lst pa_nil)) (pss_cons (ps_for PassesOwn.never rfl (pi_range1 (by rfl) m_range (pa_cons (pe_op op_sub (pe_callB (k_len K) (by rfl) m_len PySem.boot_len (pa_cons (pv 0) pa_nil)) pe_int) pa_nil)) (pg_name (i := 2) sc36.nd rfl (by first | exact Or.inl rfl | exact Or.inr rfl)) (pss_one (ps_expr (k_bm K PySem.F.plainAttrs_list PySem.F.slot_list_append PySem.F.type_list_append mt_append (pv 1) (pa_cons (pe_callTy (k_tupZ K) (by rfl) m_tuple (by decide +kernel) (pa_cons (pe_lc (own := [("column", 3)]) rfl sc36.nd (pi_range1 (by rfl) m_range (pa_cons (pe_op op_sub (C8.pe_c c_width hr (by decide) (by rfl) (pa_cons (pv 0) pa_nil)) pe_int) pa_nil)) (blkOk_by (by rfl)) (fun _ _ _ _ _ => (pg_name (i := 3) sc36.nd rfl (by first | exact Or.inl rfl | exact Or.inr rfl))) (fun _ _ _ _ _ => pts_nil) (fun _ _ _ _ _ => (C8.pe_c c_gain_at hr (by decide) (by rfl) (pa_cons (pv 0) (pa_cons (pv 2) (pa_cons (pv 3) pa_nil)))))) pa_nil)) pa_nil))))) (pss_one (ps_ret (pe_callTy (k_tupZ K) (by rfl) m_tuple (by decide +kernel) (pa_cons (pv 1) pa_nil))))))) ?_) g F.kp (F.bindsN fun _ _ _ _ _ _ us hl => match us, hl with | [_], _ => rfl)
  rintro ⟨n, m, T⟩ W
  dsimp only at W
  have h1 := W.n1
  have h2 := W.m1
  have h3 := W.n8
  have h4 := W.m8
  have en1 : ((n : Nat) : Int) - 1 = ((n - 1 : Nat) : Int) := by omega
  have em1 : ((m : Nat) : Int) - 1 = ((m - 1 : Nat) : Int) := by omega
  refine sd_gather (List.range (n - 1)) iD (fun r => zT ((List.range (m - 1)).map fun c => gainOf T r (r + 1) c (c + 1))) a_nil (fun p => w_rangeN (E1.is (e_op (e_len (n := n) (e_var rfl) (by rw [List.length_map]; exact W.rows)) (e_int 1) rd_sub) (by rw [en1])) (by omega)) (fun p a => g_name 2) (by simp; omega) (fun p r hr => ?_) (sd_ret (e_cb (a_cons (e_var rfl) a_nil) cd_tupZ) (by simp [tab, gains]))
  have hr : r < n - 1 := by simpa using hr
  refine ad_append (by omega) rfl (E1.is (e_cb (a_cons (e_lcm (List.range (m - 1)) iD (w_rangeN (E1.is (e_op (e_call (res := fun i : Nat × Nat × List (List Int) => .int (i.2.1 : Nat)) (n, m, T) (a_cons (e_var rfl) a_nil) W) (e_int 1) rd_sub) (by rw [em1])) (by omega)) (fun a => g_name 3) (by simp)
    (fun c hc => e_call (res := fun i : Nat × Nat × List (List Int) × Nat × Nat => .int (gainOf i.2.2.1 i.2.2.2.1 (i.2.2.2.1 + 1) i.2.2.2.2 (i.2.2.2.2 + 1))) (n, m, T, r, c) (a_cons (e_var rfl) (a_cons (e_var rfl) (a_cons (e_var rfl) a_nil))) ⟨W, by dsimp only; omega, by have : c < m - 1 := (by simpa using hc); dsimp only; omega⟩) (by simp; omega)) a_nil) cd_tupZ) (by simp [zT])) ?_ rfl
  exact .cons _ (.cons _ (.drop _ (.refl _)))

theorem sc37 : FnScope ["table", "row", "gains", "column", "gain"] ["table"] (defScope (top 37)) := ⟨rfl, rfl, rfl, by decide +kernel, rfl, by decide +kernel, by decide +kernel⟩
abbrev sp_first_paying (K : PySem.W.Frag) : Sp := SpI K (ι := Nat × Nat × List (List Int)) (fun i => [tab i.2.2]) (fun i => Tb i.1 i.2.1 i.2.2 ∧ ∀ row ∈ gains i.1 i.2.1 i.2.2, ∀ g ∈ row, 0 ≤ g) (fun i d => d = .none)
theorem ok_first_paying (T : Top K mg h) : C8.Cal P w K mg base 4 "first_paying" (sp_first_paying K) [] := by
  have c_gains_of := ok_gains_of (P := P) (w := w) (base := base) T
  have m_enumerate := T.free 73 "enumerate"
  obtain ⟨fd, F⟩ := T.says.def_ 26 (d := dd37) rfl
  have g : mg "first_paying" = some (.ref (He.ga K "first_paying")) := He.glo_ok T.kin T.ns (T.says.fact 26 (f := .glo "first_paying") rfl)
  refine cal_mk (fn_ok F sc37 (fun i => rfl) (fun cdv A outer s H E hr => (pss_cons (ps_for PassesOwn.never rfl (k_enumT K (by rfl) m_enumerate (pa_cons (C8.pe_c c_gains_of hr (by decide) (by rfl) (pa_cons (pv 0) pa_nil)) pa_nil)) (k_tuple K (n := 2) (pgs_cons (pg_name (i := 1) sc37.nd rfl (by first | exact Or.inl rfl | exact Or.inr rfl)) (pgs_cons (pg_name (i := 2) sc37.nd rfl (by first | exact Or.inl rfl | exact Or.inr rfl)) pgs_nil))) (pss_one (ps_for PassesOwn.never rfl (k_enumT K (by rfl) m_enumerate (pa_cons (pv 2) pa_nil)) (k_tuple K (n := 2) (pgs_cons (pg_name (i := 3) sc37.nd rfl (by first | exact Or.inl rfl | exact Or.inr rfl)) (pgs_cons (pg_name (i := 4) sc37.nd rfl (by first | exact Or.inl rfl | exact Or.inr rfl)) pgs_nil))) (pss_one (ps_if (pt_cmpR op_lt (pv 4) pe_int (nomark _)) (pss_one (ps_ret (pe_tupZ (pa_cons (pv 1) (pa_cons (pv 3) pa_nil))))) pss_nil))))) (pss_one (ps_ret pe_non)))) ?_) g F.kp (F.bindsN fun _ _ _ _ _ _ us hl => match us, hl with | [_], _ => rfl)
  rintro ⟨n, m, T⟩ ⟨W, hg⟩
  dsimp only at W hg
  have e1 : enumD ((gains n m T).map zT) = (gains n m T).zipIdx.map fun p => .tuple .p [iD p.2, zT p.1] := by
    unfold enumD
    rw [List.zipIdx_map]
    simp [iD, Function.comp_def]
  refine sd_for ((gains n m T).zipIdx) (fun p => .tuple .p [iD p.2, zT p.1]) (fun _ => True) (e1 ▸ w_enumT (a_cons (e_call (res := fun i : Nat × Nat × List (List Int) => tab (gains i.1 i.2.1 i.2.2)) (n, m, T) (a_cons (e_var rfl) a_nil) W) a_nil)) (fun a => g_tup2) trivial (fun i p hp _ => ?_) (fun _ => sd_ret e_non rfl)
  obtain ⟨row, k⟩ := p
  have hrow : row ∈ gains n m T := by
    have := List.mem_of_getElem? hp
    exact (List.mem_zipIdx this).2.2 ▸ List.getElem_mem _
  have e2 : enumD (row.map Dat.int) = row.zipIdx.map fun p => .tuple .p [iD p.2, Dat.int p.1] := by
    unfold enumD
    rw [List.zipIdx_map]
    simp [iD, Function.comp_def]
  refine Sd.one (sd_for row.zipIdx (fun p => .tuple .p [iD p.2, Dat.int p.1]) (fun _ => True) (e2 ▸ w_enumT (a_cons (e_var rfl) a_nil)) (fun a => g_tup2) trivial (fun j q hq _ => ?_) (fun _ => sd_next ?_))
  · obtain ⟨g, l⟩ := q
    have hgm : g ∈ row := by
      have := List.mem_of_getElem? hq
      exact (List.mem_zipIdx this).2.2 ▸ List.getElem_mem _
    have h0 : decide (g < 0) = false := decide_eq_false (by have := hg row hrow g hgm; omega)
    exact sd_need (T1.is (t_test (e_op (e_var rfl) (e_int 0) rd_lt)) h0) ⟨trivial, .cons _ (.cons _ (.cons _ (.drop _ (.drop _ (.refl _)))))⟩
  · exact ⟨trivial, .cons _ (.drop _ (.drop _ (.refl _)))⟩

theorem sc38 : FnScope ["table"] ["table"] (defScope (top 38)) := ⟨rfl, rfl, rfl, by decide +kernel, rfl, by decide +kernel, by decide +kernel⟩
abbrev sp_is_straight_table (K : PySem.W.Frag) : Sp := SpI K (ι := Nat × Nat × List (List Int)) (fun i => [tab i.2.2]) (fun i => Tb i.1 i.2.1 i.2.2 ∧ ∀ row ∈ gains i.1 i.2.1 i.2.2, ∀ g ∈ row, 0 ≤ g) (fun i d => d = .bool true)
theorem ok_is_straight_table (T : Top K mg h) : C8.Cal P w K mg base 5 "is_straight_table" (sp_is_straight_table K) [] := by
  have c_first_paying := ok_first_paying (P := P) (w := w) (base := base) T
  obtain ⟨fd, F⟩ := T.says.def_ 27 (d := dd38) rfl
  have g : mg "is_straight_table" = some (.ref (He.ga K "is_straight_table")) := He.glo_ok T.kin T.ns (T.says.fact 27 (f := .glo "is_straight_table") rfl)
  refine cal_mk (fn_ok F sc38 (fun i => rfl) (fun cdv A outer s H E hr => (pss_one (ps_ret (pe_cmpR op_isN (C8.pe_c c_first_paying hr (by decide) (by rfl) (pa_cons (pv 0) pa_nil)) pe_non (nomark _))))) ?_) g F.kp (F.bindsN fun _ _ _ _ _ _ us hl => match us, hl with | [_], _ => rfl)
  rintro ⟨n, m, T⟩ hk
  exact sd_ret (e_op (e_call (res := fun _ : Nat × Nat × List (List Int) => .none) (n, m, T) (a_cons (e_var rfl) a_nil) hk) e_non rd_isN) rfl

theorem sc39 : FnScope ["table", "column"] ["table"] (defScope (top 39)) := ⟨rfl, rfl, rfl, by decide +kernel, rfl, by decide +kernel, by decide +kernel⟩
abbrev sp_turned_table (K : PySem.W.Frag) : Sp := SpI K (ι := Nat × Nat × List (List Int)) (fun i => [tab i.2.2]) (fun i => Tb i.1 i.2.1 i.2.2) (fun i d => d = tab (turnT i.2.1 i.2.2))
theorem ok_turned_table (T : Top K mg h) : C8.Cal P w K mg base 2 "turned_table" (sp_turned_table K) [] := by
  have c_width := ok_width (P := P) (w := w) (base := base) T
  have c_column_of := ok_column_of (P := P) (w := w) (base := base) T
  have m_range := T.free 71 "range"
  have m_tuple := T.free 66 "tuple"
  obtain ⟨fd, F⟩ := T.says.def_ 28 (d := dd39) rfl
  have g : mg "turned_table" = some (.ref (He.ga K "turned_table")) := He.glo_ok T.kin T.ns (T.says.fact 28 (f := .glo "turned_table") rfl)
  refine cal_mk (fn_ok F sc39 (fun i => rfl) (fun cdv A outer s H E hr => (pss_one (ps_ret (pe_callTy (k_tupZ K) (by rfl) m_tuple (by decide +kernel) (pa_cons (pe_lc (own := [("column", 1)]) rfl sc39.nd (pi_range1 (by rfl) m_range (pa_cons (C8.pe_c c_width hr (by decide) (by rfl) (pa_cons (pv 0) pa_nil)) pa_nil)) (blkOk_by (by rfl)) (fun _ _ _ _ _ => (pg_name (i := 1) sc39.nd rfl (by first | exact Or.inl rfl | exact Or.inr rfl))) (fun _ _ _ _ _ => pts_nil) (fun _ _ _ _ _ => (C8.pe_c c_column_of hr (by decide) (by rfl) (pa_cons (pv 0) (pa_cons (pv 1) pa_nil))))) pa_nil))))) ?_) g F.kp (F.bindsN fun _ _ _ _ _ _ us hl => match us, hl with | [_], _ => rfl)
  rintro ⟨n, m, T⟩ W
  dsimp only at W
  have := W.m8
  exact sd_ret (e_cb (a_cons (e_lcm (List.range m) iD (w_rangeN (e_call (res := fun i : Nat × Nat × List (List Int) => .int (i.2.1 : Nat)) (n, m, T) (a_cons (e_var rfl) a_nil) W) (by omega)) (fun a => g_name 1) (by simp)
    (fun c hc => e_call (res := fun i : Nat × Nat × List (List Int) × Nat => zT (colOf i.2.2.1 i.2.2.2)) (n, m, T, c) (a_cons (e_var rfl) (a_cons (e_var rfl) a_nil)) ⟨W, by simpa using hc⟩) (by simp; omega)) a_nil) cd_tupZ) (by simp [tab, turnT])

theorem sc40 : FnScope ["table", "rows", "columns", "found", "row", "more", "entry", "above"] ["table", "rows", "columns"] (defScope (top 40)) := ⟨rfl, rfl, rfl, by decide +kernel, rfl, by decide +kernel, by decide +kernel⟩
abbrev sp_lifted_table (K : PySem.W.Frag) : Sp := SpI K (ι := Nat × Nat × List (List Int) × List Int × List Int) (fun i => [tab i.2.2.1, zT i.2.2.2.1, zT i.2.2.2.2]) (fun i => Tb i.1 i.2.1 i.2.2.1) (fun i d => d = tab (liftT i.2.2.1 i.2.2.2.1 i.2.2.2.2))
theorem ok_lifted_table (T : Top K mg h) : C8.Cal P w K mg base 1 "lifted_table" (sp_lifted_table K) [] := by
  have m_zip := T.free 70 "zip"
  have m_tuple := T.free 66 "tuple"
  obtain ⟨fd, F⟩ := T.says.def_ 29 (d := dd40) rfl
  have g : mg "lifted_table" = some (.ref (He.ga K "lifted_table")) := He.glo_ok T.kin T.ns (T.says.fact 29 (f := .glo "lifted_table") rfl)
  refine cal_mk (fn_ok F sc40 (fun i => rfl) (fun cdv A outer s H E hr => (pss_cons (ps_set (i := 3) sc40.nd rfl (by first | exact Or.inl rfl | exact Or.inr rfl) (pe_lst pa_nil)) (pss_cons (ps_for PassesOwn.never rfl (k_zip K (by rfl) m_zip (pa_cons (pv 0) (pa_cons (pv 1) pa_nil))) (k_tuple K (n := 2) (pgs_cons (pg_name (i := 4) sc40.nd rfl (by first | exact Or.inl rfl | exact Or.inr rfl)) (pgs_cons (pg_name (i := 5) sc40.nd rfl (by first | exact Or.inl rfl | exact Or.inr rfl)) pgs_nil))) (pss_one (ps_expr (k_bm K PySem.F.plainAttrs_list PySem.F.slot_list_append PySem.F.type_list_append mt_append (pv 3) (pa_cons (pe_callTy (k_tupZ K) (by rfl) m_tuple (by decide +kernel) (pa_cons (pe_lc (own := [("entry", 6), ("above", 7)]) rfl sc40.nd (k_zip K (by rfl) m_zip (pa_cons (pv 4) (pa_cons (pv 2) pa_nil))) (blkOk_by (by rfl)) (fun _ _ _ _ _ => (k_tuple K (n := 2) (pgs_cons (pg_name (i := 6) sc40.nd rfl (by first | exact Or.inl rfl | exact Or.inr rfl)) (pgs_cons (pg_name (i := 7) sc40.nd rfl (by first | exact Or.inl rfl | exact Or.inr rfl)) pgs_nil)))) (fun _ _ _ _ _ => pts_nil) (fun _ _ _ _ _ => (pe_op op_add (pe_op op_add (pv 6) (pv 5)) (pv 7)))) pa_nil)) pa_nil))))) (pss_one (ps_ret (pe_callTy (k_tupZ K) (by rfl) m_tuple (by decide +kernel) (pa_cons (pv 3) pa_nil))))))) ?_) g F.kp (F.bindsN fun _ _ _ _ _ _ us hl => match us, hl with | [_, _, _], _ => rfl)
  rintro ⟨n, m, T, more, less⟩ W
  dsimp only at W
  have h3 := W.n8
  have h4 := W.m8
  have z1 : zipD (T.map zT) (more.map Dat.int) = (T.zip more).map fun p => .tuple .p [zT p.1, .int p.2] := by
    unfold zipD
    rw [List.zip_map]
    simp [Function.comp_def]
  refine sd_gather (T.zip more) (fun p => .tuple .p [zT p.1, .int p.2]) (fun p => zT ((p.1.zip less).map fun q => q.1 + p.2 + q.2)) a_nil (fun p => z1 ▸ w_zipT (a_cons (e_var rfl) (a_cons (e_var rfl) a_nil))) (fun p a => g_tup2) (by have := W.rows; simp; omega) (fun p a ha => ?_) (sd_ret (e_cb (a_cons (e_var rfl) a_nil) cd_tupZ) (by simp [tab, liftT]))
  have z2 : zipD (a.1.map Dat.int) (less.map Dat.int) = (a.1.zip less).map fun p => .tuple .p [.int p.1, .int p.2] := by
    unfold zipD
    rw [List.zip_map]
    simp [Function.comp_def]
  have hl : a.1.length = m := W.cols _ (List.of_mem_zip ha).1
  refine ad_append (by omega) rfl (E1.is (e_cb (a_cons (e_lcm (a.1.zip less) (fun p => .tuple .p [.int p.1, .int p.2]) (z2 ▸ w_zipT (a_cons (e_var rfl) (a_cons (e_var rfl) a_nil))) (fun a => g_tup2) (by simp) (fun q _ => e_op (e_op (e_var rfl) (e_var rfl) rd_add) (e_var rfl) rd_add) (by simp; omega)) a_nil) cd_tupZ) (by simp [zT])) ?_ rfl
  exact .cons _ (.cons _ (.cons _ (.cons _ (.drop _ (.drop _ (.refl _))))))

theorem sc41 : FnScope ["table", "rows", "columns", "row", "column"] ["table", "rows", "columns"] (defScope (top 41)) := ⟨rfl, rfl, rfl, by decide +kernel, rfl, by decide +kernel, by decide +kernel⟩
abbrev sp_thinned_table (K : PySem.W.Frag) : Sp := SpI K (ι := List (List Int) × List Nat × List Nat) (fun i => [tab i.1, nT i.2.1, nT i.2.2])
  (fun i => ∃ n m, Rect n m i.1 ∧ (∀ r ∈ i.2.1, r < n) ∧ (∀ c ∈ i.2.2, c < m) ∧ i.2.1.length ≤ 1000 ∧ i.2.2.length ≤ 1000) (fun i d => d = tab (place i.1 i.2.1 i.2.2))
theorem ok_thinned_table (T : Top K mg h) : C8.Cal P w K mg base 1 "thinned_table" (sp_thinned_table K) [] := by
  have m_tuple := T.free 66 "tuple"
  obtain ⟨fd, F⟩ := T.says.def_ 30 (d := dd41) rfl
  have g : mg "thinned_table" = some (.ref (He.ga K "thinned_table")) := He.glo_ok T.kin T.ns (T.says.fact 30 (f := .glo "thinned_table") rfl)
  refine cal_mk (fn_ok F sc41 (fun i => rfl) (fun cdv A outer s H E hr => (pss_one (ps_ret (pe_callTy (k_tupZ K) (by rfl) m_tuple (by decide +kernel) (pa_cons (pe_lc (own := [("row", 3)]) rfl sc41.nd (k_piT K (pv 1)) (blkOk_by (by rfl)) (fun _ _ _ _ _ => (pg_name (i := 3) sc41.nd rfl (by first | exact Or.inl rfl | exact Or.inr rfl))) (fun _ _ _ _ _ => pts_nil) (fun _ _ _ _ _ => (pe_callTy (k_tupZ K) (by rfl) m_tuple (by decide +kernel) (pa_cons (pe_lc (own := [("column", 4)]) rfl sc41.nd (k_piT K (pv 2)) (blkOk_by (by rfl)) (fun _ _ _ _ _ => (pg_name (i := 4) sc41.nd rfl (by first | exact Or.inl rfl | exact Or.inr rfl))) (fun _ _ _ _ _ => pts_nil) (fun _ _ _ _ _ => (pe_ix (k_ixT K) (pe_ix (k_ixT K) (pv 0) (pv 3) (fun _ _ => rfl)) (pv 4) (fun _ _ => rfl)))) pa_nil)))) pa_nil))))) ?_) g F.kp (F.bindsN fun _ _ _ _ _ _ us hl => match us, hl with | [_, _, _], _ => rfl)
  rintro ⟨T, rows, cols⟩ ⟨n, m, R, hr, hc, lr, lc⟩
  dsimp only at R hr hc lr lc
  exact sd_ret (e_cb (a_cons (e_lcm rows iD (w_tup (e_var rfl)) (fun a => g_name 3) (by simp) (fun a ha => e_cb (a_cons (e_lcm cols iD (w_tup (e_var rfl)) (fun c => g_name 4) (by simp)
    (fun c hc' => e_en R (e_var rfl) (e_var rfl) (e_var rfl) (hr a ha) (hc c hc')) (by omega)) a_nil) cd_tupZ) (by omega)) a_nil) cd_tupZ) (by simp [tab, place, zT])

theorem sc44 : FnScope ["thing", "row"] ["thing"] (defScope (top 44)) := ⟨rfl, rfl, rfl, by decide +kernel, rfl, by decide +kernel, by decide +kernel⟩
abbrev sp_is_table_form (K : PySem.W.Frag) : Sp := SpI K (ι := Nat × Nat × List (List Int)) (fun i => [tab i.2.2]) (fun i => Tb i.1 i.2.1 i.2.2) (fun i d => d = .bool true)
theorem ok_is_table_form (T : Top K mg h) : C8.Cal P w K mg base 3 "is_table_form" (sp_is_table_form K) [] := by
  have c_is_row_of := ok_is_row_of (P := P) (w := w) (base := base) T
  have c_are_integers := ok_are_integers (P := P) (w := w) (base := base) T
  have m_all := T.free 68 "all"
  have m_len := T.free 67 "len"
  obtain ⟨t_MOST_ROWS, k_MOST_ROWS⟩ := T.int 78 "MOST_ROWS" 8
  obtain ⟨fd, F⟩ := T.says.def_ 31 (d := dd44) rfl
  have g : mg "is_table_form" = some (.ref (He.ga K "is_table_form")) := He.glo_ok T.kin T.ns (T.says.fact 31 (f := .glo "is_table_form") rfl)
  refine cal_mk (fn_ok F sc44 (fun i => rfl) (fun cdv A outer s H E hr => (pss_cons (ps_if (PW.pt (pw_or (pt_not (pt_val (C8.pe_c c_is_row_of hr (by decide) (by rfl) (pa_cons (pv 0) (pa_cons pe_int (pa_cons (pe_glob (v := .int 8) (by rfl) k_MOST_ROWS ⟨_, rfl⟩) pa_nil)))))) (pw_or1 (pt_not (pt_val (C8.pe_c c_is_row_of hr (by decide) (by rfl) (pa_cons (pe_ix (k_ixT K) (pv 0) pe_int (fun _ _ => rfl)) (pa_cons pe_int (pa_cons (pe_glob (v := .int 8) (by rfl) k_MOST_ROWS ⟨_, rfl⟩) pa_nil))))))))) (pss_one (ps_ret pe_bl)) pss_nil) (pss_one (ps_ret (pe_callB (k_all K) (by rfl) m_all (by decide +kernel) (pa_cons (pe_lc (own := [("row", 1)]) rfl sc44.nd (k_piT K (pv 0)) (blkOk_by (by rfl)) (fun _ _ _ _ _ => (pg_name (i := 1) sc44.nd rfl (by first | exact Or.inl rfl | exact Or.inr rfl))) (fun _ _ _ _ _ => pts_nil) (fun _ _ _ _ _ => (C8.pe_c c_are_integers hr (by decide) (by rfl) (pa_cons (pv 1) (pa_cons (pe_callB (k_len K) (by rfl) m_len PySem.boot_len (pa_cons (pe_ix (k_ixT K) (pv 0) pe_int (fun _ _ => rfl)) pa_nil)) pa_nil))))) pa_nil)))))) ?_) g F.kp (F.bindsN fun _ _ _ _ _ _ us hl => match us, hl with | [_], _ => rfl)
  rintro ⟨n, m, T⟩ W
  dsimp only at W
  have h1 := W.n1
  have h2 := W.m1
  have h3 := W.n8
  have h4 := W.m8
  have e0 : ∀ {δ : Sl}, δ[0]? = some (some (.d (tab T))) → E1 K (tOp (rIxT K) (tVar 0) (tC (.int 0))) δ (zT (T.getD 0 [])) := fun h => e_op (e_var h) (e_int 0) (rd_ixT (at_tab W.toRect (r := 0) W.n1))
  have l0 := row_len W.toRect (r := 0) W.n1
  refine sd_skip (t_or (a := false) (b := false) (T1.is (t_not (t_B (e_call (res := fun _ => .bool true) (T.map zT, 1, 8) (a_cons (e_var rfl) (a_cons (e_int 1) (a_cons (e_int 8) a_nil))) (by have := W.rows; dsimp only; rw [List.length_map]; omega)))) rfl)
    fun _ => T1.is (t_not (t_B (e_call (res := fun _ => .bool true) ((T.getD 0 []).map Dat.int, 1, 8) (a_cons (e0 rfl) (a_cons (e_int 1) (a_cons (e_int 8) a_nil))) (by dsimp only; rw [List.length_map]; omega)))) rfl) ?_
  refine sd_ret (e_cb (a_cons (e_lcm T zT (w_tup (e_var rfl)) (fun a => g_name 1) (by simp) (fun row hr => e_call' (res := fun _ => .bool true) row (a_cons (e_var rfl) (a_cons (e_len (n := m) (e0 rfl) (by rw [List.length_map]; exact l0)) a_nil)) (by rw [W.cols row hr]) (by have := W.cols row hr; omega) rfl) (by have := W.rows; omega)) a_nil) cd_allT) rfl

theorem sc45 : FnScope ["table"] ["table"] (defScope (top 45)) := ⟨rfl, rfl, rfl, by decide +kernel, rfl, by decide +kernel, by decide +kernel⟩
abbrev sp_need_table (K : PySem.W.Frag) : Sp := SpI K (ι := Nat × Nat × List (List Int)) (fun i => [tab i.2.2]) (fun i => Tb i.1 i.2.1 i.2.2) (fun i d => d = .none)
theorem ok_need_table (T : Top K mg h) : C8.Cal P w K mg base 4 "need_table" (sp_need_table K) [] := by
  have c_is_table_form := ok_is_table_form (P := P) (w := w) (base := base) T
  obtain ⟨fd, F⟩ := T.says.def_ 32 (d := dd45) rfl
  have g : mg "need_table" = some (.ref (He.ga K "need_table")) := He.glo_ok T.kin T.ns (T.says.fact 32 (f := .glo "need_table") rfl)
  refine cal_mk (fn_ok F sc45 (fun i => rfl) (fun cdv A outer s H E hr => (pss_one (ps_if (pt_not (pt_val (C8.pe_c c_is_table_form hr (by decide) (by rfl) (pa_cons (pv 0) pa_nil)))) (pss_one (ps_never)) pss_nil))) ?_) g F.kp (F.bindsN fun _ _ _ _ _ _ us hl => match us, hl with | [_], _ => rfl)
  rintro ⟨n, m, T⟩ W
  exact sd_need (T1.is (t_not (t_B (e_call (res := fun _ => .bool true) (n, m, T) (a_cons (e_var rfl) a_nil) W))) rfl) rfl

theorem sc46 : FnScope ["indexes", "count"] ["indexes", "count"] (defScope (top 46)) := ⟨rfl, rfl, rfl, by decide +kernel, rfl, by decide +kernel, by decide +kernel⟩
abbrev sp_need_indexes (K : PySem.W.Frag) : Sp := SpI K (ι := List Nat × Nat) (fun i => [nT i.1, .int (i.2 : Nat)]) (fun i => i.2 ≤ 1000 ∧ 1 ≤ i.1.length ∧ i.1.length ≤ i.2 ∧ (∀ x ∈ i.1, x < i.2) ∧ i.1.Pairwise (· < ·)) (fun _ d => d = .none)
theorem ok_need_indexes (T : Top K mg h) : C8.Cal P w K mg base 5 "need_indexes" (sp_need_indexes K) [] := by
  have c_are_indexes := ok_are_indexes (P := P) (w := w) (base := base) T
  obtain ⟨fd, F⟩ := T.says.def_ 33 (d := dd46) rfl
  have g : mg "need_indexes" = some (.ref (He.ga K "need_indexes")) := He.glo_ok T.kin T.ns (T.says.fact 33 (f := .glo "need_indexes") rfl)
  refine cal_mk (fn_ok F sc46 (fun i => rfl) (fun cdv A outer s H E hr => (pss_one (ps_if (pt_not (pt_val (C8.pe_c c_are_indexes hr (by decide) (by rfl) (pa_cons (pv 0) (pa_cons (pv 1) pa_nil))))) (pss_one (ps_never)) pss_nil))) ?_) g F.kp (F.bindsN fun _ _ _ _ _ _ us hl => match us, hl with | [_, _], _ => rfl)
  rintro ⟨l, n⟩ hk
  exact sd_need (T1.is (t_not (t_B (e_call (res := fun _ => .bool true) (l, n) (a_cons (e_var rfl) (a_cons (e_var rfl) a_nil)) hk))) rfl) rfl

theorem sc66 : FnScope ["numbers", "many"] ["numbers", "many"] (defScope (top 66)) := ⟨rfl, rfl, rfl, by decide +kernel, rfl, by decide +kernel, by decide +kernel⟩
abbrev sp_need_numbers (K : PySem.W.Frag) : Sp := SpI K (ι := List Int) (fun l => [zT l, .int (l.length : Nat)]) (fun l => l.length ≤ 1000) (fun _ d => d = .none)
theorem ok_need_numbers (T : Top K mg h) : C8.Cal P w K mg base 3 "need_numbers" (sp_need_numbers K) [] := by
  have c_are_integers := ok_are_integers (P := P) (w := w) (base := base) T
  obtain ⟨fd, F⟩ := T.says.def_ 46 (d := dd66) rfl
  have g : mg "need_numbers" = some (.ref (He.ga K "need_numbers")) := He.glo_ok T.kin T.ns (T.says.fact 46 (f := .glo "need_numbers") rfl)
  refine cal_mk (fn_ok F sc66 (fun i => rfl) (fun cdv A outer s H E hr => (pss_one (ps_if (pt_not (pt_val (C8.pe_c c_are_integers hr (by decide) (by rfl) (pa_cons (pv 0) (pa_cons (pv 1) pa_nil))))) (pss_one (ps_never)) pss_nil))) ?_) g F.kp (F.bindsN fun _ _ _ _ _ _ us hl => match us, hl with | [_, _], _ => rfl)
  intro l hk
  exact sd_need (T1.is (t_not (t_B (e_call (res := fun _ => .bool true) l (a_cons (e_var rfl) (a_cons (e_var rfl) a_nil)) hk))) rfl) rfl

theorem sc50 : FnScope ["table", "rows", "columns"] ["table", "rows", "columns"] (defScope (top 50)) := ⟨rfl, rfl, rfl, by decide +kernel, rfl, by decide +kernel, by decide +kernel⟩
abbrev sp_need_order (K : PySem.W.Frag) : Sp := SpI K (ι := Nat × Nat × List (List Int) × List Nat × List Nat) (fun i => [tab i.2.2.1, nT i.2.2.2.1, nT i.2.2.2.2]) (fun i => Tb i.1 i.2.1 i.2.2.1 ∧ i.2.2.2.1.Perm (List.range i.1) ∧ i.2.2.2.2.Perm (List.range i.2.1)) (fun _ d => d = .none)
theorem ok_need_order (T : Top K mg h) : C8.Cal P w K mg base 5 "need_order" (sp_need_order K) [] := by
  have c_need_table := ok_need_table (P := P) (w := w) (base := base) T
  have c_is_sequence := ok_is_sequence (P := P) (w := w) (base := base) T
  have m_len := T.free 67 "len"
  obtain ⟨fd, F⟩ := T.says.def_ 34 (d := dd50) rfl
  have g : mg "need_order" = some (.ref (He.ga K "need_order")) := He.glo_ok T.kin T.ns (T.says.fact 34 (f := .glo "need_order") rfl)
  refine cal_mk (fn_ok F sc50 (fun i => rfl) (fun cdv A outer s H E hr => (pss_cons (ps_expr (C8.pe_c c_need_table hr (by decide) (by rfl) (pa_cons (pv 0) pa_nil))) (pss_cons (ps_if (pt_not (pt_val (C8.pe_c c_is_sequence hr (by decide) (by rfl) (pa_cons (pv 1) (pa_cons (pe_callB (k_len K) (by rfl) m_len PySem.boot_len (pa_cons (pv 0) pa_nil)) pa_nil))))) (pss_one (ps_never)) pss_nil) (pss_one (ps_if (pt_not (pt_val (C8.pe_c c_is_sequence hr (by decide) (by rfl) (pa_cons (pv 2) (pa_cons (pe_callB (k_len K) (by rfl) m_len PySem.boot_len (pa_cons (pe_ix (k_ixT K) (pv 0) pe_int (fun _ _ => rfl)) pa_nil)) pa_nil))))) (pss_one (ps_never)) pss_nil))))) ?_) g F.kp (F.bindsN fun _ _ _ _ _ _ us hl => match us, hl with | [_, _, _], _ => rfl)
  rintro ⟨n, m, T, r, c⟩ ⟨W, hr, hc⟩
  dsimp only at W hr hc
  have h3 := W.n8
  have h4 := W.m8
  exact sd_drop (E1.er (e_call (res := fun _ => .none) (n, m, T) (a_cons (e_var rfl) a_nil) W) trivial) (sd_skip (T1.is (t_not (t_B (e_call (res := fun _ => .bool true) (r, n) (a_cons (e_var rfl) (a_cons (e_len (e_var rfl) (by rw [List.length_map]; exact W.rows)) a_nil)) ⟨by dsimp only; omega, hr⟩))) rfl)
    (sd_need (T1.is (t_not (t_B (e_call (res := fun _ => .bool true) (c, m) (a_cons (e_var rfl) (a_cons (e_len (e_op (e_var rfl) (e_int 0) (rd_ixT (at_tab W.toRect (r := 0) W.n1))) (by rw [List.length_map]; exact row_len W.toRect W.n1)) a_nil)) ⟨by dsimp only; omega, hc⟩))) rfl) rfl))

theorem sc51 : FnScope ["table", "most"] ["table", "most"] (defScope (top 51)) := ⟨rfl, rfl, rfl, by decide +kernel, rfl, by decide +kernel, by decide +kernel⟩
abbrev sp_need_few (K : PySem.W.Frag) : Sp := SpI K (ι := Nat × Nat × List (List Int) × Nat) (fun i => [tab i.2.2.1, .int (i.2.2.2 : Nat)]) (fun i => Tb i.1 i.2.1 i.2.2.1 ∧ i.1 ≤ i.2.2.2 ∧ i.2.1 ≤ i.2.2.2) (fun _ d => d = .none)
theorem ok_need_few (T : Top K mg h) : C8.Cal P w K mg base 1 "need_few" (sp_need_few K) [] := by
  have m_max := T.free 76 "max"
  have m_len := T.free 67 "len"
  obtain ⟨fd, F⟩ := T.says.def_ 35 (d := dd51) rfl
  have g : mg "need_few" = some (.ref (He.ga K "need_few")) := He.glo_ok T.kin T.ns (T.says.fact 35 (f := .glo "need_few") rfl)
  refine cal_mk (fn_ok F sc51 (fun i => rfl) (fun cdv A outer s H E hr => (pss_one (ps_if (pt_cmpR op_gt (pe_callB (call_max2 rfl) (by rfl) m_max (by decide +kernel) (pa_cons (pe_callB (k_len K) (by rfl) m_len PySem.boot_len (pa_cons (pv 0) pa_nil)) (pa_cons (pe_callB (k_len K) (by rfl) m_len PySem.boot_len (pa_cons (pe_ix (k_ixT K) (pv 0) pe_int (fun _ _ => rfl)) pa_nil)) pa_nil))) (pv 1) (nomark _)) (pss_one (ps_never)) pss_nil))) ?_) g F.kp (F.bindsN fun _ _ _ _ _ _ us hl => match us, hl with | [_, _], _ => rfl)
  rintro ⟨n, m, T, k⟩ ⟨W, hn, hm⟩
  dsimp only at W hn hm
  exact sd_need (T1.is (t_test (e_op (e_cb (a_cons (e_len (n := n) (e_var rfl) (by rw [List.length_map]; exact W.rows)) (a_cons (e_len (n := m) (e_op (e_var rfl) (e_int 0) (rd_ixT (at_tab W.toRect (r := 0) W.n1))) (by rw [List.length_map]; exact row_len W.toRect W.n1)) a_nil)) cd_max2) (e_var rfl) rd_gt)) (decide_eq_false (by dsimp only; split <;> omega))) rfl

theorem sc52 : FnScope ["table", "rows", "columns"] ["table", "rows", "columns"] (defScope (top 52)) := ⟨rfl, rfl, rfl, by decide +kernel, rfl, by decide +kernel, by decide +kernel⟩
abbrev sp_is_order_for (K : PySem.W.Frag) : Sp := SpI K (ι := Nat × Nat × List (List Int) × List Nat × List Nat) (fun i => [tab i.2.2.1, nT i.2.2.2.1, nT i.2.2.2.2]) (fun i => Tb i.1 i.2.1 i.2.2.1 ∧ i.2.2.2.1.Perm (List.range i.1) ∧ i.2.2.2.2.Perm (List.range i.2.1)) (fun i d => d = .bool (plainB i.1 i.2.1 (place i.2.2.1 i.2.2.2.1 i.2.2.2.2)))
theorem ok_is_order_for (T : Top K mg h) : C8.Cal P w K mg base 6 "is_order_for" (sp_is_order_for K) [] := by
  have c_need_order := ok_need_order (P := P) (w := w) (base := base) T
  have c_is_plain := ok_is_plain (P := P) (w := w) (base := base) T
  have c_in_sequence := ok_in_sequence (P := P) (w := w) (base := base) T
  obtain ⟨fd, F⟩ := T.says.def_ 36 (d := dd52) rfl
  have g : mg "is_order_for" = some (.ref (He.ga K "is_order_for")) := He.glo_ok T.kin T.ns (T.says.fact 36 (f := .glo "is_order_for") rfl)
  refine cal_mk (fn_ok F sc52 (fun i => rfl) (fun cdv A outer s H E hr => (pss_cons (ps_expr (C8.pe_c c_need_order hr (by decide) (by rfl) (pa_cons (pv 0) (pa_cons (pv 1) (pa_cons (pv 2) pa_nil))))) (pss_one (ps_ret (C8.pe_c c_is_plain hr (by decide) (by rfl) (pa_cons (C8.pe_c c_in_sequence hr (by decide) (by rfl) (pa_cons (pv 0) (pa_cons (pv 1) (pa_cons (pv 2) pa_nil)))) pa_nil)))))) ?_) g F.kp (F.bindsN fun _ _ _ _ _ _ us hl => match us, hl with | [_, _, _], _ => rfl)
  rintro ⟨n, m, T, r, c⟩ ⟨W, hr, hc⟩
  dsimp only at W hr hc
  have h3 := W.n8
  have h4 := W.m8
  have lr : r.length = n := by have := hr.length_eq; simpa using this
  have lc : c.length = m := by have := hc.length_eq; simpa using this
  have W2 : Tb n m (place T r c) := ⟨by have := place_rect (T := T) (rows := r) (cols := c); rwa [lr, lc] at this, W.n1, W.n8, W.m1, W.m8⟩
  exact sd_drop (E1.er (e_call (res := fun _ => .none) (n, m, T, r, c) (a_cons (e_var rfl) (a_cons (e_var rfl) (a_cons (e_var rfl) a_nil))) ⟨W, hr, hc⟩) trivial) (sd_ret (e_call (res := fun i : Nat × Nat × List (List Int) => .bool (plainB i.1 i.2.1 i.2.2)) (n, m, place T r c)
    (a_cons (e_call (res := fun i : List (List Int) × List Nat × List Nat => tab (place i.1 i.2.1 i.2.2)) (T, r, c) (a_cons (e_var rfl) (a_cons (e_var rfl) (a_cons (e_var rfl) a_nil))) ⟨n, m, W.toRect, fun x hx => by simpa using hr.mem_iff.mp hx, fun x hx => by simpa using hc.mem_iff.mp hx, by dsimp only; omega, by dsimp only; omega⟩) a_nil) W2) rfl)

theorem sc53 : FnScope ["table", "rows", "columns"] ["table", "rows", "columns"] (defScope (top 53)) := ⟨rfl, rfl, rfl, by decide +kernel, rfl, by decide +kernel, by decide +kernel⟩
abbrev sp_reordered (K : PySem.W.Frag) : Sp := SpI K (ι := Nat × Nat × List (List Int) × List Nat × List Nat) (fun i => [tab i.2.2.1, nT i.2.2.2.1, nT i.2.2.2.2]) (fun i => Tb i.1 i.2.1 i.2.2.1 ∧ i.2.2.2.1.Perm (List.range i.1) ∧ i.2.2.2.2.Perm (List.range i.2.1)) (fun i d => d = tab (place i.2.2.1 i.2.2.2.1 i.2.2.2.2))
theorem ok_reordered (T : Top K mg h) : C8.Cal P w K mg base 6 "reordered" (sp_reordered K) [] := by
  have c_need_order := ok_need_order (P := P) (w := w) (base := base) T
  have c_in_sequence := ok_in_sequence (P := P) (w := w) (base := base) T
  obtain ⟨fd, F⟩ := T.says.def_ 37 (d := dd53) rfl
  have g : mg "reordered" = some (.ref (He.ga K "reordered")) := He.glo_ok T.kin T.ns (T.says.fact 37 (f := .glo "reordered") rfl)
  refine cal_mk (fn_ok F sc53 (fun i => rfl) (fun cdv A outer s H E hr => (pss_cons (ps_expr (C8.pe_c c_need_order hr (by decide) (by rfl) (pa_cons (pv 0) (pa_cons (pv 1) (pa_cons (pv 2) pa_nil))))) (pss_one (ps_ret (C8.pe_c c_in_sequence hr (by decide) (by rfl) (pa_cons (pv 0) (pa_cons (pv 1) (pa_cons (pv 2) pa_nil)))))))) ?_) g F.kp (F.bindsN fun _ _ _ _ _ _ us hl => match us, hl with | [_, _, _], _ => rfl)
  rintro ⟨n, m, T, r, c⟩ ⟨W, hr, hc⟩
  dsimp only at W hr hc
  have h3 := W.n8
  have h4 := W.m8
  have lr : r.length = n := by have := hr.length_eq; simpa using this
  have lc : c.length = m := by have := hc.length_eq; simpa using this
  exact sd_drop (E1.er (e_call (res := fun _ => .none) (n, m, T, r, c) (a_cons (e_var rfl) (a_cons (e_var rfl) (a_cons (e_var rfl) a_nil))) ⟨W, hr, hc⟩) trivial) (sd_ret (e_call (res := fun i : List (List Int) × List Nat × List Nat => tab (place i.1 i.2.1 i.2.2)) (T, r, c) (a_cons (e_var rfl) (a_cons (e_var rfl) (a_cons (e_var rfl) a_nil))) ⟨n, m, W.toRect, fun x hx => by simpa using hr.mem_iff.mp hx, fun x hx => by simpa using hc.mem_iff.mp hx, by dsimp only; omega, by dsimp only; omega⟩) rfl)

theorem sc65 : FnScope ["table"] ["table"] (defScope (top 65)) := ⟨rfl, rfl, rfl, by decide +kernel, rfl, by decide +kernel, by decide +kernel⟩
abbrev sp_is_straight (K : PySem.W.Frag) : Sp := SpI K (ι := Nat × Nat × List (List Int)) (fun i => [tab i.2.2]) (fun i => Tb i.1 i.2.1 i.2.2 ∧ ∀ row ∈ gains i.1 i.2.1 i.2.2, ∀ g ∈ row, 0 ≤ g) (fun i d => d = .bool true)
theorem ok_is_straight (T : Top K mg h) : C8.Cal P w K mg base 6 "is_straight" (sp_is_straight K) [] := by
  have c_need_table := ok_need_table (P := P) (w := w) (base := base) T
  have c_is_straight_table := ok_is_straight_table (P := P) (w := w) (base := base) T
  obtain ⟨fd, F⟩ := T.says.def_ 45 (d := dd65) rfl
  have g : mg "is_straight" = some (.ref (He.ga K "is_straight")) := He.glo_ok T.kin T.ns (T.says.fact 45 (f := .glo "is_straight") rfl)
  refine cal_mk (fn_ok F sc65 (fun i => rfl) (fun cdv A outer s H E hr => (pss_cons (ps_expr (C8.pe_c c_need_table hr (by decide) (by rfl) (pa_cons (pv 0) pa_nil))) (pss_one (ps_ret (C8.pe_c c_is_straight_table hr (by decide) (by rfl) (pa_cons (pv 0) pa_nil)))))) ?_) g F.kp (F.bindsN fun _ _ _ _ _ _ us hl => match us, hl with | [_], _ => rfl)
  rintro ⟨n, m, T⟩ hk
  exact sd_drop (E1.er (e_call (res := fun _ => .none) (n, m, T) (a_cons (e_var rfl) a_nil) hk.1) trivial) (sd_ret (e_call (res := fun _ : Nat × Nat × List (List Int) => .bool true) (n, m, T) (a_cons (e_var rfl) a_nil) hk) rfl)

theorem sc67 : FnScope ["table", "rows", "columns"] ["table", "rows", "columns"] (defScope (top 67)) := ⟨rfl, rfl, rfl, by decide +kernel, rfl, by decide +kernel, by decide +kernel⟩
abbrev sp_lifted (K : PySem.W.Frag) : Sp := SpI K (ι := Nat × Nat × List (List Int) × List Int × List Int) (fun i => [tab i.2.2.1, zT i.2.2.2.1, zT i.2.2.2.2]) (fun i => Tb i.1 i.2.1 i.2.2.1 ∧ i.2.2.2.1.length = i.1 ∧ i.2.2.2.2.length = i.2.1) (fun i d => d = tab (liftT i.2.2.1 i.2.2.2.1 i.2.2.2.2))
theorem ok_lifted (T : Top K mg h) : C8.Cal P w K mg base 5 "lifted" (sp_lifted K) [] := by
  have c_need_table := ok_need_table (P := P) (w := w) (base := base) T
  have c_need_numbers := ok_need_numbers (P := P) (w := w) (base := base) T
  have c_width := ok_width (P := P) (w := w) (base := base) T
  have c_lifted_table := ok_lifted_table (P := P) (w := w) (base := base) T
  have m_len := T.free 67 "len"
  obtain ⟨fd, F⟩ := T.says.def_ 47 (d := dd67) rfl
  have g : mg "lifted" = some (.ref (He.ga K "lifted")) := He.glo_ok T.kin T.ns (T.says.fact 47 (f := .glo "lifted") rfl)
  refine cal_mk (fn_ok F sc67 (fun i => rfl) (fun cdv A outer s H E hr => (pss_cons (ps_expr (C8.pe_c c_need_table hr (by decide) (by rfl) (pa_cons (pv 0) pa_nil))) (pss_cons (ps_expr (C8.pe_c c_need_numbers hr (by decide) (by rfl) (pa_cons (pv 1) (pa_cons (pe_callB (k_len K) (by rfl) m_len PySem.boot_len (pa_cons (pv 0) pa_nil)) pa_nil)))) (pss_cons (ps_expr (C8.pe_c c_need_numbers hr (by decide) (by rfl) (pa_cons (pv 2) (pa_cons (C8.pe_c c_width hr (by decide) (by rfl) (pa_cons (pv 0) pa_nil)) pa_nil)))) (pss_one (ps_ret (C8.pe_c c_lifted_table hr (by decide) (by rfl) (pa_cons (pv 0) (pa_cons (pv 1) (pa_cons (pv 2) pa_nil)))))))))) ?_) g F.kp (F.bindsN fun _ _ _ _ _ _ us hl => match us, hl with | [_, _, _], _ => rfl)
  rintro ⟨n, m, T, more, less⟩ ⟨W, lm, ll⟩
  dsimp only at W lm ll
  have h3 := W.n8
  have h4 := W.m8
  exact sd_drop (E1.er (e_call (res := fun _ => .none) (n, m, T) (a_cons (e_var rfl) a_nil) W) trivial) (sd_drop (E1.er (e_call' (res := fun _ => .none) more (a_cons (e_var rfl) (a_cons (e_len (n := n) (e_var rfl) (by rw [List.length_map]; exact W.rows)) a_nil)) (by rw [lm]) (by omega) rfl) trivial)
    (sd_drop (E1.er (e_call' (res := fun _ => .none) less (a_cons (e_var rfl) (a_cons (e_call (res := fun i : Nat × Nat × List (List Int) => .int (i.2.1 : Nat)) (n, m, T) (a_cons (e_var rfl) a_nil) W) a_nil)) (by rw [ll]) (by omega) rfl) trivial)
    (sd_ret (e_call (res := fun i : Nat × Nat × List (List Int) × List Int × List Int => tab (liftT i.2.2.1 i.2.2.2.1 i.2.2.2.2)) (n, m, T, more, less) (a_cons (e_var rfl) (a_cons (e_var rfl) (a_cons (e_var rfl) a_nil))) W) rfl)))

theorem sc68 : FnScope ["table"] ["table"] (defScope (top 68)) := ⟨rfl, rfl, rfl, by decide +kernel, rfl, by decide +kernel, by decide +kernel⟩
abbrev sp_turned (K : PySem.W.Frag) : Sp := SpI K (ι := Nat × Nat × List (List Int)) (fun i => [tab i.2.2]) (fun i => Tb i.1 i.2.1 i.2.2) (fun i d => d = tab (turnT i.2.1 i.2.2))
theorem ok_turned (T : Top K mg h) : C8.Cal P w K mg base 5 "turned" (sp_turned K) [] := by
  have c_need_table := ok_need_table (P := P) (w := w) (base := base) T
  have c_turned_table := ok_turned_table (P := P) (w := w) (base := base) T
  obtain ⟨fd, F⟩ := T.says.def_ 48 (d := dd68) rfl
  have g : mg "turned" = some (.ref (He.ga K "turned")) := He.glo_ok T.kin T.ns (T.says.fact 48 (f := .glo "turned") rfl)
  refine cal_mk (fn_ok F sc68 (fun i => rfl) (fun cdv A outer s H E hr => (pss_cons (ps_expr (C8.pe_c c_need_table hr (by decide) (by rfl) (pa_cons (pv 0) pa_nil))) (pss_one (ps_ret (C8.pe_c c_turned_table hr (by decide) (by rfl) (pa_cons (pv 0) pa_nil)))))) ?_) g F.kp (F.bindsN fun _ _ _ _ _ _ us hl => match us, hl with | [_], _ => rfl)
  rintro ⟨n, m, T⟩ W
  exact sd_drop (E1.er (e_call (res := fun _ => .none) (n, m, T) (a_cons (e_var rfl) a_nil) W) trivial) (sd_ret (e_call (res := fun i : Nat × Nat × List (List Int) => tab (turnT i.2.1 i.2.2)) (n, m, T) (a_cons (e_var rfl) a_nil) W) rfl)

theorem sc69 : FnScope ["table", "rows", "columns"] ["table", "rows", "columns"] (defScope (top 69)) := ⟨rfl, rfl, rfl, by decide +kernel, rfl, by decide +kernel, by decide +kernel⟩
abbrev sp_thinned (K : PySem.W.Frag) : Sp := SpI K (ι := Nat × Nat × List (List Int) × List Nat × List Nat) (fun i => [tab i.2.2.1, nT i.2.2.2.1, nT i.2.2.2.2])
  (fun i => Tb i.1 i.2.1 i.2.2.1 ∧ (1 ≤ i.2.2.2.1.length ∧ i.2.2.2.1.length ≤ i.1 ∧ (∀ x ∈ i.2.2.2.1, x < i.1) ∧ i.2.2.2.1.Pairwise (· < ·)) ∧ (1 ≤ i.2.2.2.2.length ∧ i.2.2.2.2.length ≤ i.2.1 ∧ (∀ x ∈ i.2.2.2.2, x < i.2.1) ∧ i.2.2.2.2.Pairwise (· < ·))) (fun i d => d = tab (place i.2.2.1 i.2.2.2.1 i.2.2.2.2))
theorem ok_thinned (T : Top K mg h) : C8.Cal P w K mg base 6 "thinned" (sp_thinned K) [] := by
  have c_need_table := ok_need_table (P := P) (w := w) (base := base) T
  have c_need_indexes := ok_need_indexes (P := P) (w := w) (base := base) T
  have c_width := ok_width (P := P) (w := w) (base := base) T
  have c_thinned_table := ok_thinned_table (P := P) (w := w) (base := base) T
  have m_len := T.free 67 "len"
  obtain ⟨fd, F⟩ := T.says.def_ 49 (d := dd69) rfl
  have g : mg "thinned" = some (.ref (He.ga K "thinned")) := He.glo_ok T.kin T.ns (T.says.fact 49 (f := .glo "thinned") rfl)
  refine cal_mk (fn_ok F sc69 (fun i => rfl) (fun cdv A outer s H E hr => (pss_cons (ps_expr (C8.pe_c c_need_table hr (by decide) (by rfl) (pa_cons (pv 0) pa_nil))) (pss_cons (ps_expr (C8.pe_c c_need_indexes hr (by decide) (by rfl) (pa_cons (pv 1) (pa_cons (pe_callB (k_len K) (by rfl) m_len PySem.boot_len (pa_cons (pv 0) pa_nil)) pa_nil)))) (pss_cons (ps_expr (C8.pe_c c_need_indexes hr (by decide) (by rfl) (pa_cons (pv 2) (pa_cons (C8.pe_c c_width hr (by decide) (by rfl) (pa_cons (pv 0) pa_nil)) pa_nil)))) (pss_one (ps_ret (C8.pe_c c_thinned_table hr (by decide) (by rfl) (pa_cons (pv 0) (pa_cons (pv 1) (pa_cons (pv 2) pa_nil)))))))))) ?_) g F.kp (F.bindsN fun _ _ _ _ _ _ us hl => match us, hl with | [_, _, _], _ => rfl)
  rintro ⟨n, m, T, r, c⟩ ⟨W, ⟨r1, r2, r3, r4⟩, ⟨c1, c2, c3, c4⟩⟩
  dsimp only at W r1 r2 r3 r4 c1 c2 c3 c4
  have h3 := W.n8
  have h4 := W.m8
  exact sd_drop (E1.er (e_call (res := fun _ => .none) (n, m, T) (a_cons (e_var rfl) a_nil) W) trivial) (sd_drop (E1.er (e_call (res := fun _ => .none) (r, n) (a_cons (e_var rfl) (a_cons (e_len (e_var rfl) (by rw [List.length_map]; exact W.rows)) a_nil)) ⟨by dsimp only; omega, r1, r2, r3, r4⟩) trivial)
    (sd_drop (E1.er (e_call (res := fun _ => .none) (c, m) (a_cons (e_var rfl) (a_cons (e_call (res := fun i : Nat × Nat × List (List Int) => .int (i.2.1 : Nat)) (n, m, T) (a_cons (e_var rfl) a_nil) W) a_nil)) ⟨by dsimp only; omega, c1, c2, c3, c4⟩) trivial)
    (sd_ret (e_call (res := fun i : List (List Int) × List Nat × List Nat => tab (place i.1 i.2.1 i.2.2)) (T, r, c) (a_cons (e_var rfl) (a_cons (e_var rfl) (a_cons (e_var rfl) a_nil))) ⟨n, m, W.toRect, r3, c3, by dsimp only; omega, by dsimp only; omega⟩) rfl)))

end
end Mix

/-! orders: what the defs compute of them -/
namespace Mix
open PySem PySem.Spec L2 RZ DL
open PySem.W (EachIs dataLe AllAlike Sortable alike)
def steps (m : Nat) (T : List (List Int)) (rows : List Nat) : List (List Int) := (List.range m).map fun c => step T rows c
def Told (S told : List (List Int)) : Prop := told.Pairwise (· < ·) ∧ ∀ k, k ∈ told ↔ k ∈ S
theorem told_nd {l : List (List Int)} (h : l.Pairwise (· < ·)) : l.Nodup := h.imp fun h e => by subst e; exact absurd h (List.lt_irrefl _)
theorem Told.eq {S t u : List (List Int)} (h : Told S t) (h' : Told S u) : t = u := by
  have pm : t.Perm u := (List.perm_ext_iff_of_nodup (told_nd h.1) (told_nd h'.1)).mpr fun k => (h.2 k).trans (h'.2 k).symm
  exact pm.eq_of_pairwise (le := (· < ·)) (fun a b _ _ h1 h2 => absurd (List.lt_trans h1 h2) (List.lt_irrefl _)) h.1 h'.1
open Classical in
noncomputable def toldOf (S : List (List Int)) : List (List Int) := if h : ∃ t, Told S t then Classical.choose h else []
theorem toldOf_eq {S t : List (List Int)} (h : Told S t) : toldOf S = t := by
  have hx : ∃ t, Told S t := ⟨t, h⟩
  unfold toldOf
  rw [dif_pos hx]
  exact (Classical.choose_spec hx).eq h
noncomputable def blkOf (m : Nat) (T : List (List Int)) (rows : List Nat) : Option (List (List Nat)) :=
  if chainB (toldOf (steps m T rows)) = true then some ((toldOf (steps m T rows)).map (idxs (steps m T rows))) else none
def oB : Option (List (List Nat)) → Dat
  | none => .none
  | some bs => .list (bs.map nT)
noncomputable def firstOf (n m : Nat) (T : List (List Int)) : Option (List Nat × List Nat) := (seqs n n).findSome? fun rows => (blkOf m T rows).map fun bs => (rows, bs.flatten)
def pairD (p : List Nat × List Nat) : Dat := .tuple .s [nT p.1, nT p.2]
def oP : Option (List Nat × List Nat) → Dat
  | none => .none
  | some p => pairD p
noncomputable def rowsAll (m : Nat) (T : List (List Int)) (rows : List Nat) : List (List Nat × List Nat) := match blkOf m T rows with
  | none => []
  | some bs => (everyC bs).map fun c => (rows, c)
noncomputable def everyOf (n m : Nat) (T : List (List Int)) : List (List Nat × List Nat) := ((seqs n n).flatMap (rowsAll m T)).mergeSort (dataLe false fun p => (pairD p).py)
def minL : List Int → Int
  | [] => 0
  | x :: xs => xs.foldl min x
theorem findSome_at {α β : Type} {f : α → Option β} {b : β} : ∀ {l : List α} {i : Nat} {a : α}, (∀ j < i, ∀ x, l[j]? = some x → f x = none) → l[i]? = some a → f a = some b → l.findSome? f = some b
  | [], _, _, _, h, _ => by simp at h
  | x :: l, 0, a, _, h, e => by
    simp at h; subst h
    simp [List.findSome?_cons, e]
  | x :: l, i + 1, a, hp, h, e => by
    rw [List.findSome?_cons, hp 0 (by omega) x rfl]
    simp at h
    exact findSome_at (fun j hj y hy => hp (j + 1) (by omega) y (by simpa using hy)) h e
theorem findSome_no {α β : Type} {f : α → Option β} : ∀ {l : List α}, (∀ (j : Nat) (x : α), l[j]? = some x → f x = none) → l.findSome? f = none
  | [], _ => rfl
  | x :: l, hp => by
    rw [List.findSome?_cons, hp 0 x rfl]
    exact findSome_no fun j y hy => hp (j + 1) y (by simpa using hy)
theorem seqs_len5 : ∀ n ≤ 5, (seqs n n).length ≤ 120 := by decide +kernel
theorem seqs_len3 : ∀ n ≤ 5, (seqs n n).length ≤ 3 ^ n := by decide +kernel
theorem mixB_len {b : List Nat} (h : b.length ≤ 5) : (mixB b).length ≤ 3 ^ b.length := by
  unfold mixB
  rw [List.length_map]
  exact seqs_len3 _ h
theorem len_of_mixB {b z : List Nat} (h : z ∈ mixB b) : z.length = b.length := by
  unfold mixB at h
  obtain ⟨s, hs, rfl⟩ := List.mem_map.mp h
  rw [List.length_map, len_of_seqs hs]
theorem everyC_snoc (bs : List (List Nat)) (b : List Nat) : everyC (bs ++ [b]) = (everyC bs).flatMap fun a => (mixB b).map fun z => a ++ z := by
  unfold everyC
  rw [List.foldl_append]
  rfl
theorem len_flatMap_le {α β : Type} {f : α → List β} {B : Nat} : ∀ {l : List α}, (∀ a ∈ l, (f a).length ≤ B) → (l.flatMap f).length ≤ l.length * B
  | [], _ => by simp
  | a :: l, h => by
    rw [List.flatMap_cons, List.length_append, List.length_cons, Nat.succ_mul]
    have h1 := h a (by simp)
    have h2 := len_flatMap_le (f := f) (l := l) fun x hx => h x (by simp [hx])
    omega
theorem take_snoc {α : Type} {l : List α} {i : Nat} {a : α} (h : l[i]? = some a) : l.take (i + 1) = l.take i ++ [a] := by rw [List.take_add_one, h]; rfl
/-- of the first blocks: how many, how long -/
theorem everyC_take {bs : List (List Nat)} (h5 : ∀ b ∈ bs, b.length ≤ 5) : ∀ i, i ≤ bs.length → (everyC (bs.take i)).length ≤ 3 ^ (bs.take i).flatten.length ∧ ∀ a ∈ everyC (bs.take i), a.length = (bs.take i).flatten.length
  | 0, _ => by
    rw [List.take_zero]
    refine ⟨Nat.le_refl _, fun a ha => ?_⟩
    have : a = [] := by simpa [everyC] using ha
    subst this
    rfl
  | i + 1, hi => by
    have hb : bs[i]? = some bs[i] := List.getElem?_eq_getElem hi
    obtain ⟨h1, h2⟩ := everyC_take h5 i (by omega)
    have b5 := h5 bs[i] (List.getElem_mem _)
    rw [take_snoc hb, everyC_snoc, List.flatten_append, List.length_append]
    have hs : [bs[i]].flatten.length = bs[i].length := by simp
    rw [hs]
    refine ⟨?_, fun a ha => ?_⟩
    · have h3 := len_flatMap_le (f := fun a => (mixB bs[i]).map fun z => a ++ z) (B := 3 ^ bs[i].length) (l := everyC (bs.take i)) fun a _ => by rw [List.length_map]; exact mixB_len b5
      rw [Nat.pow_add]
      exact Nat.le_trans h3 (Nat.mul_le_mul_right _ h1)
    · obtain ⟨x, hx, hy⟩ := List.mem_flatMap.mp ha
      obtain ⟨z, hz, rfl⟩ := List.mem_map.mp hy
      rw [List.length_append, h2 x hx, len_of_mixB hz]
theorem flat_take_le {bs : List (List Nat)} (i : Nat) : (bs.take i).flatten.length ≤ bs.flatten.length := by
  conv => rhs; rw [← List.take_append_drop i bs, List.flatten_append, List.length_append]
  omega
theorem everyC_len {bs : List (List Nat)} (h5 : bs.flatten.length ≤ 5) : (everyC bs).length ≤ 243 := by
  have hb : ∀ b ∈ bs, b.length ≤ 5 := fun b hb => by
    have := (List.sublist_flatten_of_mem hb).length_le
    omega
  have h1 := (everyC_take hb bs.length (Nat.le_refl _)).1
  rw [List.take_length] at h1
  exact Nat.le_trans h1 (Nat.le_trans (Nat.pow_le_pow_right (by omega) h5) (by decide))
/-- the blocks' columns, all in all -/
theorem idxs_mem {S : List (List Int)} {k : List Int} {i : Nat} : i ∈ idxs S k ↔ S[i]? = some k := by
  unfold idxs
  rw [List.mem_filter, List.mem_range, decide_eq_true_eq]
  constructor
  · exact fun h => h.2
  · exact fun h => ⟨(List.getElem?_eq_some_iff.mp h).1, h⟩
theorem idxs_nd (S : List (List Int)) (k : List Int) : (idxs S k).Pairwise (· < ·) := by
  unfold idxs
  exact List.Pairwise.filter _ List.pairwise_lt_range
theorem flat_perm {S told : List (List Int)} (h : Told S told) : ((told.map (idxs S)).flatten).Perm (List.range S.length) := by
  refine (List.perm_ext_iff_of_nodup ?_ List.nodup_range).mpr fun i => ?_
  · unfold List.Nodup
    rw [List.pairwise_flatten]
    refine ⟨fun l hl => ?_, ?_⟩
    · obtain ⟨k, _, rfl⟩ := List.mem_map.mp hl
      exact (idxs_nd S k).imp fun h e => by omega
    · rw [List.pairwise_map]
      refine (told_nd h.1).imp fun {a b} ne x hx y hy e => ?_
      subst e
      rw [idxs_mem] at hx hy
      rw [hx] at hy
      exact ne (Option.some.inj hy)
  · rw [List.mem_flatten, List.mem_range]
    constructor
    · rintro ⟨l, hl, hi⟩
      obtain ⟨k, _, rfl⟩ := List.mem_map.mp hl
      exact (List.getElem?_eq_some_iff.mp (idxs_mem.mp hi)).1
    · intro hi
      have e : S[i]? = some S[i] := List.getElem?_eq_getElem hi
      exact ⟨idxs S S[i], List.mem_map_of_mem ((h.2 _).mpr (List.getElem_mem _)), idxs_mem.mpr e⟩
theorem steps_len (m : Nat) (T : List (List Int)) (rows : List Nat) : (steps m T rows).length = m := by simp [steps]
theorem step_len (T : List (List Int)) (rows : List Nat) (c : Nat) : (step T rows c).length = rows.length - 1 := by simp [step, dif]
end Mix

namespace Mix
open PySem PySem.Spec L2 RZ DL
open PyProof.Rows (envOfC)
section
variable {P : Program} {w : World} {K : PySem.W.Frag} {mg : Str → Option Value} {base h : Heap}

open PySem.W (EachIs dataLe AllAlike Sortable alike)
/-- a comprehension's list is new -/
theorem e_lcNew {δ : Sl} {α : Type} {wi : TI} {g : TG} {te : TE} {vs js : List Nat} (L : List α) (enc : α → Dat) {δ' : α → Sl} {f : α → Dat} (hw : W1 K wi δ (L.map enc)) (hg : ∀ a, G1 K g js (wipeD δ vs) (enc a) (δ' a)) (hj : ∀ j ∈ js, j ∈ vs)
    (he : ∀ a ∈ L, E1 K te (δ' a) (f a)) (hl : L.length ≤ 100000) : ∀ (σ : L2.St) (G H : Hp), SlOk K G σ δ → Evl.Ex G H → ∀ Q : VK, (∀ q G2 H2 ws, Xt G H G2 H2 → H q = none → H2 q = some (.lst ws) → DrAll K G2 ws (L.map f) → Q (.ref q) H2) → tLc wi g tYes te vs σ H Q := fun σ G H s e Q q => by
  refine hw σ G H s e _ fun J G1 H1 x1 w => fun D hD => ?_
  have LL : (L.map enc).length = L.length := by simp
  rw [LL] at w
  have hD0 : H D = none := by
    cases h : H D with
    | none => rfl
    | some o => rw [x1.hh _ _ h] at hD; cases hD
  refine lc_it w (fun i H' => ∃ G', Own K G1 H1 G' H' D ((L.take i).map f)) ⟨G1, Own.start x1.gh hD⟩ (fun i H' _ h => ?_) (fun i x H' H'' hi h y => ?_) (fun H' h => ?_)
  · obtain ⟨G', o⟩ := h
    exact o.xt.gg.trans o.xt.gh
  · obtain ⟨G', o⟩ := h
    obtain ⟨d, hd, y⟩ := y
    obtain ⟨G'', x2, dx⟩ := y G' o.xt.gg o.xt.gh
    have o2 := o.go x2
    rw [List.getElem?_map] at hd
    cases ha : L[i]? with
    | none => rw [ha] at hd; cases hd
    | some a =>
      rw [ha] at hd
      have hd := Option.some.inj hd
      subst hd
      have am : a ∈ L := List.mem_of_getElem? ha
      have sw : SlOk K G'' (wipe σ vs) (wipeD δ vs) := (s.ext ((x1.gg.trans o2.xt.gg))).wipe vs
      refine hg a (wipe σ vs) G'' H'' x sw o2.xt.gh dx _ fun σ2 s2 w2 => ⟨(w2 vs hj).trans (wipe_wipe σ vs), ?_⟩
      refine he a am σ2 G'' H'' s2 o2.xt.gh _ fun v G4 H4 x4 d4 => ?_
      have o4 := o2.go x4
      obtain ⟨acc, ha4, _⟩ := o4.hd
      refine ⟨acc, ha4, ?_, G4, ?_⟩
      · rw [o4.len ha4, List.length_map, List.length_take]
        exact sz_lt (by omega)
      · have o5 := o4.grow hD (us := [v]) (es := [f a]) (.cons d4 .nil) ha4
        rw [take_snoc ha, List.map_append]
        exact o5
  · obtain ⟨G', o⟩ := h
    rw [List.take_length] at o
    obtain ⟨xt, nd, ws, hh, dd⟩ := o
    exact q D G' H' ws (x1.trans xt) hD0 hh dd
theorem e_par {δ : Sl} {te : TE} {ds ds' : List Dat} {P : Dat → Prop} (h : E1 K te δ (.list ds)) (e : ds = ds') : E1 K te δ (.list ds') := e ▸ h
theorem len_le_flat {α : Type} : ∀ {bs : List (List α)}, (∀ b ∈ bs, b ≠ []) → bs.length ≤ bs.flatten.length
  | [], _ => Nat.le_refl _
  | b :: bs, h => by
    have h1 := len_le_flat (bs := bs) fun x hx => h x (by simp [hx])
    have h2 := List.length_pos_iff.mpr (h b (by simp))
    rw [List.flatten_cons, List.length_append, List.length_cons]
    omega
theorem alike_nT (a b : List Nat) : alike (nT a).py (nT b).py = true := by
  have e : ∀ l : List Nat, (nT l).py = .tuple ((l.map fun n : Nat => (n : Int)).map .int) := fun l => by
    show PyData.tuple (Dat.pys (l.map iD)) = _
    rw [pys_map, List.map_map]
    rfl
  rw [e, e, alike]
  exact PySem.W.alike_ints _ _
theorem depth_nT (l : List Nat) : (nT l).py.depth ≤ 2 := by
  have e : (nT l).py = .tuple ((l.map fun n : Nat => (n : Int)).map .int) := by
    show PyData.tuple (Dat.pys (l.map iD)) = _
    rw [pys_map, List.map_map]
    rfl
  rw [e]
  simp only [PyData.depth, PySem.W.depth_ints]
  omega
theorem alike_pair (p q : List Nat × List Nat) : alike (pairD p).py (pairD q).py = true := by
  show alike (.tuple [(nT p.1).py, (nT p.2).py]) (.tuple [(nT q.1).py, (nT q.2).py]) = true
  simp [alike, PySem.W.alikeAll, alike_nT]
theorem pair_nn (p : List Nat × List Nat) : (pairD p).py ≠ .none := by
  show PyData.tuple [(nT p.1).py, (nT p.2).py] ≠ .none
  exact fun z => nomatch z
theorem depth_pair (p : List Nat × List Nat) : (pairD p).py.depth ≤ 8 := by
  show (PyData.tuple [(nT p.1).py, (nT p.2).py]).depth ≤ 8
  have h1 := depth_nT p.1
  have h2 := depth_nT p.2
  simp only [PyData.depth, PyData.depthAll]
  omega

theorem sc25 : FnScope ["blocks", "found", "block", "mixed", "sequence", "ahead", "behind", "index"] ["blocks"] (defScope (top 25)) := ⟨rfl, rfl, rfl, by decide +kernel, rfl, by decide +kernel, by decide +kernel⟩
abbrev sp_every_columns (K : PySem.W.Frag) : Sp := SpI K (ι := List (List Nat)) (fun bs => [.list (bs.map nT)]) (fun bs => bs.flatten.length ≤ 5 ∧ bs.length ≤ 1000) (fun bs d => d = .list ((everyC bs).map nT))
theorem ok_every_columns (T : Top K mg h) : C8.Cal P w K mg base 2 "every_columns" (sp_every_columns K) [] := by
  have c_sequences := ok_sequences (P := P) (w := w) (base := base) T
  have m_len := T.free 67 "len"
  have m_tuple := T.free 66 "tuple"
  obtain ⟨fd, F⟩ := T.says.def_ 15 (d := dd25) rfl
  have g : mg "every_columns" = some (.ref (He.ga K "every_columns")) := He.glo_ok T.kin T.ns (T.says.fact 15 (f := .glo "every_columns") rfl)
  refine cal_mk (fn_ok F sc25 (fun i => rfl) (fun cdv A outer s H E hr => (pss_cons (ps_set (i := 1) sc25.nd rfl (by first | exact Or.inl rfl | exact Or.inr rfl) (pe_lst (pa_cons (pe_tupZ pa_nil) pa_nil))) (pss_cons (ps_for PassesOwn.never rfl (k_piL K (pv 0)) (pg_name (i := 2) sc25.nd rfl (by first | exact Or.inl rfl | exact Or.inr rfl)) (pss_cons (ps_set (i := 3) sc25.nd rfl (by first | exact Or.inl rfl | exact Or.inr rfl) (pe_lc (own := [("sequence", 4)]) rfl sc25.nd (k_piL K (C8.pe_c c_sequences hr (by decide) (by rfl) (pa_cons (pe_callB (k_len K) (by rfl) m_len PySem.boot_len (pa_cons (pv 2) pa_nil)) pa_nil))) (blkOk_by (by rfl)) (fun _ _ _ _ _ => (pg_name (i := 4) sc25.nd rfl (by first | exact Or.inl rfl | exact Or.inr rfl))) (fun _ _ _ _ _ => pts_nil) (fun _ _ _ _ _ => (pe_callTy (k_tupZ K) (by rfl) m_tuple (by decide +kernel) (pa_cons (pe_lc (own := [("index", 7)]) rfl sc25.nd (k_piT K (pv 4)) (blkOk_by (by rfl)) (fun _ _ _ _ _ => (pg_name (i := 7) sc25.nd rfl (by first | exact Or.inl rfl | exact Or.inr rfl))) (fun _ _ _ _ _ => pts_nil) (fun _ _ _ _ _ => (pe_ix (k_ixT K) (pv 2) (pv 7) (fun _ _ => rfl)))) pa_nil))))) (pss_one (ps_setLc2 (i := 1) (own := [("ahead", 5), ("behind", 6)]) (vs1 := [6]) rfl sc25.nd rfl rfl (sw_true rfl rfl rfl (by decide +kernel)) (k_piL K (pv 1)) (blkOk_by (by rfl)) (by decide) (fun _ _ _ _ _ => (pg_name (i := 5) sc25.nd rfl (by first | exact Or.inl rfl | exact Or.inr rfl))) (fun _ _ _ _ _ => pts_nil) (fun _ _ _ _ _ => (k_piL K (pv 3))) (fun _ _ _ _ _ => (pg_name (i := 6) sc25.nd rfl (by first | exact Or.inl rfl | exact Or.inr rfl))) (fun _ _ _ _ _ => pts_nil) (fun _ _ _ _ _ => (pe_op (k_catZ K) (pv 5) (pv 6))))))) (pss_one (ps_ret (pv 1)))))) ?_) g F.kp (F.bindsN fun _ _ _ _ _ _ us hl => match us, hl with | [_], _ => rfl)
  rintro bs ⟨h5, hl⟩
  have hb : ∀ b ∈ bs, b.length ≤ 5 := fun b hb => by
    have := (List.sublist_flatten_of_mem hb).length_le
    omega
  refine sd_set (e_lst (a_cons (e_tupZ a_nil) a_nil)) (sd_forI bs nT (fun i => [some (.d (.list (bs.map nT))), some (.d (.list ((everyC (bs.take i)).map nT))), none, none, none, none, none, none]) (w_list (e_var rfl)) (fun i a => g_name 2) ?_ (fun i b hi => ?_) ?_)
  · exact .refl _
  · have b5 := hb b (List.mem_of_getElem? hi)
    have hi' : i < bs.length := (List.getElem?_eq_some_iff.mp hi).1
    obtain ⟨h1, h2⟩ := everyC_take hb i (by omega)
    obtain ⟨h3, h4⟩ := everyC_take hb (i + 1) (by omega)
    have f1 := flat_take_le (bs := bs) i
    have f2 := flat_take_le (bs := bs) (i + 1)
    refine sd_set (E1.is (x := .list ((mixB b).map nT)) (e_lcm (seqs b.length b.length) nT (w_list (e_call (res := fun n => .list ((seqs n n).map nT)) b.length (a_cons (e_len (n := b.length) (e_var rfl) (by simp)) a_nil) (by omega))) (fun a => g_name 4) (by simp)
      (fun s hs => e_cb (a_cons (e_lcm s iD (w_tup (e_var rfl)) (fun a => g_name 7) (by simp) (fun k hk => e_op (e_var rfl) (e_var rfl) (rd_ixT (at_map (get_getD (d := 0) (lt_of_seqs hs k hk))))) (by rw [len_of_seqs hs]; omega)) a_nil) cd_tupZ) (Nat.le_trans (seqs_len5 _ b5) (by omega))) (by simp [mixB, nT])) ?_
    refine sd_set1 (E1.is (x := .list ((everyC (bs.take (i + 1))).map nT)) (e_lc2 (everyC (bs.take i)) nT (fun _ => mixB b) (fun _ => nT) (fun _ _ => true) (f := fun a z => nT (a ++ z))
      (w_list (e_var rfl)) (fun a => g_name 5) (by simp) (fun a _ => w_list (e_var rfl)) (fun a b => g_name 6) (by simp) (fun a _ b _ => t_yes)
      (fun a ha z hz _ => E1.is (e_op (e_var rfl) (e_var rfl) (rd_cat (ds := a.map iD) (es := z.map iD) (by have := h2 a ha; have := len_of_mixB hz; simp; omega))) (by simp [nT])) ?_) ?_) ?_
    · have e : ((everyC (bs.take i)).flatMap fun a => ((mixB b).filter fun _ => true).map fun z => nT (a ++ z)).length = (everyC (bs.take (i + 1))).length := by
        rw [take_snoc hi, everyC_snoc]
        simp [filter_yes, List.length_flatMap]
      rw [e]
      exact Nat.le_trans h3 (Nat.le_trans (Nat.pow_le_pow_right (by omega) (show _ ≤ 5 by omega)) (by decide))
    · rw [take_snoc hi, everyC_snoc]
      simp [filter_yes, List.map_flatMap, Function.comp_def]
    · exact .cons _ (.cons _ (.drop _ (.drop _ (.refl _))))
  · exact sd_ret (e_var rfl) (by simp)

theorem sc22 : FnScope ["table", "rows", "steps", "blocks", "column", "step", "told", "one", "other"] ["table", "rows"] (defScope (top 22)) := ⟨rfl, rfl, rfl, by decide +kernel, rfl, by decide +kernel, by decide +kernel⟩
abbrev sp_column_blocks (K : PySem.W.Frag) : Sp := SpI K (ι := Nat × Nat × List (List Int) × List Nat) (fun i => [tab i.2.2.1, nT i.2.2.2]) (fun i => Tb i.1 i.2.1 i.2.2.1 ∧ (∀ r ∈ i.2.2.2, r < i.1) ∧ i.2.2.2.length ≤ 1000) (fun i d => d = oB (blkOf i.2.1 i.2.2.1 i.2.2.2))
theorem ok_column_blocks (T : Top K mg h) : C8.Cal P w K mg base 2 "column_blocks" (sp_column_blocks K) [] := by
  have c_differences := ok_differences (P := P) (w := w) (base := base) T
  have c_never_falls := ok_never_falls (P := P) (w := w) (base := base) T
  have m_enumerate := T.free 73 "enumerate"
  have m_sorted := T.free 74 "sorted"
  have m_all := T.free 68 "all"
  have m_zip := T.free 70 "zip"
  obtain ⟨fd, F⟩ := T.says.def_ 13 (d := dd22) rfl
  have g : mg "column_blocks" = some (.ref (He.ga K "column_blocks")) := He.glo_ok T.kin T.ns (T.says.fact 13 (f := .glo "column_blocks") rfl)
  refine cal_mk (fn_ok F sc22 (fun i => rfl) (fun cdv A outer s H E hr => (pss_cons (ps_set (i := 2) sc22.nd rfl (by first | exact Or.inl rfl | exact Or.inr rfl) (C8.pe_c c_differences hr (by decide) (by rfl) (pa_cons (pv 0) (pa_cons (pv 1) pa_nil)))) (pss_cons (ps_set (i := 3) sc22.nd rfl (by first | exact Or.inl rfl | exact Or.inr rfl) pe_dnewT) (pss_cons (ps_for PassesOwn.never rfl (k_enum K (by rfl) m_enumerate (pa_cons (pv 2) pa_nil)) (k_tuple K (n := 2) (pgs_cons (pg_name (i := 4) sc22.nd rfl (by first | exact Or.inl rfl | exact Or.inr rfl)) (pgs_cons (pg_name (i := 5) sc22.nd rfl (by first | exact Or.inl rfl | exact Or.inr rfl)) pgs_nil))) (pss_one (ps_dput (hu_of hr) (pv 3) (pv 5) (pe_op (k_catZ K) (pe_dget2 (hu_of hr) (pv 3) (pv 5) (pe_tupZ pa_nil) m2_rfl) (pe_tupZ (pa_cons (pv 4) pa_nil))) rfl))) (pss_cons (ps_set (i := 6) sc22.nd rfl (by first | exact Or.inl rfl | exact Or.inr rfl) (pe_callB (k_sortKeys K (u90 hr)) (by rfl) m_sorted (by decide +kernel) (pa_cons (pv 3) pa_nil))) (pss_cons (ps_if (pt_not (pt_val (pe_callB (k_all K) (by rfl) m_all (by decide +kernel) (pa_cons (pe_lc (own := [("one", 7), ("other", 8)]) rfl sc22.nd (k_zip K (by rfl) m_zip (pa_cons (pv 6) (pa_cons (pe_slice (k_slL K) (pv 6) (po_some pe_int) po_none) pa_nil))) (blkOk_by (by rfl)) (fun _ _ _ _ _ => (k_tuple K (n := 2) (pgs_cons (pg_name (i := 7) sc22.nd rfl (by first | exact Or.inl rfl | exact Or.inr rfl)) (pgs_cons (pg_name (i := 8) sc22.nd rfl (by first | exact Or.inl rfl | exact Or.inr rfl)) pgs_nil)))) (fun _ _ _ _ _ => pts_nil) (fun _ _ _ _ _ => (C8.pe_c c_never_falls hr (by decide) (by rfl) (pa_cons (pv 7) (pa_cons (pv 8) pa_nil))))) pa_nil)))) (pss_one (ps_ret pe_non)) pss_nil) (pss_one (ps_ret (pe_lc (own := [("step", 5)]) rfl sc22.nd (k_piL K (pv 6)) (blkOk_by (by rfl)) (fun _ _ _ _ _ => (pg_name (i := 5) sc22.nd rfl (by first | exact Or.inl rfl | exact Or.inr rfl))) (fun _ _ _ _ _ => pts_nil) (fun _ _ _ _ _ => (pe_dget (hu_of hr) (pv 3) (pv 5) (fun _ _ => rfl)))))))))))) ?_) g F.kp (F.bindsN fun _ _ _ _ _ _ us hl => match us, hl with | [_, _], _ => rfl)
  rintro ⟨n, m, T, rows⟩ ⟨W, hr, lr⟩
  dsimp only at W hr lr
  have hm := W.m8
  have e1 : enumD ((List.range m).map fun c => keyT (step T rows c)) = (List.range m).map fun c => .tuple .p [iD c, keyT (step T rows c)] := by
    unfold enumD
    rw [List.zipIdx_map]
    apply List.ext_getElem?
    intro j
    by_cases hj : j < m
    · simp [hj, iD]
    · simp [hj]
  refine sd_set (e_call (res := fun i : Nat × Nat × List (List Int) × List Nat × Dat => .list ((List.range i.2.1).map fun c => keyT (step i.2.2.1 i.2.2.2.1 c))) (n, m, T, rows, nT rows) (a_cons (e_var rfl) (a_cons (e_var rfl) a_nil)) ⟨W, hr, lr, .inr rfl⟩) ?_
  refine sd_tally (List.range m) (fun c => .tuple .p [iD c, keyT (step T rows c)]) (fun c => step T rows c) (fun p => e1 ▸ w_enumL (a_cons (e_var rfl) a_nil)) (fun p a => g_tup2) (fun p i c hc => ?_) (by simp; omega) ?_
  · have hc : c = i := by
      have := List.getElem?_eq_some_iff.mp hc
      obtain ⟨h1, h2⟩ := this
      rw [List.getElem_range] at h2
      exact h2.symm
    subst hc
    exact ta_put rfl rfl rfl (.cons _ (.cons _ (.cons _ (.cons _ (.drop _ (.drop _ (.refl _)))))))
  · have hS : (∀ k ∈ (List.range m).map fun c => step T rows c, k ≠ []) ∨ ∀ k ∈ (List.range m).map fun c => step T rows c, k = [] := by
      rcases Nat.lt_or_ge 1 rows.length with h | h
      · left
        intro k hk e
        obtain ⟨c, _, rfl⟩ := List.mem_map.mp hk
        have := step_len T rows c
        rw [e] at this
        simp at this
        omega
      · right
        intro k hk
        obtain ⟨c, _, rfl⟩ := List.mem_map.mp hk
        have := step_len T rows c
        exact List.eq_nil_of_length_eq_zero (by omega)
    refine sd_setR (e_sortKeys rfl hS) fun d hd => ?_
    obtain ⟨told, rfl, pw, mem, len⟩ := hd
    have ht : toldOf (steps m T rows) = told := toldOf_eq ⟨pw, mem⟩
    have hlen : ∀ k ∈ told, k.length ≤ 1000 := fun k hk => by
      obtain ⟨c, _, rfl⟩ := List.mem_map.mp ((mem k).mp hk)
      rw [step_len]
      omega
    have len : told.length ≤ 8 := by
      rw [List.length_map, List.length_range] at len
      omega
    refine sd_guard (b := !chainB told) (t_not (t_B (e_cb (a_cons (e_lcm (told.zip (told.drop 1)) (fun p => .tuple .p [keyT p.1, keyT p.2]) (zip_tail told keyT ▸ w_zipL (a_cons (e_var rfl) (a_cons (e_sl (e_var rfl) (o_some (e_int 1)) o_no sl_l) a_nil))) (fun a => g_tup2) (by simp)
      (fun a ha => e_call (res := fun i : List Int × List Int => .bool (nf i.1 i.2)) (a.1, a.2) (a_cons (e_var rfl) (a_cons (e_var rfl) a_nil)) (hlen _ (List.of_mem_zip ha).1)) (Nat.le_trans (zip_len_le _) (by omega))) a_nil) cd_all'))) (fun hb => ?_) fun hb => ?_
    · refine sd_ret e_non ?_
      have hb : chainB told = false := by simpa using hb
      show Dat.none = oB (blkOf m T rows)
      unfold blkOf
      rw [ht, if_neg (by rw [hb]; decide)]
      rfl
    · refine sd_ret (e_lcm told keyT (w_list (e_var rfl)) (fun a => g_name 5) (by simp) (fun k hk => e_tget rfl (e_var rfl) ((mem k).mp hk)) (by omega)) ?_
      have hb : chainB told = true := by simpa using hb
      show _ = oB (blkOf m T rows)
      unfold blkOf
      rw [ht, if_pos hb]
      show _ = Dat.list ((told.map (idxs (steps m T rows))).map nT)
      rw [List.map_map]
      rfl

theorem sc26 : FnScope ["table", "rows", "blocks"] ["table"] (defScope (top 26)) := ⟨rfl, rfl, rfl, by decide +kernel, rfl, by decide +kernel, by decide +kernel⟩
abbrev sp_first_of (K : PySem.W.Frag) : Sp := SpI K (ι := Nat × Nat × List (List Int)) (fun i => [tab i.2.2]) (fun i => Tb i.1 i.2.1 i.2.2 ∧ i.1 ≤ 6) (fun i d => d = oP (firstOf i.1 i.2.1 i.2.2))
theorem ok_first_of (T : Top K mg h) : C8.Cal P w K mg base 3 "first_of" (sp_first_of K) [] := by
  have c_sequences := ok_sequences (P := P) (w := w) (base := base) T
  have c_column_blocks := ok_column_blocks (P := P) (w := w) (base := base) T
  have c_first_columns_orderways := ok_first_columns_orderways (P := P) (w := w) (base := base) T
  have m_len := T.free 67 "len"
  obtain ⟨fd, F⟩ := T.says.def_ 16 (d := dd26) rfl
  have g : mg "first_of" = some (.ref (He.ga K "first_of")) := He.glo_ok T.kin T.ns (T.says.fact 16 (f := .glo "first_of") rfl)
  refine cal_mk (fn_ok F sc26 (fun i => rfl) (fun cdv A outer s H E hr => (pss_cons (ps_for PassesOwn.never rfl (k_piL K (C8.pe_c c_sequences hr (by decide) (by rfl) (pa_cons (pe_callB (k_len K) (by rfl) m_len PySem.boot_len (pa_cons (pv 0) pa_nil)) pa_nil))) (pg_name (i := 1) sc26.nd rfl (by first | exact Or.inl rfl | exact Or.inr rfl)) (pss_cons (ps_set (i := 2) sc26.nd rfl (by first | exact Or.inl rfl | exact Or.inr rfl) (C8.pe_c c_column_blocks hr (by decide) (by rfl) (pa_cons (pv 0) (pa_cons (pv 1) pa_nil)))) (pss_one (ps_if (pt_cmpR op_notN (pv 2) pe_non (nomark _)) (pss_one (ps_ret (pe_tupZ (pa_cons (pv 1) (pa_cons (C8.pe_c c_first_columns_orderways hr (by decide) (by rfl) (pa_cons (pv 2) pa_nil)) pa_nil))))) pss_nil)))) (pss_one (ps_ret pe_non)))) ?_) g F.kp (F.bindsN fun _ _ _ _ _ _ us hl => match us, hl with | [_], _ => rfl)
  rintro ⟨n, m, T⟩ ⟨W, hn⟩
  dsimp only at W hn
  refine sd_for (seqs n n) nT (fun i => ∀ j < i, ∀ rows, (seqs n n)[j]? = some rows → blkOf m T rows = none) (w_list (e_call (res := fun n => .list ((seqs n n).map nT)) n (a_cons (e_len (n := n) (e_var rfl) (by rw [List.length_map]; exact W.rows)) a_nil) hn)) (fun a => g_name 1) (by intro j hj; omega) (fun i rows hi hC => ?_) (fun hC => sd_ret e_non ?_)
  · have hrm := List.mem_of_getElem? hi
    have lr := len_of_seqs hrm
    refine sd_set (e_call (res := fun i : Nat × Nat × List (List Int) × List Nat => oB (blkOf i.2.1 i.2.2.1 i.2.2.2)) (n, m, T, rows) (a_cons (e_var rfl) (a_cons (e_var rfl) a_nil)) ⟨W, lt_of_seqs hrm, by dsimp only; omega⟩) ?_
    cases hb : blkOf m T rows with
    | none =>
      refine sd_need (T1.is (t_test (e_op (e_var rfl) e_non rd_notN)) rfl) ⟨fun j hj r hr => ?_, .cons _ (.drop _ (.drop _ (.refl _)))⟩
      by_cases e : j = i
      · subst e; rw [hi] at hr; cases hr; exact hb
      · exact hC j (by omega) r hr
    | some bs =>
      have fl : bs.flatten.length ≤ 1000 := by
        unfold blkOf at hb
        split at hb
        · cases hb
          have hl : ((toldOf (steps m T rows)).map (idxs (steps m T rows))).flatten.length ≤ 8 := by
            by_cases hx : ∃ t, Told (steps m T rows) t
            · obtain ⟨t, ht⟩ := hx
              rw [toldOf_eq ht, (flat_perm ht).length_eq, List.length_range, steps_len]
              exact W.m8
            · unfold toldOf
              rw [dif_neg hx]
              simp
          omega
        · cases hb
      refine sd_if (b := true) (T1.is (t_test (e_op (e_var rfl) e_non rd_notN)) rfl) (fun _ => sd_ret (e_tupZ (a_cons (e_var rfl) (a_cons (e_call' (res := fun bs : List (List Nat) => nT bs.flatten) bs (a_cons (e_var rfl) a_nil) rfl fl rfl) a_nil))) ?_) (fun z => nomatch z)
      show pairD (rows, bs.flatten) = oP (firstOf n m T)
      unfold firstOf
      rw [findSome_at (b := (rows, bs.flatten)) (fun j hj x hx => by rw [hC j hj x hx]; rfl) hi (by rw [hb]; rfl)]
      rfl
  · show Dat.none = oP (firstOf n m T)
    unfold firstOf
    rw [findSome_no fun j x hx => ?_]
    · rfl
    · rw [hC j (List.getElem?_eq_some_iff.mp hx).1 x hx]
      rfl

theorem sc27 : FnScope ["table", "found", "rows", "blocks", "columns"] ["table"] (defScope (top 27)) := ⟨rfl, rfl, rfl, by decide +kernel, rfl, by decide +kernel, by decide +kernel⟩
abbrev sp_every_of (K : PySem.W.Frag) : Sp := SpI K (ι := Nat × Nat × List (List Int)) (fun i => [tab i.2.2]) (fun i => Tb i.1 i.2.1 i.2.2 ∧ i.1 ≤ 5 ∧ i.2.1 ≤ 5) (fun i d => d = .list ((everyOf i.1 i.2.1 i.2.2).map pairD))
theorem ok_every_of (T : Top K mg h) : C8.Cal P w K mg base 3 "every_of" (sp_every_of K) [] := by
  have c_sequences := ok_sequences (P := P) (w := w) (base := base) T
  have c_column_blocks := ok_column_blocks (P := P) (w := w) (base := base) T
  have c_every_columns := ok_every_columns (P := P) (w := w) (base := base) T
  have m_len := T.free 67 "len"
  have m_sorted := T.free 74 "sorted"
  obtain ⟨fd, F⟩ := T.says.def_ 17 (d := dd27) rfl
  have g : mg "every_of" = some (.ref (He.ga K "every_of")) := He.glo_ok T.kin T.ns (T.says.fact 17 (f := .glo "every_of") rfl)
  refine cal_mk (fn_ok F sc27 (fun i => rfl) (fun cdv A outer s H E hr => (pss_cons (ps_set (i := 1) sc27.nd rfl (by first | exact Or.inl rfl | exact Or.inr rfl) (pe_lst pa_nil)) (pss_cons (ps_for PassesOwn.never rfl (k_piL K (C8.pe_c c_sequences hr (by decide) (by rfl) (pa_cons (pe_callB (k_len K) (by rfl) m_len PySem.boot_len (pa_cons (pv 0) pa_nil)) pa_nil))) (pg_name (i := 2) sc27.nd rfl (by first | exact Or.inl rfl | exact Or.inr rfl)) (pss_cons (ps_set (i := 3) sc27.nd rfl (by first | exact Or.inl rfl | exact Or.inr rfl) (C8.pe_c c_column_blocks hr (by decide) (by rfl) (pa_cons (pv 0) (pa_cons (pv 2) pa_nil)))) (pss_one (ps_if (pt_cmpR op_notN (pv 3) pe_non (nomark _)) (pss_one (ps_expr (k_bm K PySem.F.plainAttrs_list PySem.F.slot_list_extend PySem.F.type_list_extend mt_extend (pv 1) (pa_cons (pe_lc (own := [("columns", 4)]) rfl sc27.nd (k_piL K (C8.pe_c c_every_columns hr (by decide) (by rfl) (pa_cons (pv 3) pa_nil))) (blkOk_by (by rfl)) (fun _ _ _ _ _ => (pg_name (i := 4) sc27.nd rfl (by first | exact Or.inl rfl | exact Or.inr rfl))) (fun _ _ _ _ _ => pts_nil) (fun _ _ _ _ _ => (pe_tupZ (pa_cons (pv 2) (pa_cons (pv 4) pa_nil))))) pa_nil)))) pss_nil)))) (pss_one (ps_ret (pe_callB (k_sortD K (u90 hr)) (by rfl) m_sorted (by decide +kernel) (pa_cons (pv 1) pa_nil))))))) ?_) g F.kp (F.bindsN fun _ _ _ _ _ _ us hl => match us, hl with | [_], _ => rfl)
  rintro ⟨n, m, T⟩ ⟨W, hn, hm⟩
  dsimp only at W hn hm
  have fl : ∀ rows bs, blkOf m T rows = some bs → bs.flatten.length ≤ 5 ∧ bs.length ≤ 1000 := fun rows bs hb => by
    unfold blkOf at hb
    split at hb
    · cases hb
      by_cases hx : ∃ t, Told (steps m T rows) t
      · obtain ⟨t, ht⟩ := hx
        rw [toldOf_eq ht, (flat_perm ht).length_eq, List.length_range, steps_len]
        refine ⟨hm, ?_⟩
        have h1 := len_le_flat (bs := t.map (idxs (steps m T rows))) fun b hb => by
          obtain ⟨k, hk, rfl⟩ := List.mem_map.mp hb
          obtain ⟨i, hi⟩ := List.mem_iff_getElem?.mp ((ht.2 k).mp hk)
          exact List.ne_nil_of_mem (idxs_mem.mpr hi)
        rw [(flat_perm ht).length_eq, List.length_range, steps_len] at h1
        omega
      · unfold toldOf
        rw [dif_neg hx]
        simp
    · cases hb
  have fR : ∀ rows, (rowsAll m T rows).length ≤ 243 := fun rows => by
    unfold rowsAll
    cases hb : blkOf m T rows with
    | none => simp
    | some bs =>
      show ((everyC bs).map fun c => (rows, c)).length ≤ 243
      rw [List.length_map]
      exact everyC_len (fl rows bs hb).1
  have s5 := seqs_len5 n hn
  have hB : ((seqs n n).flatMap fun rows => (rowsAll m T rows).map pairD).length ≤ 90000 := by
    have := len_flatMap_le (f := fun rows => (rowsAll m T rows).map pairD) (B := 243) (l := seqs n n) fun a _ => by rw [List.length_map]; exact fR a
    have h2 : (seqs n n).length * 243 ≤ 120 * 243 := Nat.mul_le_mul_right _ s5
    omega
  have eL : ((seqs n n).flatMap fun rows => (rowsAll m T rows).map pairD) = ((seqs n n).flatMap (rowsAll m T)).map pairD := by rw [List.map_flatMap]
  refine sd_collect (seqs n n) nT (fun rows => (rowsAll m T rows).map pairD) (ds0 := []) a_nil (fun p => w_list (e_call (res := fun n => .list ((seqs n n).map nT)) n (a_cons (e_len (n := n) (e_var rfl) (by rw [List.length_map]; exact W.rows)) a_nil) (show n ≤ 6 by omega))) (fun p a => g_name 2) (fun p rows hrm => ?_) (B := 90000) (by rw [List.nil_append]; exact hB) (by omega) ?_
  · have lr := len_of_seqs hrm
    refine ad_set (e_call (res := fun i : Nat × Nat × List (List Int) × List Nat => oB (blkOf i.2.1 i.2.2.1 i.2.2.2)) (n, m, T, rows) (a_cons (e_var rfl) (a_cons (e_var rfl) a_nil)) ⟨W, lt_of_seqs hrm, by dsimp only; omega⟩) ?_
    cases hb : blkOf m T rows with
    | none =>
      refine ad_if (b := false) (T1.is (t_test (e_op (e_var rfl) e_non rd_notN)) rfl) (fun z => nomatch z) fun _ => Sd.ad (sd_next (.cons _ (.cons _ (.drop _ (.drop _ (.refl _)))))) ?_
      unfold rowsAll
      rw [hb]
      rfl
    | some bs =>
      obtain ⟨f5, f6⟩ := fl rows bs hb
      have hc := everyC_len f5
      refine ad_if (b := true) (T1.is (t_test (e_op (e_var rfl) e_non rd_notN)) rfl) (fun _ => ?_) (fun z => nomatch z)
      refine ad_extend (es := (everyC bs).map fun c => pairD (rows, c)) (by rw [List.length_map]; omega) rfl (e_lcNew (everyC bs) nT (w_list (e_call' (res := fun bs : List (List Nat) => .list ((everyC bs).map nT)) bs (a_cons (e_var rfl) a_nil) rfl ⟨f5, f6⟩ rfl)) (fun a => g_name 4) (by simp) (fun c _ => e_tupZ (a_cons (e_var rfl) (a_cons (e_var rfl) a_nil))) (by omega)) (.cons _ (.cons _ (.drop _ (.drop _ (.refl _))))) ?_
      unfold rowsAll
      rw [hb]
      show _ = ((everyC bs).map fun c => (rows, c)).map pairD
      rw [List.map_map]
      rfl
  · refine sd_ret (e_cb (a_cons (e_par (P := fun _ => True) (e_var rfl) (by rw [List.nil_append]; exact eL)) a_nil) (cd_sortD ?_ (.inl (.inl ?_)) fun p _ => ⟨pair_nn p, depth_pair p⟩)) rfl
    · intro d hd d' hd'
      obtain ⟨p, _, rfl⟩ := List.mem_map.mp hd
      obtain ⟨q, _, rfl⟩ := List.mem_map.mp hd'
      exact alike_pair p q
    · intro d hd
      obtain ⟨p, _, rfl⟩ := List.mem_map.mp hd
      exact ⟨(nT p.1).py, [(nT p.2).py], rfl⟩

end
end Mix

namespace Mix
open PySem PySem.Spec L2 RZ DL
open PyProof.Rows (envOfC)
section
variable {P : Program} {w : World} {K : PySem.W.Frag} {mg : Str → Option Value} {base h : Heap}

open PySem.W (EachIs dataLe AllAlike Sortable alike)
def shape (row : List Int) : List Int := row.map fun x => x - row.getD 0 0
def choicesL (n : Nat) : List (List Nat) := (List.range (2 ^ n - 1)).map fun k => (List.range n).filter fun i => decide (Builtin.bitAnd ((1 + (k : Nat) : Int) / 2 ^ i) 1 = 1)
theorem choicesL_len {n : Nat} (h : n ≤ 5) : (choicesL n).length ≤ 31 := by
  unfold choicesL
  rw [List.length_map, List.length_range]
  have : 2 ^ n ≤ 2 ^ 5 := Nat.pow_le_pow_right (by omega) h
  omega
theorem choicesL_lt {n : Nat} {l : List Nat} (h : l ∈ choicesL n) : (∀ i ∈ l, i < n) ∧ l.Pairwise (· < ·) ∧ l.length ≤ n := by
  unfold choicesL at h
  obtain ⟨k, _, rfl⟩ := List.mem_map.mp h
  refine ⟨fun i hi => by simpa using (List.mem_filter.mp hi).1, List.Pairwise.filter _ List.pairwise_lt_range, ?_⟩
  have := List.length_filter_le (fun i => decide (Builtin.bitAnd ((1 + (k : Nat) : Int) / 2 ^ i) 1 = 1)) (List.range n)
  rw [List.length_range] at this
  exact this
def triD (p : List Nat × List Nat) : Dat := .tuple .s [.int ((p.1.length : Int) + (p.2.length : Int)), nT p.1, nT p.2]
theorem alike_tri (p q : List Nat × List Nat) : alike (triD p).py (triD q).py = true := by
  show alike (.tuple [.int _, (nT p.1).py, (nT p.2).py]) (.tuple [.int _, (nT q.1).py, (nT q.2).py]) = true
  simp [alike, PySem.W.alikeAll, alike_nT]
theorem tri_nn (p : List Nat × List Nat) : (triD p).py ≠ .none := by
  show PyData.tuple [.int _, (nT p.1).py, (nT p.2).py] ≠ .none
  exact fun z => nomatch z
theorem depth_tri (p : List Nat × List Nat) : (triD p).py.depth ≤ 8 := by
  show (PyData.tuple [.int _, (nT p.1).py, (nT p.2).py]).depth ≤ 8
  have h1 := depth_nT p.1
  have h2 := depth_nT p.2
  simp only [PyData.depth, PyData.depthAll]
  omega
theorem nT_nn (l : List Nat) : (nT l).py ≠ .none := by
  show PyData.tuple _ ≠ .none
  exact fun z => nomatch z
theorem foldl_min_mem : ∀ (xs : List Int) (x : Int), xs.foldl min x ∈ x :: xs
  | [], x => by simp
  | y :: ys, x => by
    rw [List.foldl_cons]
    have := foldl_min_mem ys (min x y)
    rcases List.mem_cons.mp this with h | h
    · rw [h]
      rcases Int.le_total x y with q | q
      · rw [Int.min_eq_left q]; simp
      · rw [Int.min_eq_right q]; simp
    · simp [h]
theorem minL_mem {l : List Int} (h : l ≠ []) : minL l ∈ l := by
  cases l with
  | nil => exact absurd rfl h
  | cons x xs => exact foldl_min_mem xs x
theorem ER.er1 {δ : Sl} {te te' : TE} {P : Dat → Prop} {P' : Dat → Prop} (h : ER K te δ P) (hp : ∀ d, P d → P' d) : ER K te δ P' := fun σ G H s e Q q => h σ G H s e Q fun v G2 H2 d x2 d2 p => q v G2 H2 d x2 d2 (hp d p)
theorem cutD_all {ds : List Dat} {n : Nat} (h : ds.length = n) : HT.sIx ds.length 0 (some 0) = 0 ∧ HT.sIx ds.length ds.length (some (n : Int)) = ds.length := by
  subst h
  refine ⟨?_, ?_⟩
  · have := HT.sIx_nat ds.length 0 0
    simpa using this
  · have := HT.sIx_nat ds.length ds.length ds.length
    simpa using this

theorem sc28 : FnScope ["rows", "found", "index", "row", "shape", "entry"] ["rows"] (defScope (top 28)) := ⟨rfl, rfl, rfl, by decide +kernel, rfl, by decide +kernel, by decide +kernel⟩
abbrev sp_like_blocks (K : PySem.W.Frag) : Sp := SpI K (ι := Nat × Nat × List (List Int)) (fun i => [tab i.2.2]) (fun i => Tb i.1 i.2.1 i.2.2) (fun i d => ∃ L : List (List Nat), d = .list (L.map nT) ∧ L.length ≤ 8 ∧ ∀ b ∈ L, ∃ k ∈ i.2.2.map shape, b = idxs (i.2.2.map shape) k)
theorem ok_like_blocks (T : Top K mg h) : C8.Cal P w K mg base 1 "like_blocks" (sp_like_blocks K) [] := by
  have m_enumerate := T.free 73 "enumerate"
  have m_tuple := T.free 66 "tuple"
  have m_list := T.free 72 "list"
  have m_sorted := T.free 74 "sorted"
  obtain ⟨fd, F⟩ := T.says.def_ 18 (d := dd28) rfl
  have g : mg "like_blocks" = some (.ref (He.ga K "like_blocks")) := He.glo_ok T.kin T.ns (T.says.fact 18 (f := .glo "like_blocks") rfl)
  refine cal_mk (fn_ok F sc28 (fun i => rfl) (fun cdv A outer s H E hr => (pss_cons (ps_set (i := 1) sc28.nd rfl (by first | exact Or.inl rfl | exact Or.inr rfl) pe_dnewT) (pss_cons (ps_for PassesOwn.never rfl (k_enumT K (by rfl) m_enumerate (pa_cons (pv 0) pa_nil)) (k_tuple K (n := 2) (pgs_cons (pg_name (i := 2) sc28.nd rfl (by first | exact Or.inl rfl | exact Or.inr rfl)) (pgs_cons (pg_name (i := 3) sc28.nd rfl (by first | exact Or.inl rfl | exact Or.inr rfl)) pgs_nil))) (pss_cons (ps_set (i := 4) sc28.nd rfl (by first | exact Or.inl rfl | exact Or.inr rfl) (pe_callTy (k_tupOf K) (by rfl) m_tuple (by decide +kernel) (pa_cons (pe_lc (own := [("entry", 5)]) rfl sc28.nd (k_piT K (pv 3)) (blkOk_by (by rfl)) (fun _ _ _ _ _ => (pg_name (i := 5) sc28.nd rfl (by first | exact Or.inl rfl | exact Or.inr rfl))) (fun _ _ _ _ _ => pts_nil) (fun _ _ _ _ _ => (pe_op op_sub (pv 5) (pe_ix (k_ixT K) (pv 3) pe_int (fun _ _ => rfl))))) pa_nil))) (pss_one (ps_dput (hu_of hr) (pv 1) (pv 4) (pe_op (k_catZ K) (pe_dget2 (hu_of hr) (pv 1) (pv 4) (pe_tupZ pa_nil) m2_rfl) (pe_tupZ (pa_cons (pv 2) pa_nil))) rfl)))) (pss_one (ps_ret (pe_callB (k_sortD K (u90 hr)) (by rfl) m_sorted (by decide +kernel) (pa_cons (k_listVals K (by rfl) m_list (pv 1)) pa_nil))))))) ?_) g F.kp (F.bindsN fun _ _ _ _ _ _ us hl => match us, hl with | [_], _ => rfl)
  rintro ⟨n, m, T⟩ W
  dsimp only at W
  have hn := W.n8
  have hm := W.m8
  have e1 : enumD (T.map zT) = T.zipIdx.map fun p => .tuple .p [iD p.2, zT p.1] := by
    unfold enumD
    rw [List.zipIdx_map]
    simp [iD, Function.comp_def]
  refine sd_tally T.zipIdx (fun p => .tuple .p [iD p.2, zT p.1]) (fun p => shape p.1) (fun p => e1 ▸ w_enumT (a_cons (e_var rfl) a_nil)) (fun p a => g_tup2) (fun p i a ha => ?_) (by have := W.rows; simp; omega) ?_
  · obtain ⟨row, k⟩ := a
    have hmem := List.mem_of_getElem? ha
    have hrow : row ∈ T := (List.mem_zipIdx hmem).2.2 ▸ List.getElem_mem _
    have hk : k = i := by
      rw [List.getElem?_zipIdx] at ha
      cases hT : T[i]? with
      | none => rw [hT] at ha; simp at ha
      | some r => rw [hT] at ha; simp at ha; exact ha.2.symm
    subst hk
    have hr := W.cols row hrow
    have h1 := W.m1
    exact ta_set (E1.is (e_cb (a_cons (e_lcm row Dat.int (w_tup (e_var rfl)) (fun a => g_name 5) (by simp) (fun x _ => e_op (e_var rfl) (e_op (e_var rfl) (e_int 0) (rd_ixT (at_row (l := row) (c := 0) (by omega)))) rd_sub) (by omega)) a_nil) cd_tupL) (by simp [shape, kD])) (ta_put rfl rfl rfl (.cons _ (.cons _ (.drop _ (.drop _ (.drop _ (.refl _)))))))
  · have eS : T.zipIdx.map (fun p => shape p.1) = T.map shape := by
      apply List.ext_getElem?
      intro j
      simp [List.getElem?_zipIdx]
      cases T[j]? <;> simp
    rw [eS]
    refine sd_retR (er_cb1 (e_listVals rfl) fun d hd => ?_) fun d hd => hd
    obtain ⟨ks, rfl, nd, mem, len⟩ := hd
    have len : ks.length ≤ 8 := by
      rw [List.length_map] at len
      have := W.rows
      omega
    have e3 : (ks.map fun k => iDs (idxs (T.map shape) k)) = (ks.map (idxs (T.map shape))).map nT := by
      rw [List.map_map]
      rfl
    rw [e3]
    refine (cd_sortD (L := ks.map (idxs (T.map shape))) (enc := nT) ?_ (.inl (.inl ?_)) fun l _ => ⟨nT_nn l, Nat.le_trans (depth_nT l) (by omega)⟩).cr ⟨_, rfl, ?_, fun b hb => ?_⟩
    · intro d hd d' hd'
      obtain ⟨p, _, rfl⟩ := List.mem_map.mp hd
      obtain ⟨q, _, rfl⟩ := List.mem_map.mp hd'
      exact alike_nT p q
    · intro d hd
      obtain ⟨b, hb, rfl⟩ := List.mem_map.mp hd
      obtain ⟨k, hk, rfl⟩ := List.mem_map.mp hb
      obtain ⟨i, hi⟩ := List.mem_iff_getElem?.mp ((mem k).mp hk)
      have hne : idxs (T.map shape) k ≠ [] := List.ne_nil_of_mem (idxs_mem.mpr hi)
      cases hx : idxs (T.map shape) k with
      | nil => exact absurd hx hne
      | cons a r => exact ⟨(iD a).py, Dat.pys (r.map iD), rfl⟩
    · rw [List.length_mergeSort, List.length_map]
      exact len
    · have := (List.mergeSort_perm _ _).mem_iff.mp hb
      obtain ⟨k, hk, rfl⟩ := List.mem_map.mp this
      exact ⟨k, (mem k).mp hk, rfl⟩

theorem sc30 : FnScope ["table", "rows", "columns", "pairs", "rows_first", "many"] ["table"] (defScope (top 30)) := ⟨rfl, rfl, rfl, by decide +kernel, rfl, by decide +kernel, by decide +kernel⟩
abbrev sp_least_without (K : PySem.W.Frag) : Sp := SpI K (ι := Nat × Nat × List (List Int)) (fun i => [tab i.2.2]) (fun i => Tb i.1 i.2.1 i.2.2 ∧ i.1 ≤ 5 ∧ i.2.1 ≤ 5 ∧ ∀ r ∈ choicesL i.1, ∀ c ∈ choicesL i.2.1, 1 < r.length → 1 < c.length → firstOf r.length c.length (place i.2.2 r c) ≠ none) (fun i d => d = .none)
theorem ok_least_without (T : Top K mg h) : C8.Cal P w K mg base 4 "least_without" (sp_least_without K) [] := by
  have c_choices := ok_choices (P := P) (w := w) (base := base) T
  have c_first_of := ok_first_of (P := P) (w := w) (base := base) T
  have c_in_sequence := ok_in_sequence (P := P) (w := w) (base := base) T
  have m_len := T.free 67 "len"
  have m_sorted := T.free 74 "sorted"
  obtain ⟨fd, F⟩ := T.says.def_ 20 (d := dd30) rfl
  have g : mg "least_without" = some (.ref (He.ga K "least_without")) := He.glo_ok T.kin T.ns (T.says.fact 20 (f := .glo "least_without") rfl)
  refine cal_mk (fn_ok F sc30 (fun i => rfl) (fun cdv A outer s H E hr => (pss_cons (ps_setLc2 (i := 3) (own := [("rows", 1), ("columns", 2)]) (vs1 := [2]) rfl sc30.nd rfl rfl (sw_true rfl rfl rfl (by decide +kernel)) (k_piL K (C8.pe_c c_choices hr (by decide) (by rfl) (pa_cons (pe_callB (k_len K) (by rfl) m_len PySem.boot_len (pa_cons (pv 0) pa_nil)) pa_nil))) (blkOk_by (by rfl)) (by decide) (fun _ _ _ _ _ => (pg_name (i := 1) sc30.nd rfl (by first | exact Or.inl rfl | exact Or.inr rfl))) (fun _ _ _ _ _ => pts_nil) (fun _ _ _ _ _ => (k_piL K (C8.pe_c c_choices hr (by decide) (by rfl) (pa_cons (pe_callB (k_len K) (by rfl) m_len PySem.boot_len (pa_cons (pe_ix (k_ixT K) (pv 0) pe_int (fun _ _ => rfl)) pa_nil)) pa_nil)))) (fun _ _ _ _ _ => (pg_name (i := 2) sc30.nd rfl (by first | exact Or.inl rfl | exact Or.inr rfl))) (fun _ _ _ _ _ => pts_nil) (fun _ _ _ _ _ => (pe_tupZ (pa_cons (pv 1) (pa_cons (pv 2) pa_nil))))) (pss_cons (ps_set (i := 4) sc30.nd rfl (by first | exact Or.inl rfl | exact Or.inr rfl) (pe_callB (k_sortD K (u90 hr)) (by rfl) m_sorted (by decide +kernel) (pa_cons (pe_lc (own := [("rows", 1), ("columns", 2)]) rfl sc30.nd (k_piL K (pv 3)) (blkOk_by (by rfl)) (fun _ _ _ _ _ => (k_tuple K (n := 2) (pgs_cons (pg_name (i := 1) sc30.nd rfl (by first | exact Or.inl rfl | exact Or.inr rfl)) (pgs_cons (pg_name (i := 2) sc30.nd rfl (by first | exact Or.inl rfl | exact Or.inr rfl)) pgs_nil)))) (fun _ _ _ _ _ => pts_nil) (fun _ _ _ _ _ => (pe_tupZ (pa_cons (pe_op op_add (pe_callB (k_len K) (by rfl) m_len PySem.boot_len (pa_cons (pv 1) pa_nil)) (pe_callB (k_len K) (by rfl) m_len PySem.boot_len (pa_cons (pv 2) pa_nil))) (pa_cons (pv 1) (pa_cons (pv 2) pa_nil)))))) pa_nil))) (pss_cons (ps_for PassesOwn.never rfl (k_piL K (pv 4)) (k_tuple K (n := 3) (pgs_cons (pg_name (i := 5) sc30.nd rfl (by first | exact Or.inl rfl | exact Or.inr rfl)) (pgs_cons (pg_name (i := 1) sc30.nd rfl (by first | exact Or.inl rfl | exact Or.inr rfl)) (pgs_cons (pg_name (i := 2) sc30.nd rfl (by first | exact Or.inl rfl | exact Or.inr rfl)) pgs_nil)))) (pss_one (ps_if (PW.pt (pw_and (pt_cmpR op_gt (pe_callB (k_len K) (by rfl) m_len PySem.boot_len (pa_cons (pv 1) pa_nil)) pe_int (nomark _)) (pw_and (pt_cmpR op_gt (pe_callB (k_len K) (by rfl) m_len PySem.boot_len (pa_cons (pv 2) pa_nil)) pe_int (nomark _)) (pw_and1 (pt_cmpR op_isN (C8.pe_c c_first_of hr (by decide) (by rfl) (pa_cons (C8.pe_c c_in_sequence hr (by decide) (by rfl) (pa_cons (pv 0) (pa_cons (pv 1) (pa_cons (pv 2) pa_nil)))) pa_nil)) pe_non (nomark _)))))) (pss_one (ps_ret (pe_tupZ (pa_cons (pv 1) (pa_cons (pv 2) pa_nil))))) pss_nil))) (pss_one (ps_ret pe_non)))))) ?_) g F.kp (F.bindsN fun _ _ _ _ _ _ us hl => match us, hl with | [_], _ => rfl)
  rintro ⟨n, m, T⟩ ⟨W, hn, hm, hg⟩
  dsimp only at W hn hm hg
  have ln := choicesL_len hn
  have lm := choicesL_len hm
  have lP : ((choicesL n).flatMap fun r => (choicesL m).map fun c => (r, c)).length ≤ 1000 := by
    have := len_flatMap_le (f := fun r => (choicesL m).map fun c => (r, c)) (B := 31) (l := choicesL n) fun a _ => by rw [List.length_map]; exact lm
    have h2 : (choicesL n).length * 31 ≤ 31 * 31 := Nat.mul_le_mul_right _ ln
    omega
  have mP : ∀ p ∈ (choicesL n).flatMap fun r => (choicesL m).map fun c => (r, c), p.1 ∈ choicesL n ∧ p.2 ∈ choicesL m := fun p hp => by
    obtain ⟨r, hr, h2⟩ := List.mem_flatMap.mp hp
    obtain ⟨c, hc, rfl⟩ := List.mem_map.mp h2
    exact ⟨hr, hc⟩
  have e0 : ∀ {δ : Sl}, δ[0]? = some (some (.d (tab T))) → E1 K (tOp (rIxT K) (tVar 0) (tC (.int 0))) δ (zT (T.getD 0 [])) := fun h => e_op (e_var h) (e_int 0) (rd_ixT (at_tab W.toRect (r := 0) W.n1))
  have cch : ∀ {δ : Sl} {te : TE} {E : _} {k : Nat}, E1 K te δ (.int (k : Nat)) → k ≤ 6 → E1 K (tCall (sp_choices K) [] E (tCons te tNil)) δ (.list ((choicesL k).map nT)) := fun h hk => E1.is (e_call (res := fun n => .list ((List.range (2 ^ n - 1)).map fun k => nT ((List.range n).filter fun i => decide (Builtin.bitAnd ((1 + (k : Nat) : Int) / 2 ^ i) 1 = 1)))) _ (a_cons h a_nil) hk) (by simp [choicesL, Function.comp_def])
  refine sd_set (E1.is (x := .list (((choicesL n).flatMap fun r => (choicesL m).map fun c => (r, c)).map pairD)) (e_lc2 (choicesL n) nT (fun _ => choicesL m) (fun _ => nT) (fun _ _ => true) (f := fun r c => pairD (r, c))
    (w_list (cch (e_len (n := n) (e_var rfl) (by rw [List.length_map]; exact W.rows)) (by omega))) (fun a => g_name 1) (by simp) (fun a _ => w_list (cch (e_len (n := m) (e0 rfl) (by rw [List.length_map]; exact row_len W.toRect W.n1)) (by omega))) (fun a b => g_name 2) (by simp) (fun a _ b _ => t_yes)
    (fun r hr c hc _ => e_tupZ (a_cons (e_var rfl) (a_cons (e_var rfl) a_nil))) ?_) ?_) ?_
  · have e : ((choicesL n).flatMap fun a => ((choicesL m).filter fun _ => true).map fun c => pairD (a, c)).length = ((choicesL n).flatMap fun r => (choicesL m).map fun c => (r, c)).length := by
      simp [filter_yes, List.length_flatMap]
    rw [e]
    omega
  · simp [filter_yes, List.map_flatMap, Function.comp_def]
  generalize hP : ((choicesL n).flatMap fun r => (choicesL m).map fun c => (r, c)) = P at lP mP ⊢
  refine sd_set (e_cb (a_cons (e_lcm P pairD (w_list (e_var rfl)) (fun a => g_tup2) (by simp) (f := triD) (fun p hp => e_tupZ (a_cons (e_op (e_len (n := p.1.length) (e_var rfl) (by simp)) (e_len (n := p.2.length) (e_var rfl) (by simp)) rd_add) (a_cons (e_var rfl) (a_cons (e_var rfl) a_nil)))) (by omega)) a_nil)
    (cd_sortD (L := P) (enc := triD) ?_ (.inl (.inl ?_)) fun p _ => ⟨tri_nn p, depth_tri p⟩)) ?_
  · intro d hd d' hd'
    obtain ⟨p, _, rfl⟩ := List.mem_map.mp hd
    obtain ⟨q, _, rfl⟩ := List.mem_map.mp hd'
    exact alike_tri p q
  · intro d hd
    obtain ⟨p, _, rfl⟩ := List.mem_map.mp hd
    exact ⟨.int ((p.1.length : Int) + (p.2.length : Int)), [(nT p.1).py, (nT p.2).py], rfl⟩
  · refine sd_for (P.mergeSort (dataLe false fun p => (triD p).py)) triD (fun _ => True) (w_list (e_var rfl)) (fun a => g_tup3) trivial (fun i p hp _ => ?_) (fun _ => sd_ret e_non rfl)
    obtain ⟨r, c⟩ := p
    have hp := (List.mergeSort_perm _ _).mem_iff.mp (List.mem_of_getElem? hp)
    obtain ⟨hr, hc⟩ := mP _ hp
    dsimp only at hr hc
    obtain ⟨r1, r2, r3⟩ := choicesL_lt hr
    obtain ⟨c1, c2, c3⟩ := choicesL_lt hc
    refine sd_need (T1.is (t_and (a := decide (1 < r.length)) (T1.is (t_test (e_op (e_len (n := r.length) (e_var rfl) (by simp)) (e_int 1) rd_gt)) (by rw [Bool.eq_iff_iff]; simp; omega)) fun h1 => t_and (a := decide (1 < c.length)) (b := false) (T1.is (t_test (e_op (e_len (n := c.length) (e_var rfl) (by simp)) (e_int 1) rd_gt)) (by rw [Bool.eq_iff_iff]; simp; omega)) fun h2 => ?_) (by simp)) ⟨trivial, .cons _ (.drop _ (.drop _ (.cons _ (.cons _ (.drop _ (.refl _))))))⟩
    have h1 := of_decide_eq_true h1
    have h2 := of_decide_eq_true h2
    have W2 : Tb r.length c.length (place T r c) := ⟨place_rect, by omega, by omega, by omega, by omega⟩
    refine T1.is (t_test (e_op (e_call (res := fun i : Nat × Nat × List (List Int) => oP (firstOf i.1 i.2.1 i.2.2)) (r.length, c.length, place T r c) (a_cons (e_call (res := fun i : List (List Int) × List Nat × List Nat => tab (place i.1 i.2.1 i.2.2)) (T, r, c) (a_cons (e_var rfl) (a_cons (e_var rfl) (a_cons (e_var rfl) a_nil))) ⟨n, m, W.toRect, r1, c1, by dsimp only; omega, by dsimp only; omega⟩) a_nil) ⟨W2, by dsimp only; omega⟩) e_non rd_isN)) ?_
    have := hg r hr c hc h1 h2
    dsimp only
    cases hf : firstOf r.length c.length (place T r c) with
    | none => exact absurd hf this
    | some p => rfl

theorem sc54 : FnScope ["table"] ["table"] (defScope (top 54)) := ⟨rfl, rfl, rfl, by decide +kernel, rfl, by decide +kernel, by decide +kernel⟩
abbrev sp_first_order (K : PySem.W.Frag) : Sp := SpI K (ι := Nat × Nat × List (List Int)) (fun i => [tab i.2.2]) (fun i => Tb i.1 i.2.1 i.2.2 ∧ i.1 ≤ 6 ∧ i.2.1 ≤ 6) (fun i d => d = oP (firstOf i.1 i.2.1 i.2.2))
theorem ok_first_order (T : Top K mg h) : C8.Cal P w K mg base 5 "first_order" (sp_first_order K) [] := by
  have c_need_table := ok_need_table (P := P) (w := w) (base := base) T
  have c_need_few := ok_need_few (P := P) (w := w) (base := base) T
  have c_first_of := ok_first_of (P := P) (w := w) (base := base) T
  obtain ⟨t_MOST_FIRST, k_MOST_FIRST⟩ := T.int 79 "MOST_FIRST" 6
  obtain ⟨fd, F⟩ := T.says.def_ 38 (d := dd54) rfl
  have g : mg "first_order" = some (.ref (He.ga K "first_order")) := He.glo_ok T.kin T.ns (T.says.fact 38 (f := .glo "first_order") rfl)
  refine cal_mk (fn_ok F sc54 (fun i => rfl) (fun cdv A outer s H E hr => (pss_cons (ps_expr (C8.pe_c c_need_table hr (by decide) (by rfl) (pa_cons (pv 0) pa_nil))) (pss_cons (ps_expr (C8.pe_c c_need_few hr (by decide) (by rfl) (pa_cons (pv 0) (pa_cons (pe_glob (v := .int 6) (by rfl) k_MOST_FIRST ⟨_, rfl⟩) pa_nil)))) (pss_one (ps_ret (C8.pe_c c_first_of hr (by decide) (by rfl) (pa_cons (pv 0) pa_nil))))))) ?_) g F.kp (F.bindsN fun _ _ _ _ _ _ us hl => match us, hl with | [_], _ => rfl)
  rintro ⟨n, m, T⟩ ⟨W, hn, hm⟩
  dsimp only at W hn hm
  exact sd_drop (E1.er (e_call (res := fun _ => .none) (n, m, T) (a_cons (e_var rfl) a_nil) W) trivial) (sd_drop (E1.er (e_call (res := fun _ => .none) (n, m, T, 6) (a_cons (e_var rfl) (a_cons (e_int 6) a_nil)) ⟨W, hn, hm⟩) trivial) (sd_ret (e_call (res := fun i : Nat × Nat × List (List Int) => oP (firstOf i.1 i.2.1 i.2.2)) (n, m, T) (a_cons (e_var rfl) a_nil) ⟨W, hn⟩) rfl))

theorem sc55 : FnScope ["table"] ["table"] (defScope (top 55)) := ⟨rfl, rfl, rfl, by decide +kernel, rfl, by decide +kernel, by decide +kernel⟩
abbrev sp_all_orders (K : PySem.W.Frag) : Sp := SpI K (ι := Nat × Nat × List (List Int)) (fun i => [tab i.2.2]) (fun i => Tb i.1 i.2.1 i.2.2 ∧ i.1 ≤ 5 ∧ i.2.1 ≤ 5) (fun i d => d = .list ((everyOf i.1 i.2.1 i.2.2).map pairD))
theorem ok_all_orders (T : Top K mg h) : C8.Cal P w K mg base 5 "all_orders" (sp_all_orders K) [] := by
  have c_need_table := ok_need_table (P := P) (w := w) (base := base) T
  have c_need_few := ok_need_few (P := P) (w := w) (base := base) T
  have c_every_of := ok_every_of (P := P) (w := w) (base := base) T
  obtain ⟨t_MOST_ALL, k_MOST_ALL⟩ := T.int 80 "MOST_ALL" 5
  obtain ⟨fd, F⟩ := T.says.def_ 39 (d := dd55) rfl
  have g : mg "all_orders" = some (.ref (He.ga K "all_orders")) := He.glo_ok T.kin T.ns (T.says.fact 39 (f := .glo "all_orders") rfl)
  refine cal_mk (fn_ok F sc55 (fun i => rfl) (fun cdv A outer s H E hr => (pss_cons (ps_expr (C8.pe_c c_need_table hr (by decide) (by rfl) (pa_cons (pv 0) pa_nil))) (pss_cons (ps_expr (C8.pe_c c_need_few hr (by decide) (by rfl) (pa_cons (pv 0) (pa_cons (pe_glob (v := .int 5) (by rfl) k_MOST_ALL ⟨_, rfl⟩) pa_nil)))) (pss_one (ps_ret (C8.pe_c c_every_of hr (by decide) (by rfl) (pa_cons (pv 0) pa_nil))))))) ?_) g F.kp (F.bindsN fun _ _ _ _ _ _ us hl => match us, hl with | [_], _ => rfl)
  rintro ⟨n, m, T⟩ ⟨W, hn, hm⟩
  dsimp only at W hn hm
  exact sd_drop (E1.er (e_call (res := fun _ => .none) (n, m, T) (a_cons (e_var rfl) a_nil) W) trivial) (sd_drop (E1.er (e_call (res := fun _ => .none) (n, m, T, 5) (a_cons (e_var rfl) (a_cons (e_int 5) a_nil)) ⟨W, hn, hm⟩) trivial) (sd_ret (e_call (res := fun i : Nat × Nat × List (List Int) => .list ((everyOf i.1 i.2.1 i.2.2).map pairD)) (n, m, T) (a_cons (e_var rfl) a_nil) ⟨W, hn, hm⟩) rfl))

theorem sc56 : FnScope ["table"] ["table"] (defScope (top 56)) := ⟨rfl, rfl, rfl, by decide +kernel, rfl, by decide +kernel, by decide +kernel⟩
abbrev sp_like_rows (K : PySem.W.Frag) : Sp := SpI K (ι := Nat × Nat × List (List Int)) (fun i => [tab i.2.2]) (fun i => Tb i.1 i.2.1 i.2.2) (fun i d => ∃ L : List (List Nat), d = .list (L.map nT) ∧ L.length ≤ 8 ∧ ∀ b ∈ L, ∃ k ∈ i.2.2.map shape, b = idxs (i.2.2.map shape) k)
theorem ok_like_rows (T : Top K mg h) : C8.Cal P w K mg base 5 "like_rows" (sp_like_rows K) [] := by
  have c_need_table := ok_need_table (P := P) (w := w) (base := base) T
  have c_like_blocks := ok_like_blocks (P := P) (w := w) (base := base) T
  obtain ⟨fd, F⟩ := T.says.def_ 40 (d := dd56) rfl
  have g : mg "like_rows" = some (.ref (He.ga K "like_rows")) := He.glo_ok T.kin T.ns (T.says.fact 40 (f := .glo "like_rows") rfl)
  refine cal_mk (fn_ok F sc56 (fun i => rfl) (fun cdv A outer s H E hr => (pss_cons (ps_expr (C8.pe_c c_need_table hr (by decide) (by rfl) (pa_cons (pv 0) pa_nil))) (pss_one (ps_ret (C8.pe_c c_like_blocks hr (by decide) (by rfl) (pa_cons (pv 0) pa_nil)))))) ?_) g F.kp (F.bindsN fun _ _ _ _ _ _ us hl => match us, hl with | [_], _ => rfl)
  rintro ⟨n, m, T⟩ W
  exact sd_drop (E1.er (e_call (res := fun _ => .none) (n, m, T) (a_cons (e_var rfl) a_nil) W) trivial) (sd_retR (er_call (n, m, T) (a_cons (e_var rfl) a_nil) W) fun d hd => hd)

theorem sc57 : FnScope ["table"] ["table"] (defScope (top 57)) := ⟨rfl, rfl, rfl, by decide +kernel, rfl, by decide +kernel, by decide +kernel⟩
abbrev sp_no_order (K : PySem.W.Frag) : Sp := SpI K (ι := Nat × Nat × List (List Int)) (fun i => [tab i.2.2]) (fun i => Tb i.1 i.2.1 i.2.2 ∧ i.1 ≤ 5 ∧ i.2.1 ≤ 5 ∧ ∀ r ∈ choicesL i.1, ∀ c ∈ choicesL i.2.1, 1 < r.length → 1 < c.length → firstOf r.length c.length (place i.2.2 r c) ≠ none) (fun i d => d = .none)
theorem ok_no_order (T : Top K mg h) : C8.Cal P w K mg base 5 "no_order" (sp_no_order K) [] := by
  have c_need_table := ok_need_table (P := P) (w := w) (base := base) T
  have c_need_few := ok_need_few (P := P) (w := w) (base := base) T
  have c_least_without := ok_least_without (P := P) (w := w) (base := base) T
  obtain ⟨t_MOST_ALL, k_MOST_ALL⟩ := T.int 80 "MOST_ALL" 5
  obtain ⟨fd, F⟩ := T.says.def_ 41 (d := dd57) rfl
  have g : mg "no_order" = some (.ref (He.ga K "no_order")) := He.glo_ok T.kin T.ns (T.says.fact 41 (f := .glo "no_order") rfl)
  refine cal_mk (fn_ok F sc57 (fun i => rfl) (fun cdv A outer s H E hr => (pss_cons (ps_expr (C8.pe_c c_need_table hr (by decide) (by rfl) (pa_cons (pv 0) pa_nil))) (pss_cons (ps_expr (C8.pe_c c_need_few hr (by decide) (by rfl) (pa_cons (pv 0) (pa_cons (pe_glob (v := .int 5) (by rfl) k_MOST_ALL ⟨_, rfl⟩) pa_nil)))) (pss_one (ps_ret (C8.pe_c c_least_without hr (by decide) (by rfl) (pa_cons (pv 0) pa_nil))))))) ?_) g F.kp (F.bindsN fun _ _ _ _ _ _ us hl => match us, hl with | [_], _ => rfl)
  rintro ⟨n, m, T⟩ hk
  have hk' := hk
  obtain ⟨W, hn, hm, hg⟩ := hk'
  dsimp only at W hn hm hg
  exact sd_drop (E1.er (e_call (res := fun _ => .none) (n, m, T) (a_cons (e_var rfl) a_nil) W) trivial) (sd_drop (E1.er (e_call (res := fun _ => .none) (n, m, T, 5) (a_cons (e_var rfl) (a_cons (e_int 5) a_nil)) ⟨W, hn, hm⟩) trivial) (sd_ret (e_call (res := fun _ : Nat × Nat × List (List Int) => .none) (n, m, T) (a_cons (e_var rfl) a_nil) hk) rfl))

theorem sc59 : FnScope ["row", "column", "end", "entry"] ["row", "column", "end"] (defScope (top 59)) := ⟨rfl, rfl, rfl, by decide +kernel, rfl, by decide +kernel, by decide +kernel⟩
abbrev sp_least_place (K : PySem.W.Frag) : Sp := SpI K (ι := List Int) (fun l => [zT l, .int 0, .int (l.length : Nat)]) (fun l => l ≠ [] ∧ l.length ≤ 1000) (fun l d => d = .tuple .s [.int (minL l), iD (l.idxOf (minL l))])
theorem ok_least_place (T : Top K mg h) : C8.Cal P w K mg base 1 "least_place" (sp_least_place K) [] := by
  have m_min := T.free 75 "min"
  obtain ⟨fd, F⟩ := T.says.def_ 42 (d := dd59) rfl
  have g : mg "least_place" = some (.ref (He.ga K "least_place")) := He.glo_ok T.kin T.ns (T.says.fact 42 (f := .glo "least_place") rfl)
  refine cal_mk (fn_ok F sc59 (fun i => rfl) (fun cdv A outer s H E hr => (pss_cons (ps_set (i := 3) sc59.nd rfl (by first | exact Or.inl rfl | exact Or.inr rfl) (pe_callB (k_minT K (u65 hr)) (by rfl) m_min (by decide +kernel) (pa_cons (pe_slice (k_slT K) (pv 0) (po_some (pv 1)) (po_some (pv 2))) pa_nil))) (pss_one (ps_ret (pe_tupZ (pa_cons (pv 3) (pa_cons (pe_op op_add (pv 1) (k_bmT PySem.F.slot_tuple_index PySem.F.type_tuple_index (k_idxT K) (pe_slice (k_slT K) (pv 0) (po_some (pv 1)) (po_some (pv 2))) (pa_cons (pv 3) pa_nil))) pa_nil))))))) ?_) g F.kp (F.bindsN fun _ _ _ _ _ _ us hl => match us, hl with | [_, _, _], _ => rfl)
  rintro l ⟨hl, hb⟩
  have hm := minL_mem hl
  have sl : ∀ {δ : Sl}, δ[0]? = some (some (.d (zT l))) → δ[1]? = some (some (.d (.int 0))) → δ[2]? = some (some (.d (.int (l.length : Nat)))) → E1 K (tSl (rSlA K) (tVar 0) (tPart (tVar 1)) (tPart (tVar 2))) δ (zT l) := fun h0 h1 h2 =>
    e_sl (e_var h0) (o_some (e_var h1)) (o_some (e_var h2)) (sl_tw (cutD_all (by simp)))
  refine sd_set (d := .int (minL l)) (E1.is (e_cb (a_cons (E1.is (x := .tuple .s ((l.headD 0 :: l.tail).map .int)) (sl rfl rfl rfl) ?_) a_nil) cd_minT) ?_) (sd_ret (e_tupZ (a_cons (e_var rfl) (a_cons (E1.is (e_op (e_var rfl) (e_idxT (sl rfl rfl rfl) (a_cons (e_var rfl) a_nil) hm) rd_add) ?_) a_nil))) rfl)
  · cases l with
    | nil => exact absurd rfl hl
    | cons x xs => rfl
  · cases l with
    | nil => exact absurd rfl hl
    | cons x xs => rfl
  · simp [iD]

theorem sc60 : FnScope ["table", "row"] ["table"] (defScope (top 60)) := ⟨rfl, rfl, rfl, by decide +kernel, rfl, by decide +kernel, by decide +kernel⟩
abbrev sp_first_columns_leastways (K : PySem.W.Frag) : Sp := SpI K (ι := Nat × Nat × List (List Int)) (fun i => [tab i.2.2]) (fun i => Tb i.1 i.2.1 i.2.2) (fun i d => d = .list ((i.2.2.map fun row => row.idxOf (minL row)).map iD))
theorem ok_first_columns_leastways (T : Top K mg h) : C8.Cal P w K mg base 2 "first_columns_leastways" (sp_first_columns_leastways K) [] := by
  have c_least_place := ok_least_place (P := P) (w := w) (base := base) T
  have m_len := T.free 67 "len"
  obtain ⟨fd, F⟩ := T.says.def_ 43 (d := dd60) rfl
  have g : mg "first_columns_leastways" = some (.ref (He.ga K "first_columns_leastways")) := He.glo_ok T.kin T.ns (T.says.fact 43 (f := .glo "first_columns_leastways") rfl)
  refine cal_mk (fn_ok F sc60 (fun i => rfl) (fun cdv A outer s H E hr => (pss_one (ps_ret (pe_lc (own := [("row", 1)]) rfl sc60.nd (k_piT K (pv 0)) (blkOk_by (by rfl)) (fun _ _ _ _ _ => (pg_name (i := 1) sc60.nd rfl (by first | exact Or.inl rfl | exact Or.inr rfl))) (fun _ _ _ _ _ => pts_nil) (fun _ _ _ _ _ => (pe_ix (k_ixT K) (C8.pe_c c_least_place hr (by decide) (by rfl) (pa_cons (pv 1) (pa_cons pe_int (pa_cons (pe_callB (k_len K) (by rfl) m_len PySem.boot_len (pa_cons (pv 1) pa_nil)) pa_nil)))) pe_int (fun _ _ => rfl))))))) ?_) g F.kp (F.bindsN fun _ _ _ _ _ _ us hl => match us, hl with | [_], _ => rfl)
  rintro ⟨n, m, T⟩ W
  dsimp only at W
  have hn := W.n8
  have hm := W.m8
  have h1 := W.m1
  refine sd_ret (e_lcm T zT (w_tup (e_var rfl)) (fun a => g_name 1) (by simp) (f := fun row => iD (row.idxOf (minL row))) (fun row hr => e_op (z := iD (row.idxOf (minL row))) (e_call (res := fun l : List Int => .tuple .s [.int (minL l), iD (l.idxOf (minL l))]) row (a_cons (e_var rfl) (a_cons (e_int 0) (a_cons (e_len (n := row.length) (e_var rfl) (by simp)) a_nil))) ⟨?_, ?_⟩) (e_int 1) (rd_ixT rfl)) (by have := W.rows; omega)) (by simp)
  · intro e
    have := W.cols row hr
    rw [e] at this
    simp at this
    omega
  · have := W.cols row hr
    omega

theorem sc63 : FnScope ["table"] ["table"] (defScope (top 63)) := ⟨rfl, rfl, rfl, by decide +kernel, rfl, by decide +kernel, by decide +kernel⟩
abbrev sp_firsts (K : PySem.W.Frag) : Sp := SpI K (ι := Nat × Nat × List (List Int)) (fun i => [tab i.2.2]) (fun i => Tb i.1 i.2.1 i.2.2) (fun i d => d = nT (i.2.2.map fun row => row.idxOf (minL row)))
theorem ok_firsts (T : Top K mg h) : C8.Cal P w K mg base 5 "firsts" (sp_firsts K) [] := by
  have c_need_table := ok_need_table (P := P) (w := w) (base := base) T
  have c_first_columns_leastways := ok_first_columns_leastways (P := P) (w := w) (base := base) T
  have m_tuple := T.free 66 "tuple"
  obtain ⟨fd, F⟩ := T.says.def_ 44 (d := dd63) rfl
  have g : mg "firsts" = some (.ref (He.ga K "firsts")) := He.glo_ok T.kin T.ns (T.says.fact 44 (f := .glo "firsts") rfl)
  refine cal_mk (fn_ok F sc63 (fun i => rfl) (fun cdv A outer s H E hr => (pss_cons (ps_expr (C8.pe_c c_need_table hr (by decide) (by rfl) (pa_cons (pv 0) pa_nil))) (pss_one (ps_ret (pe_callTy (k_tupZ K) (by rfl) m_tuple (by decide +kernel) (pa_cons (C8.pe_c c_first_columns_leastways hr (by decide) (by rfl) (pa_cons (pv 0) pa_nil)) pa_nil)))))) ?_) g F.kp (F.bindsN fun _ _ _ _ _ _ us hl => match us, hl with | [_], _ => rfl)
  rintro ⟨n, m, T⟩ W
  exact sd_drop (E1.er (e_call (res := fun _ => .none) (n, m, T) (a_cons (e_var rfl) a_nil) W) trivial) (sd_ret (e_cb (a_cons (e_call (res := fun i : Nat × Nat × List (List Int) => .list ((i.2.2.map fun row => row.idxOf (minL row)).map iD)) (n, m, T) (a_cons (e_var rfl) a_nil) W) a_nil) cd_tupZ) rfl)

end
end Mix

/-! my data layer: code that draws from a feed, a list [a, b, c] at f -/
namespace DL
open PySem PySem.Spec L2 RZ
open Evl (Ex ex_l ex_t)
structure XF (f : Addr) (G H G2 H2 : Hp) : Prop where
  gg : Ex G G2
  gh : Ex G2 H2
  hh : ∀ a o, a ≠ f → H a = some o → H2 a = some o
  fr : ∀ a o, a ≠ f → G a = none → H a = some o → Mut (some o) → G2 a = none
def FdOk (H : Hp) (f : Addr) (N : Nat) : Prop := ∃ a b c : Int, H f = some (.lst [.int a, .int b, .int c]) ∧ 0 ≤ a ∧ 0 ≤ b ∧ b < 10 ^ 40 ∧ 0 ≤ c ∧ c ≤ (N : Int)
structure Fd (G H : Hp) (f : Addr) (N : Nat) : Prop where
  nd : G f = none
  ok : FdOk H f N
section
variable {G H G2 H2 G3 H3 : Hp} {f : Addr} {N M : Nat}
theorem Xt.xf (x : Xt G H G2 H2) : XF f G H G2 H2 := ⟨x.gg, x.gh, fun a o _ h => x.hh a o h, fun a o _ h1 h2 h3 => x.fr a o h1 h2 h3⟩
theorem Fd.go (h : Fd G H f N) (x : Xt G H G2 H2) : Fd G2 H2 f N := by
  obtain ⟨nd, a, b, c, hf, r⟩ := h
  exact ⟨x.fr f _ nd hf trivial, a, b, c, x.hh _ _ hf, r⟩
theorem Fd.mono (h : Fd G H f N) (l : N ≤ M) : Fd G H f M := by
  obtain ⟨nd, a, b, c, hf, h1, h2, h3, h4, h5⟩ := h
  exact ⟨nd, a, b, c, hf, h1, h2, h3, h4, by omega⟩
theorem XF.trans (x : XF f G H G2 H2) (y : XF f G2 H2 G3 H3) : XF f G H G3 H3 :=
  ⟨x.gg.trans y.gg, y.gh, fun a o n h => y.hh a o n (x.hh a o n h), fun a o n h1 h2 h3 => y.fr a o n (x.fr a o n h1 h2 h3) (x.hh a o n h2) h3⟩
theorem XF.refl (e : Ex G H) : XF f G H G H := (Xt.refl e).xf
/-- a feed made on the way -/
theorem XF.xt (x : Xt G H G2 H2) (n : H f = none) (y : XF f G2 H2 G3 H3) : Xt G H G3 H3 :=
  ⟨x.gg.trans y.gg, fun a o h => y.hh a o (fun z => by subst z; rw [n] at h; cases h) (x.hh a o h), y.gh, fun a o h1 h2 h3 => y.fr a o (fun z => by subst z; rw [n] at h2; cases h2) (x.fr a o h1 h2 h3) (x.hh a o h2) h3⟩
theorem Fd.putH (h : Fd G H f N) {D : Addr} {o : HO} (ne : D ≠ f) : Fd G (upd H D o) f N := by
  obtain ⟨nd, a, b, c, hf, r⟩ := h
  exact ⟨nd, a, b, c, by rw [upd_ne (Ne.symm ne)]; exact hf, r⟩
theorem Fd.putG (h : Fd G H f N) {D : Addr} {o : HO} (ne : D ≠ f) : Fd (upd G D o) H f N := by
  obtain ⟨nd, r⟩ := h
  exact ⟨by rw [upd_ne (Ne.symm ne)]; exact nd, r⟩
theorem Fd.ne (h : Fd G H f N) : H f ≠ none := by
  obtain ⟨nd, a, b, c, hf, r⟩ := h
  rw [hf]
  exact fun z => nomatch z
end
structure OwnF (K : PySem.W.Frag) (f : Addr) (G1 H1 G' H' : Hp) (D : Addr) (ds : List Dat) : Prop where
  xt : XF f G1 H1 G' H'
  nd : G' D = none
  ne : D ≠ f
  hd : ∃ vs, H' D = some (.lst vs) ∧ DrAll K G' vs ds
section
variable {K : PySem.W.Frag} {G1 H1 G' H' G2 H2 : Hp} {f D : Addr} {ds es : List Dat}
theorem OwnF.start (e : Ex G1 H1) (h : H1 D = none) (hf : H1 f ≠ none) : OwnF K f G1 H1 G1 (upd H1 D (.lst [])) D [] :=
  ⟨⟨Ex.refl _, e.trans (Ex.new h), fun a o _ q => Ex.new h a o q, fun a _ _ h1 _ _ => h1⟩, ex_none e h, fun z => hf (z ▸ h), [], upd_same, .nil⟩
theorem OwnF.go (o : OwnF K f G1 H1 G' H' D ds) (x : XF f G' H' G2 H2) : OwnF K f G1 H1 G2 H2 D ds := by
  obtain ⟨xt, nd, ne, vs, hd, da⟩ := o
  exact ⟨xt.trans x, x.fr D _ ne nd hd trivial, ne, vs, x.hh D _ ne hd, da.ext x.gg⟩
theorem OwnF.grow (o : OwnF K f G1 H1 G' H' D ds) (h1 : H1 D = none) {us : List V} (ha : DrAll K G' us es) {vs : List V} (hv : H' D = some (.lst vs)) : OwnF K f G1 H1 G' (upd H' D (.lst (vs ++ us))) D (ds ++ es) := by
  obtain ⟨xt, nd, ne, vs', hd, da⟩ := o
  rw [hv] at hd
  cases hd
  refine ⟨⟨xt.gg, fun a o q => ?_, fun a o n q => ?_, xt.fr⟩, nd, ne, _, upd_same, dpAll_app da ha⟩
  · have ne : a ≠ D := fun z => by subst z; rw [nd] at q; cases q
    rw [upd_ne ne]
    exact xt.gh a o q
  · have ne : a ≠ D := fun z => by subst z; rw [h1] at q; cases q
    rw [upd_ne ne]
    exact xt.hh a o n q
theorem OwnF.done (o : OwnF K f G1 H1 G' H' D ds) (h1 : H1 D = none) : ∃ G2, XF f G1 H1 G2 H' ∧ Dr K G2 (.ref D) (.list ds) ∧ Ex G' G2 ∧ ∀ N, Fd G' H' f N → Fd G2 H' f N := by
  obtain ⟨xt, nd, ne, vs, hd, da⟩ := o
  refine ⟨upd G' D (.lst vs), ⟨xt.gg.trans (Ex.new nd), fun a o q => ?_, xt.hh, fun a u n q1 q2 q3 => ?_⟩, .lst (sqL_of upd_same) (da.ext (Ex.new nd)), Ex.new nd, fun N h => h.putG ne⟩
  · by_cases ne : a = D
    · subst ne; rw [upd_same] at q; cases q; exact hd
    · rw [upd_ne ne] at q; exact xt.gh a o q
  · have ne : a ≠ D := fun z => by subst z; rw [h1] at q2; cases q2
    rw [upd_ne ne]; exact xt.fr a u n q1 q2 q3
theorem OwnF.len (o : OwnF K f G1 H1 G' H' D ds) {vs : List V} (hv : H' D = some (.lst vs)) : vs.length = ds.length := by
  obtain ⟨xt, nd, ne, vs', hd, da⟩ := o
  rw [hv] at hd
  cases hd
  exact dpAll_len da
end
section
variable (K : PySem.W.Frag) (f : Addr)
def EF (te : TE) (δ : Sl) (N M : Nat) (P : Dat → Prop) : Prop := ∀ (σ : L2.St) (G H : Hp), SlOk K G σ δ → Ex G H → Fd G H f N → ∀ Q : VK, (∀ v G2 H2 d, XF f G H G2 H2 → Fd G2 H2 f M → Dr K G2 v d → P d → Q v H2) → te σ H Q
def AF (ta : TA) (δ : Sl) (N M : Nat) (P : List Dat → Prop) : Prop := ∀ (σ : L2.St) (G H : Hp), SlOk K G σ δ → Ex G H → Fd G H f N → ∀ Q : List V → Hp → Prop, (∀ vs G2 H2 ds, XF f G H G2 H2 → Fd G2 H2 f M → DrAll K G2 vs ds → P ds → Q vs H2) → ta σ H Q
def TF (tt : TT) (δ : Sl) (N M : Nat) (P : Bool → Prop) : Prop := ∀ (σ : L2.St) (G H : Hp), SlOk K G σ δ → Ex G H → Fd G H f N → ∀ Q : Bool → Hp → Prop, (∀ b G2 H2, XF f G H G2 H2 → Fd G2 H2 f M → P b → Q b H2) → tt σ H Q
def SF (ts : TS) (δ : Sl) (N : Nat) (NX : Nat → Sl → Prop) (R : Nat → Dat → Prop) : Prop := ∀ (σ : L2.St) (G H : Hp) (D : Ends), SlOk K G σ δ → Ex G H → Fd G H f N →
  (∀ σ2 G2 H2 δ2 M, XF f G H G2 H2 → SlOk K G2 σ2 δ2 → Fd G2 H2 f M → NX M δ2 → D.nx σ2 H2) → (∀ v G2 H2 d M, XF f G H G2 H2 → Fd G2 H2 f M → Dr K G2 v d → R M d → D.rt v H2) → ts D σ H
end
/-- a def that draws: the first argument is the feed -/
def SpF {ι : Type} (K : PySem.W.Frag) (args : ι → List Dat) (ok : ι → Prop) (cost : ι → Nat) (res : ι → Dat → Prop) : Sp := fun vs H Q _ => ∃ i f G N us, ok i ∧ N + cost i ≤ 100000 ∧ vs = V.ref f :: us ∧ Ex G H ∧ Fd G H f N ∧ DrAll K G us (args i) ∧
  ∀ v G2 H2 d, XF f G H G2 H2 → Fd G2 H2 f (N + cost i) → Dr K G2 v d → res i d → Q v H2
section
variable {K : PySem.W.Frag} {f : Addr} {δ : Sl} {te ta tb : TE} {tas : TA} {tt : TT} {ts tu : TS} {N M L : Nat} {P P' P'' : Dat → Prop} {NX NX' : Nat → Sl → Prop} {R R' : Nat → Dat → Prop} {d x y z : Dat} {ds : List Dat}
theorem ER.ef (h : ER K te δ P) : EF K f te δ N N P := fun σ G H s e fd Q q => h σ G H s e Q fun v G2 H2 d x2 d2 p => q v G2 H2 d x2.xf (fd.go x2) d2 p
theorem E1.ef (h : E1 K te δ d) (p : P d) : EF K f te δ N N P := (h.er p).ef
theorem EF.mono (h : EF K f te δ N M P) (hp : ∀ d, P d → P' d) (l : M ≤ L) : EF K f te δ N L P' := fun σ G H s e fd Q q => h σ G H s e fd Q fun v G2 H2 d x2 f2 d2 p => q v G2 H2 d x2 (f2.mono l) d2 (hp d p)
theorem ef_op {r : R2} (ha : EF K f ta δ N M P) (hb : EF K f tb δ M L P') (hr : ∀ x y, P x → P' y → ∃ z, RD K r x y z ∧ P'' z) : EF K f (tOp r ta tb) δ N L P'' := fun σ G H s e fd Q q =>
  ha σ G H s e fd _ fun v G1 H1 d1 x1 f1 dv p1 => hb σ G1 H1 (s.ext x1.gg) x1.gh f1 _ fun u G2 H2 d2 x2 f2 du p2 => by
    obtain ⟨z, hz, pz⟩ := hr d1 d2 p1 p2
    exact hz G2 H2 v u x2.gh (dv.ext x2.gg) du Q fun w G3 H3 x3 d3 => q w G3 H3 z ((x1.trans x2).trans x3.xf) (f2.go x3) d3 pz
theorem af_nil {P : List Dat → Prop} (p : P []) : AF K f tNil δ N N P := fun σ G H s e fd Q q => q [] G H [] (.refl e) fd .nil p
theorem af_cons {P1 : Dat → Prop} {P2 P3 : List Dat → Prop} (h : EF K f te δ N M P1) (hr : AF K f tas δ M L P2) (hp : ∀ d ds, P1 d → P2 ds → P3 (d :: ds)) : AF K f (tCons te tas) δ N L P3 := fun σ G H s e fd Q q =>
  h σ G H s e fd _ fun v G1 H1 d1 x1 f1 dv p1 => hr σ G1 H1 (s.ext x1.gg) x1.gh f1 _ fun vs G2 H2 ds x2 f2 dvs p2 => q (v :: vs) G2 H2 (d1 :: ds) (x1.trans x2) f2 (.cons (dv.ext x2.gg) dvs) (hp d1 ds p1 p2)
theorem A1.af {P : List Dat → Prop} (h : A1 K tas δ ds) (p : P ds) : AF K f tas δ N N P := fun σ G H s e fd Q q => h σ G H s e Q fun vs G2 H2 x2 d2 => q vs G2 H2 ds x2.xf (fd.go x2) d2 p
theorem ef_tupZ {P : List Dat → Prop} (h : AF K f tas δ N M P) (hl : ∀ ds, P ds → ds.length ≤ 100000) : EF K f (tTupZ tas) δ N M fun d => ∃ ds, d = .tuple .s ds ∧ P ds := fun σ G H s e fd Q q =>
  h σ G H s e fd _ fun vs G1 H1 ds x1 f1 dvs p1 => ⟨by rw [dpAll_len dvs]; exact sz_of (hl ds p1), fun p o hp ho => by
    obtain ⟨x2, d2⟩ := newZ x1.gh dvs hp ho
    exact q _ _ _ _ (x1.trans x2.xf) (f1.go x2) d2 ⟨ds, rfl, p1⟩⟩
theorem ef_lst {P : List Dat → Prop} (h : AF K f tas δ N M P) (hl : ∀ ds, P ds → ds.length ≤ 100000) : EF K f (tLst tas) δ N M fun d => ∃ ds, d = .list ds ∧ P ds := fun σ G H s e fd Q q =>
  h σ G H s e fd _ fun vs G1 H1 ds x1 f1 dvs p1 => ⟨by rw [dpAll_len dvs]; exact sz_of (hl ds p1), fun p hp => by
    obtain ⟨x2, d2⟩ := newL x1.gh dvs hp
    exact q _ _ _ _ (x1.trans x2.xf) (f1.go x2) d2 ⟨ds, rfl, p1⟩⟩
theorem ef_cb {P : List Dat → Prop} {r : List V → Hp → VK → Prop} (h : AF K f tas δ N M P) (hr : ∀ ds, P ds → CR K r ds P') : EF K f (tCB r tas) δ N M P' := fun σ G H s e fd Q q =>
  h σ G H s e fd _ fun vs G1 H1 ds x1 f1 dvs p1 => hr ds p1 G1 H1 vs x1.gh dvs Q fun w G2 H2 d' x2 d2 p2 => q w G2 H2 d' (x1.trans x2.xf) (f1.go x2) d2 p2
theorem ef_call {ι : Type} {args : ι → List Dat} {ok : ι → Prop} {res : ι → Dat → Prop} {E : XK} {P : List Dat → Prop} (h : AF K f tas δ N M P) (hr : ∀ ds, P ds → ∃ i, ds = args i ∧ ok i ∧ ∀ d, res i d → P' d) : EF K f (tCall (SpI K args ok res) [] E tas) δ N M P' := fun σ G H s e fd Q q =>
  h σ G H s e fd _ fun vs G1 H1 ds x1 f1 dvs p1 => by
    obtain ⟨i, hi, hk, hp⟩ := hr ds p1
    exact ⟨i, G1, hk, x1.gh, by rw [List.append_nil, ← hi]; exact dvs, fun v G2 H2 d x2 d2 hd => q v G2 H2 d (x1.trans x2.xf) (f1.go x2) d2 (hp d hd)⟩
theorem ef_callF {ι : Type} {args : ι → List Dat} {ok : ι → Prop} {cost : ι → Nat} {res : ι → Dat → Prop} {E : XK} {P : List Dat → Prop} {k c : Nat} (hk : δ[k]? = some (some (.r (.ref f)))) (h : AF K f tas δ N M P) (hr : ∀ ds, P ds → ∃ i, ds = args i ∧ ok i ∧ cost i ≤ c ∧ ∀ d, res i d → P' d) (hc : M + c ≤ 100000) :
    EF K f (tCall (SpF K args ok cost res) [] E (tCons (tVar k) tas)) δ N (M + c) P' := fun σ G H s e fd Q q => by
  obtain ⟨v, h1, h2⟩ := s.get hk
  have h2 : v = .ref f := h2
  subst h2
  refine ⟨_, h1, h σ G H s e fd _ fun vs G1 H1 ds x1 f1 dvs p1 => ?_⟩
  obtain ⟨i, hi, hk, hci, hp⟩ := hr ds p1
  exact ⟨i, f, G1, M, vs, hk, by omega, by rw [List.append_nil], x1.gh, f1, by rw [← hi]; exact dvs, fun v G2 H2 d x2 f2 d2 hd => q v G2 H2 d (x1.trans x2) (f2.mono (by omega)) d2 (hp d hd)⟩
theorem tf_test {Pb : Bool → Prop} (h : EF K f te δ N M fun d => ∃ b, d = .bool b ∧ Pb b) : TF K f (tTest te) δ N M Pb := fun σ G H s e fd Q q => h σ G H s e fd _ fun v G1 H1 d x1 f1 d1 p1 => by
  obtain ⟨b, rfl, pb⟩ := p1
  cases d1
  exact ⟨b, rfl, q b G1 H1 x1 f1 pb⟩
theorem T1.tf {b : Bool} {Pb : Bool → Prop} (h : T1 K tt δ b) (p : Pb b) : TF K f tt δ N N Pb := fun σ G H s e fd Q q => h σ G H s e Q fun G2 H2 x2 => q b G2 H2 x2.xf (fd.go x2) p
theorem ef_if {Pb : Bool → Prop} (h : TF K f tt δ N M Pb) (h1 : Pb true → EF K f ta δ M L P) (h2 : Pb false → EF K f tb δ M L P) : EF K f (tIf tt ta tb) δ N L P := fun σ G H s e fd Q q =>
  h σ G H s e fd _ fun b G1 H1 x1 f1 pb => by
    cases b with
    | true => exact h1 pb σ G1 H1 (s.ext x1.gg) x1.gh f1 Q fun w G2 H2 d x2 f2 d2 p2 => q w G2 H2 d (x1.trans x2) f2 d2 p2
    | false => exact h2 pb σ G1 H1 (s.ext x1.gg) x1.gh f1 Q fun w G2 H2 d x2 f2 d2 p2 => q w G2 H2 d (x1.trans x2) f2 d2 p2
/-! statements -/
theorem SF.seq (h1 : SF K f ts δ N NX R) (h2 : ∀ M δ2, NX M δ2 → SF K f tu δ2 M NX' R) : SF K f (tSeq ts tu) δ N NX' R := fun σ G H D s e fd nx rt =>
  h1 σ G H { D with nx := tu D } s e fd (fun σ2 G2 H2 δ2 M x2 s2 f2 n2 => h2 M δ2 n2 σ2 G2 H2 D s2 x2.gh f2 (fun σ3 G3 H3 δ3 M3 x3 s3 f3 n3 => nx σ3 G3 H3 δ3 M3 (x2.trans x3) s3 f3 n3) fun v G3 H3 d M3 x3 f3 d3 r => rt v G3 H3 d M3 (x2.trans x3) f3 d3 r) rt
theorem sf_set {k : Nat} (h : EF K f te δ N M P) (h2 : ∀ d, P d → SF K f ts (δ.set k (some (.d d))) M NX R) : SF K f (tSeq (tAsg te (gName k)) ts) δ N NX R := fun σ G H D s e fd nx rt =>
  h σ G H s e fd _ fun v G2 H2 d x2 f2 d2 p => h2 d p _ G2 H2 D (SlOk.set (o := some v) (s := some (.d d)) d2 k (s.ext x2.gg)) x2.gh f2 (fun σ3 G3 H3 δ3 M3 x3 s3 f3 n3 => nx σ3 G3 H3 δ3 M3 (x2.trans x3) s3 f3 n3) fun v G3 H3 d M3 x3 f3 d3 r => rt v G3 H3 d M3 (x2.trans x3) f3 d3 r
theorem sf_par {i j : Nat} {P : Dat → Dat → Prop} (h : AF K f tas δ N M fun ds => ∃ x y, ds = [x, y] ∧ P x y) (h2 : ∀ x y, P x y → SF K f ts ((δ.set i (some (.d x))).set j (some (.d y))) M NX R) : SF K f (tSeq (tPar i j tas) ts) δ N NX R := fun σ G H D s e fd nx rt =>
  h σ G H s e fd _ fun vs G2 H2 ds x2 f2 d2 p => by
    obtain ⟨x, y, rfl, p⟩ := p
    cases d2 with
    | cons a1 t1 =>
      cases t1 with
      | cons a2 t2 =>
        cases t2
        exact ⟨_, _, rfl, h2 x y p _ G2 H2 D (SlOk.set (o := some _) (s := some (.d y)) a2 j (SlOk.set (o := some _) (s := some (.d x)) a1 i (s.ext x2.gg))) x2.gh f2 (fun σ3 G3 H3 δ3 M3 x3 s3 f3 n3 => nx σ3 G3 H3 δ3 M3 (x2.trans x3) s3 f3 n3) fun v G3 H3 d M3 x3 f3 d3 r => rt v G3 H3 d M3 (x2.trans x3) f3 d3 r⟩
theorem sf_pair {i j : Nat} {P : Dat → Dat → Prop} (h : EF K f te δ N M fun d => ∃ x y, d = .tuple .s [x, y] ∧ P x y) (h2 : ∀ x y, P x y → SF K f ts ((δ.set i (some (.d x))).set j (some (.d y))) M NX R) : SF K f (tSeq (tAsg te (gTup K 2 (gCons (gName i) (gCons (gName j) gNil)))) ts) δ N NX R := fun σ G H D s e fd nx rt =>
  h σ G H s e fd _ fun v G2 H2 d x2 f2 d2 p => by
    obtain ⟨x, y, rfl, p⟩ := p
    exact g_tup2 σ G2 H2 v (s.ext x2.gg) x2.gh d2 _ fun σ2 s2 _ => h2 x y p _ G2 H2 D s2 x2.gh f2 (fun σ3 G3 H3 δ3 M3 x3 s3 f3 n3 => nx σ3 G3 H3 δ3 M3 (x2.trans x3) s3 f3 n3) fun v G3 H3 d M3 x3 f3 d3 r => rt v G3 H3 d M3 (x2.trans x3) f3 d3 r
theorem sf_ret (h : EF K f te δ N M P) (r : ∀ d, P d → R M d) : SF K f (tRet te) δ N NX R := fun σ G H D s e fd nx rt => h σ G H s e fd _ fun v G2 H2 d x2 f2 d2 p => rt v G2 H2 d M x2 f2 d2 (r d p)
theorem sf_next (h : NX N δ) : SF K f tNext δ N NX R := fun σ G H D s e fd nx rt => nx σ G H δ N (.refl e) s fd h
theorem sf_skip (h : TF K f tt δ N M fun b => b = false) (h2 : SF K f tu δ M NX R) : SF K f (tSeq (tIfS tt ts tNext) tu) δ N NX R := fun σ G H D s e fd nx rt =>
  h σ G H s e fd _ fun b G1 H1 x1 f1 pb => by
    subst pb
    exact h2 σ G1 H1 D (s.ext x1.gg) x1.gh f1 (fun σ3 G3 H3 δ3 M3 x3 s3 f3 n3 => nx σ3 G3 H3 δ3 M3 (x1.trans x3) s3 f3 n3) fun v G3 H3 d M3 x3 f3 d3 r => rt v G3 H3 d M3 (x1.trans x3) f3 d3 r
theorem sf_need (h : TF K f tt δ N M fun b => b = false) (h2 : NX M δ) : SF K f (tIfS tt ts tNext) δ N NX R := fun σ G H D s e fd nx rt =>
  h σ G H s e fd _ fun b G1 H1 x1 f1 pb => by
    subst pb
    exact nx σ G1 H1 δ M x1 (s.ext x1.gg) f1 h2
theorem SF.weak {δ' : Sl} (w : Weak δ δ') (h : SF K f ts δ' N NX R) : SF K f ts δ N NX R := fun σ G H D s e fd nx rt => h σ G H D (w K G σ s) e fd nx rt
/-- each of ds as told by Pe of each of L -/
def Each {α : Type} (Pe : α → Dat → Prop) (L : List α) (ds : List Dat) : Prop := ds.length = L.length ∧ ∀ (i : Nat) (a : α) (x : Dat), L[i]? = some a → ds[i]? = some x → Pe a x
theorem Each.snoc {α : Type} {Pe : α → Dat → Prop} {L : List α} {ds : List Dat} {a : α} {x : Dat} (h : Each Pe L ds) (p : Pe a x) : Each Pe (L ++ [a]) (ds ++ [x]) := by
  refine ⟨by simp [h.1], fun i b y hb hy => ?_⟩
  rcases Nat.lt_trichotomy i L.length with q | q | q
  · rw [List.getElem?_append_left q] at hb
    rw [List.getElem?_append_left (by rw [h.1]; exact q)] at hy
    exact h.2 i b y hb hy
  · subst q
    have hd := h.1
    rw [List.getElem?_append_right (Nat.le_refl _)] at hb
    rw [List.getElem?_append_right (by omega)] at hy
    simp at hb
    simp [hd] at hy
    subst hb hy
    exact p
  · rw [List.getElem?_eq_none (by simp; omega)] at hb
    cases hb
theorem take_snoc' {α : Type} {l : List α} {i : Nat} {a : α} (h : l[i]? = some a) : l.take (i + 1) = l.take i ++ [a] := by rw [List.take_add_one, h]; rfl
/-- a comprehension whose items draw -/
theorem ef_lcm {α : Type} {wi : TI} {g : TG} {vs js : List Nat} (c : Nat) (L : List α) (enc : α → Dat) {δ' : α → Sl} (Pe : α → Dat → Prop) (hw : W1 K wi δ (L.map enc)) (hg : ∀ a, G1 K g js (wipeD δ vs) (enc a) (δ' a)) (hj : ∀ j ∈ js, j ∈ vs)
    (he : ∀ a ∈ L, ∀ n, n + c ≤ 100000 → EF K f te (δ' a) n (n + c) (Pe a)) (hN : N + L.length * c ≤ 100000) (hl : L.length ≤ 100000) : EF K f (tLc wi g tYes te vs) δ N (N + L.length * c) fun d => ∃ ds, d = .list ds ∧ Each Pe L ds := fun σ G H s e fd Q q => by
  refine hw σ G H s e _ fun J G1 H1 x1 w => fun D hD => ?_
  have LL : (L.map enc).length = L.length := by simp
  rw [LL] at w
  have f1 := fd.go x1
  refine lc_it w (fun i H' => ∃ G' ds, OwnF K f G1 H1 G' H' D ds ∧ Fd G' H' f (N + i * c) ∧ Each Pe (L.take i) ds) ⟨G1, [], OwnF.start x1.gh hD f1.ne, by simpa using f1.putH (fun z => f1.ne (z ▸ hD)), by simp [Each]⟩ (fun i H' _ h => ?_) (fun i x H' H'' hi h y => ?_) (fun H' h => ?_)
  · obtain ⟨G', ds, o, _⟩ := h
    exact o.xt.gg.trans o.xt.gh
  · obtain ⟨G', ds, o, f2, ea⟩ := h
    obtain ⟨d, hd, y⟩ := y
    obtain ⟨G'', x2, dx⟩ := y G' o.xt.gg o.xt.gh
    have o2 := o.go x2.xf
    rw [List.getElem?_map] at hd
    cases ha : L[i]? with
    | none => rw [ha] at hd; cases hd
    | some a =>
      rw [ha] at hd
      have hd := Option.some.inj hd
      subst hd
      have am : a ∈ L := List.mem_of_getElem? ha
      have sw : SlOk K G'' (wipe σ vs) (wipeD δ vs) := (s.ext ((x1.gg.trans o2.xt.gg))).wipe vs
      refine hg a (wipe σ vs) G'' H'' x sw o2.xt.gh dx _ fun σ2 s2 w2 => ⟨(w2 vs hj).trans (wipe_wipe σ vs), ?_⟩
      have hb : (i + 1) * c ≤ L.length * c := Nat.mul_le_mul_right _ hi
      rw [Nat.succ_mul] at hb
      refine he a am (N + i * c) (by omega) σ2 G'' H'' s2 o2.xt.gh (f2.go x2) _ fun v G4 H4 d4 x4 f4 dv p4 => ?_
      have o4 := o2.go x4
      obtain ⟨acc, ha4, _⟩ := id o4.hd
      have el : ds.length = i := by rw [ea.1, List.length_take]; omega
      refine ⟨acc, ha4, ?_, G4, ds ++ [d4], o4.grow hD (us := [v]) (.cons dv .nil) ha4, ?_, ?_⟩
      · rw [o4.len ha4, el]
        exact sz_lt (by omega)
      · rw [Nat.succ_mul, ← Nat.add_assoc]
        exact f4.putH o4.ne
      · rw [take_snoc' ha]
        exact ea.snoc p4
  · obtain ⟨G', ds, o, f2, ea⟩ := h
    rw [List.take_length] at ea
    obtain ⟨G2, x2, d2, _, fg⟩ := o.done hD
    exact q _ G2 H' (.list ds) (x1.xf.trans x2) (fg _ f2) d2 ⟨ds, rfl, ea⟩
/-- a comprehension whose test draws -/
theorem ef_lcf {α : Type} {wi : TI} {g : TG} {vs js : List Nat} (c : Nat) (L : List α) (enc : α → Dat) {δ' : α → Sl} (p : α → Dat) (hw : W1 K wi δ (L.map enc)) (hg : ∀ a, G1 K g js (wipeD δ vs) (enc a) (δ' a)) (hj : ∀ j ∈ js, j ∈ vs)
    (ht : ∀ a ∈ L, ∀ n, n + c ≤ 100000 → TF K f tt (δ' a) n (n + c) fun _ => True) (he : ∀ a ∈ L, E1 K te (δ' a) (p a)) (hN : N + L.length * c ≤ 100000) (hl : L.length ≤ 100000) : EF K f (tLc wi g tt te vs) δ N (N + L.length * c) fun d => ∃ S : List α, d = .list (S.map p) ∧ S.Sublist L := fun σ G H s e fd Q q => by
  refine hw σ G H s e _ fun J G1 H1 x1 w => fun D hD => ?_
  have LL : (L.map enc).length = L.length := by simp
  rw [LL] at w
  have f1 := fd.go x1
  refine lc_it w (fun i H' => ∃ G' S, OwnF K f G1 H1 G' H' D (S.map p) ∧ Fd G' H' f (N + i * c) ∧ S.Sublist (L.take i)) ⟨G1, [], OwnF.start x1.gh hD f1.ne, by simpa using f1.putH (fun z => f1.ne (z ▸ hD)), by simp⟩ (fun i H' _ h => ?_) (fun i x H' H'' hi h y => ?_) (fun H' h => ?_)
  · obtain ⟨G', ds, o, _⟩ := h
    exact o.xt.gg.trans o.xt.gh
  · obtain ⟨G', S, o, f2, ea⟩ := h
    obtain ⟨d, hd, y⟩ := y
    obtain ⟨G'', x2, dx⟩ := y G' o.xt.gg o.xt.gh
    have o2 := o.go x2.xf
    rw [List.getElem?_map] at hd
    cases ha : L[i]? with
    | none => rw [ha] at hd; cases hd
    | some a =>
      rw [ha] at hd
      have hd := Option.some.inj hd
      subst hd
      have am : a ∈ L := List.mem_of_getElem? ha
      have sw : SlOk K G'' (wipe σ vs) (wipeD δ vs) := (s.ext ((x1.gg.trans o2.xt.gg))).wipe vs
      refine hg a (wipe σ vs) G'' H'' x sw o2.xt.gh dx _ fun σ2 s2 w2 => ⟨(w2 vs hj).trans (wipe_wipe σ vs), ?_⟩
      have hb : (i + 1) * c ≤ L.length * c := Nat.mul_le_mul_right _ hi
      rw [Nat.succ_mul] at hb
      refine ht a am (N + i * c) (by omega) σ2 G'' H'' s2 o2.xt.gh (f2.go x2) _ fun b G3 H3 x3 f3 _ => ?_
      have o3 := o2.go x3
      cases b with
      | true =>
        refine he a am σ2 G3 H3 (s2.ext x3.gg) x3.gh _ fun v G4 H4 x4 dv => ?_
        have o4 := o3.go x4.xf
        obtain ⟨acc, ha4, _⟩ := id o4.hd
        have el : S.length ≤ i := by have := ea.length_le; rw [List.length_take] at this; omega
        refine ⟨acc, ha4, ?_, G4, S ++ [a], ?_, ?_, ?_⟩
        · rw [o4.len ha4, List.length_map]
          exact sz_lt (by omega)
        · rw [List.map_append]
          exact o4.grow hD (us := [v]) (.cons dv .nil) ha4
        · rw [Nat.succ_mul, ← Nat.add_assoc]
          exact (f3.go x4).putH o4.ne
        · rw [take_snoc' ha]
          exact ea.append (List.Sublist.refl _)
      | false =>
        refine ⟨G3, S, o3, ?_, ?_⟩
        · rw [Nat.succ_mul, ← Nat.add_assoc]
          exact f3
        · rw [take_snoc' ha]
          exact ea.trans (List.sublist_append_left _ _)
  · obtain ⟨G', S, o, f2, ea⟩ := h
    rw [List.take_length] at ea
    obtain ⟨G2, x2, d2, _, fg⟩ := o.done hD
    exact q _ G2 H' _ (x1.xf.trans x2) (fg _ f2) d2 ⟨S, rfl, ea⟩
/-- l = []; for ..: l.append(e), e draws; the rest -/
theorem sf_gather {α : Type} {k : Nat} {wi : TI} {g : TG} {js : List Nat} (c : Nat) (L : List α) (enc : α → Dat) (Pe : α → Dat → Prop) {δ' : Addr → α → Sl}
    (hw : ∀ p, W1 K wi (δ.set k (some (.r (.ref p)))) (L.map enc)) (hg : ∀ p a, G1 K g js (δ.set k (some (.r (.ref p)))) (enc a) (δ' p a)) (hk : ∀ p a, (δ' p a)[k]? = some (some (.r (.ref p)))) (hb : ∀ p a, Weak (δ' p a) (δ.set k (some (.r (.ref p)))))
    (he : ∀ p a, a ∈ L → ∀ n, n + c ≤ 100000 → EF K f te (δ' p a) n (n + c) (Pe a)) (hN : N + L.length * c ≤ 100000) (hl : L.length ≤ 100000)
    (hd : ∀ ds, Each Pe L ds → SF K f tu (δ.set k (some (.d (.list ds)))) (N + L.length * c) NX R) : SF K f (tSeq (tAsg (tLst tNil) (gName k)) (tSeq (tFor wi g (tDrop (tBM K "list" rAppend (tVar k) (tCons te tNil)))) tu)) δ N NX R := fun σ G1 H1 D s e fd nx rt => by
  refine ⟨Nat.zero_le _, fun p hp => ?_⟩
  have o0 : OwnF K f G1 H1 G1 (upd H1 p (.lst [])) p [] := .start e hp fd.ne
  have f0 : Fd G1 (upd H1 p (.lst [])) f N := fd.putH o0.ne
  have s0 : SlOk K G1 (σ.set k (some (.ref p))) (δ.set k (some (.r (.ref p)))) := SlOk.set (o := some (.ref p)) (s := some (.r (.ref p))) rfl k s
  show tFor wi g _ { D with nx := tu D } (σ.set k (some (.ref p))) (upd H1 p (.lst []))
  refine hw p _ G1 _ s0 o0.xt.gh _ fun J G2 H2 x2 w => ?_
  have LL : (L.map enc).length = L.length := by simp
  rw [LL] at w
  refine for_it w (fun i σ' H' => ∃ G' ds, OwnF K f G1 H1 G' H' p ds ∧ Ex G2 G' ∧ SlOk K G' σ' (δ.set k (some (.r (.ref p)))) ∧ Fd G' H' f (N + i * c) ∧ Each Pe (L.take i) ds) ⟨G2, [], o0.go x2.xf, Ex.refl _, s0.ext x2.gg, by simpa using f0.go x2, by simp [Each]⟩ (fun i σ' H' _ q => ?_) (fun i x σ' H' H'' hi q y => ?_) (fun σ' H' q => ?_)
  · obtain ⟨G', ds, o, e2, _⟩ := q
    exact e2.trans o.xt.gh
  · obtain ⟨G', ds, o, e2, s2, f2, ea⟩ := q
    obtain ⟨d, hd', y⟩ := y
    obtain ⟨G'', x3, dx⟩ := y G' e2 o.xt.gh
    rw [List.getElem?_map] at hd'
    cases ha : L[i]? with
    | none => rw [ha] at hd'; cases hd'
    | some a =>
      rw [ha] at hd'
      have hd' := Option.some.inj hd'
      subst hd'
      have o3 := o.go x3.xf
      refine hg p a σ' G'' H'' x (s2.ext x3.gg) x3.gh dx _ fun σ4 s4 _ => ?_
      obtain ⟨v4, q4, r4⟩ := s4.get (hk p a)
      have r4 : v4 = .ref p := r4
      subst r4
      obtain ⟨vs, hv, _⟩ := id o3.hd
      have hb' : (i + 1) * c ≤ L.length * c := Nat.mul_le_mul_right _ hi
      rw [Nat.succ_mul] at hb'
      refine ⟨_, q4, .inl ⟨rfl, vs, sqL_of hv⟩, he p a (List.mem_of_getElem? ha) (N + i * c) (by omega) σ4 G'' H'' s4 x3.gh (f2.go x3) _ fun v G5 H5 d5 x5 f5 dv p5 => ?_⟩
      have o5 := o3.go x5
      have hv5 := x5.hh p _ o3.ne hv
      have el : ds.length = i := by rw [ea.1, List.length_take]; omega
      refine ⟨p, vs, v, rfl, rfl, hv5, by rw [o5.len hv5, el]; exact sz_lt (by omega), G5, ds ++ [d5], o5.grow hp (us := [v]) (.cons dv .nil) hv5, (e2.trans x3.gg).trans x5.gg, hb p a K G5 σ4 (s4.ext x5.gg), ?_, ?_⟩
      · rw [Nat.succ_mul, ← Nat.add_assoc]
        exact f5.putH o5.ne
      · rw [take_snoc' ha]
        exact ea.snoc p5
  · obtain ⟨G', ds, o, e2, s2, f2, ea⟩ := q
    rw [List.take_length] at ea
    obtain ⟨G3, x3, d3, e3, fg⟩ := o.done hp
    have s3 : SlOk K G3 σ' (δ.set k (some (.d (.list ds)))) := slot_swap d3 k (s2.ext e3)
    exact hd ds ea σ' G3 H' D s3 x3.gh (fg _ f2) (fun σ4 G4 H4 δ4 M4 x4 s4 f4 n4 => nx σ4 G4 H4 δ4 M4 (x3.trans x4) s4 f4 n4) fun v G4 H4 d M4 x4 f4 d4 r => rt v G4 H4 d M4 (x3.trans x4) f4 d4 r
end
end DL

/-! my data layer: the defs that draw; a draw itself; a feed made -/
namespace DL
open PySem PySem.Spec L2 RZ
open PyProof.Rows (envOfC)
open Evl (Ex ex_l ex_t)
theorem fn_okG {P : Program} {w : World} {K : PySem.W.Frag} {mg : Str → Option Value} {base : Heap} {x : Str} {st : Stmt} {f : Addr} {fd : FuncData} {N ps : List Str} {k : Nat} {sp : Sp} {t : TS}
    (F : FnD K x st f fd) (S : FnScope N ps (defScope st)) (len : ∀ vs H Q E, sp vs H Q E → vs.length = ps.length)
    (der : ∀ (cdv : Value) (A : Around) (outer : List Env) (s : Shared) (H : Hp) (E : XK), Room k (A.deeper (envOfC x (defScope st) s.heap.objs.size f cdv)) → PSs (cxOf CX0 P w K mg base N x (defScope st) f cdv A outer s H E).nox (defBody st) t)
    (bd : ∀ vs H Q E, sp vs H Q E → t { nx := fun _ H' => Q .non H', rt := Q } (start N vs) H) : FnOk P w K mg base CX0 (k + 1) f fd ps sp :=
  F.ok S len (fun cdv A outer s H vs Q E hr h => ⟨t, (der cdv A outer s H E hr).nox, bd vs H Q E h⟩)
theorem slok_startR {K : PySem.W.Frag} {G : Hp} {f : Addr} {vs : List V} {ds : List Dat} {N : List Str} {n : Nat} (h : DrAll K G vs ds) (hn : N.length - (ds.length + 1) = n) : SlOk K G (start N (.ref f :: vs)) (some (.r (.ref f)) :: startD ds n) := by
  unfold L2.start startD
  rw [List.length_cons, dpAll_len h, hn]
  exact SlOk.cons rfl (SlOk.start h _)
theorem fn_okF {P : Program} {w : World} {K : PySem.W.Frag} {mg : Str → Option Value} {base : Heap} {ι : Type} {x : Str} {st : Stmt} {f : Addr} {fd : FuncData} {N ps : List Str} {k : Nat} {args : ι → List Dat} {ok : ι → Prop} {cost : ι → Nat} {res : ι → Dat → Prop} {t : TS}
    (F : FnD K x st f fd) (S : FnScope N ps (defScope st)) (len : ∀ i, (args i).length + 1 = ps.length)
    (der : ∀ (cdv : Value) (A : Around) (outer : List Env) (s : Shared) (H : Hp) (E : XK), Room k (A.deeper (envOfC x (defScope st) s.heap.objs.size f cdv)) → PSs (cxOf CX0 P w K mg base N x (defScope st) f cdv A outer s H E).nox (defBody st) t)
    (bd : ∀ i f n, ok i → n + cost i ≤ 100000 → SF K f t (some (.r (.ref f)) :: startD (args i) (N.length - ps.length)) n (fun M _ => M ≤ n + cost i ∧ res i .none) (fun M d => M ≤ n + cost i ∧ res i d)) : FnOk P w K mg base CX0 (k + 1) f fd ps (SpF K args ok cost res) := by
  refine fn_okG F S (fun vs H Q E h => ?_) der (fun vs H Q E h => ?_)
  · obtain ⟨i, f, G, n, us, _, _, rfl, _, _, d, _⟩ := h
    rw [List.length_cons, dpAll_len d]
    exact len i
  · obtain ⟨i, f, G, n, us, ho, hc, rfl, e, fd, d, q⟩ := h
    exact bd i f n ho hc (start N (.ref f :: us)) G H _ (slok_startR d (by rw [len i])) e fd (fun σ2 G2 H2 δ2 M x2 s2 f2 r => q .non G2 H2 .none x2 (f2.mono r.1) .non r.2) fun v G2 H2 d M x2 f2 d2 r => q v G2 H2 d x2 (f2.mono r.1) d2 r.2
/-! a draw -/
def mkS (a b c : Int) (is : List (Option Int)) : Sl := some (.d (.list [.int a, .int b, .int c])) :: is.map (fun o => o.map fun i => SD.d (.int i))
section
variable (K : PySem.W.Frag) (f : Addr)
def SM (ts : TS) (a b c : Int) (is : List (Option Int)) (R : Int → Int → Int → Int → Prop) : Prop := ∀ (σ : L2.St) (G H : Hp) (D : Ends), σ[0]? = some (some (.ref f)) → SlOk K G σ (mkS a b c is) → Ex G H → G f = some (.lst [.int a, .int b, .int c]) →
  (∀ r a' b' c' H2, (∀ x o, x ≠ f → H x = some o → H2 x = some o) → H2 f = some (.lst [.int a', .int b', .int c']) → R a' b' c' r → D.rt (.int r) H2) → ts D σ H
end
section
variable {K : PySem.W.Frag} {f : Addr} {a b c a' b' c' i : Int} {is is' : List (Option Int)} {te : TE} {tt : TT} {ts tu : TS} {R : Int → Int → Int → Int → Prop} {δ : Sl} {ta : TA} {ds : List Dat}
theorem sl_ints {G G2 : Hp} : ∀ {σ : L2.St} {is : List (Option Int)}, SlOk K G σ (is.map (fun o => o.map fun i => SD.d (.int i))) → SlOk K G2 σ (is.map (fun o => o.map fun i => SD.d (.int i)))
  | _, [], h => by cases h; exact .nil
  | _, o :: is, h => by
    cases h with
    | @cons v _ _ _ h t =>
      refine .cons ?_ (sl_ints t)
      cases o with
      | none => cases v <;> trivial
      | some j =>
        cases v with
        | none => exact h
        | some v =>
          have h : Dr K G v (.int j) := h
          cases h
          exact Dr.int j
theorem sl_feed {G G2 : Hp} {σ : L2.St} (h0 : σ[0]? = some (some (.ref f))) (h : SlOk K G σ (mkS a b c is)) (h2 : G2 f = some (.lst [.int a', .int b', .int c'])) : SlOk K G2 σ (mkS a' b' c' is) := by
  unfold mkS at h ⊢
  cases h with
  | cons h t =>
    simp at h0
    subst h0
    exact .cons (.lst (sqL_of h2) (.cons (.int _) (.cons (.int _) (.cons (.int _) .nil)))) (sl_ints t)
theorem sm_set {k : Nat} (h : E1 K te (mkS a b c is) (.int i)) (he : (mkS a b c is).set (k + 1) (some (.d (.int i))) = mkS a b c is') (h2 : SM K f ts a b c is' R) : SM K f (tSeq (tAsg te (gName (k + 1))) ts) a b c is R := fun σ G H D h0 s e hf rt =>
  h σ G H s e _ fun v G2 H2 x2 d2 => h2 _ G2 H2 D (by rw [List.getElem?_set_ne (by omega)]; exact h0) (he ▸ SlOk.set (o := some v) (s := some (.d (.int i))) d2 (k + 1) (s.ext x2.gg)) x2.gh (x2.gg _ _ hf) fun r a' b' c' H3 o3 f3 r3 => rt r a' b' c' H3 (fun x o n h => o3 x o n (x2.hh _ _ h)) f3 r3
theorem sm_put {j : Nat} (h : E1 K te (mkS a b c is) (.int i)) (hj : ixN 3 ((j : Nat) : Int) = some j) (he : ([.int a, .int b, .int c] : List V).set j (.int i) = [.int a', .int b', .int c']) (h2 : SM K f ts a' b' c' is R) : SM K f (tSeq (tAsg te (gSub (tVar 0) (tC (.int ((j : Nat) : Int))) rSetL)) ts) a b c is R := fun σ G H D h0 s e hf rt =>
  h σ G H s e _ fun v G2 H2 x2 d2 => by
    cases d2
    have hf2 := x2.gg _ _ hf
    refine ⟨_, h0, f, _, _, j, rfl, rfl, x2.gh _ _ hf2, hj, ?_⟩
    rw [he]
    refine h2 σ (upd G2 f (.lst [.int a', .int b', .int c'])) _ D h0 (sl_feed h0 (s.ext x2.gg) upd_same) (ex_upd x2.gh _ _) upd_same fun r a' b' c' H3 o3 f3 r3 => rt r a' b' c' H3 (fun x o n h => o3 x o n (by rw [upd_ne n]; exact x2.hh _ _ h)) f3 r3
theorem sm_ret (h : E1 K te (mkS a b c is) (.int i)) (r : R a b c i) : SM K f (tRet te) a b c is R := fun σ G H D h0 s e hf rt =>
  h σ G H s e _ fun v G2 H2 x2 d2 => by
    cases d2
    exact rt i a b c H2 (fun x o n h => x2.hh _ _ h) (x2.gh _ _ (x2.gg _ _ hf)) r
theorem sm_guard {bo : Bool} (h : T1 K tt (mkS a b c is) bo) (h1 : bo = true → SM K f ts a b c is R) (h2 : bo = false → SM K f tu a b c is R) : SM K f (tSeq (tIfS tt ts tNext) tu) a b c is R := fun σ G H D h0 s e hf rt =>
  h σ G H s e _ fun G2 H2 x2 => by
    cases bo with
    | true => exact h1 rfl σ G2 H2 { D with nx := tu D } h0 (s.ext x2.gg) x2.gh (x2.gg _ _ hf) fun r a' b' c' H3 o3 f3 r3 => rt r a' b' c' H3 (fun x o n h => o3 x o n (x2.hh _ _ h)) f3 r3
    | false => exact h2 rfl σ G2 H2 D h0 (s.ext x2.gg) x2.gh (x2.gg _ _ hf) fun r a' b' c' H3 o3 f3 r3 => rt r a' b' c' H3 (fun x o n h => o3 x o n (x2.hh _ _ h)) f3 r3
/-- a draw, told as what draws -/
theorem SM.sf {n c : Nat} {m : Int} {k : Nat} {P : Dat → Prop} (h : ∀ a b c0 : Int, 0 ≤ a → 0 ≤ b → b < 10 ^ 40 → 0 ≤ c0 → c0 ≤ (n : Int) → SM K f ts a b c0 (some m :: List.replicate k none) fun a' b' c' r => (0 ≤ a' ∧ 0 ≤ b' ∧ b' < 10 ^ 40 ∧ 0 ≤ c' ∧ c' ≤ ((n + c : Nat) : Int)) ∧ P (.int r)) {NX : Nat → Sl → Prop} :
    SF K f ts (some (.r (.ref f)) :: startD [.int m] k) n NX (fun M d => M ≤ n + c ∧ P d) := fun σ G H D s e fd nx rt => by
  obtain ⟨nd, a, b, c0, hf, h1, h2, h3, h4, h5⟩ := fd
  have h0 : σ[0]? = some (some (.ref f)) := by
    obtain ⟨v, q1, q2⟩ := SlOk.get s (i := 0) (s := .r (.ref f)) rfl
    have q2 : v = .ref f := q2
    rw [q1, q2]
  have g1 : upd G f (.lst [.int a, .int b, .int c0]) f = some (.lst [.int a, .int b, .int c0]) := upd_same
  have sE : startD [.int m] k = (some m :: List.replicate k none).map (fun o : Option Int => o.map fun i => SD.d (.int i)) := by simp [startD]
  have s1 : SlOk K (upd G f (.lst [.int a, .int b, .int c0])) σ (mkS a b c0 (some m :: List.replicate k none)) := by
    unfold mkS
    cases s with
    | cons hh tt =>
      simp at h0
      subst h0
      exact .cons (.lst (sqL_of g1) (.cons (.int _) (.cons (.int _) (.cons (.int _) .nil)))) (sl_ints (sE ▸ tt))
  refine h a b c0 h1 h2 h3 h4 h5 σ _ H D h0 s1 (fun x o q => ?_) g1 fun r a' b' c' H2 o2 f2 r2 => ?_
  · by_cases hx : x = f
    · subst hx; rw [upd_same] at q; cases q; exact hf
    · rw [upd_ne hx] at q; exact e x o q
  · refine rt (.int r) G H2 (.int r) (n + c) ⟨Ex.refl G, fun x o q => ?_, o2, fun x o _ h _ _ => h⟩ ⟨nd, a', b', c', f2, r2.1⟩ (.int r) ⟨Nat.le_refl _, r2.2⟩
    exact o2 x o (fun z => by subst z; rw [nd] at q; cases q) (e x o q)
/-! a feed made: the list that is handed back is new -/
def SN (K : PySem.W.Frag) (ts : TS) (δ : Sl) (R : List Dat → Prop) : Prop := ∀ (σ : L2.St) (G H : Hp) (D : Ends), SlOk K G σ δ → Ex G H → (∀ p G2 H2 vs ds, Xt G H G2 H2 → H p = none → G2 p = none → H2 p = some (.lst vs) → DrAll K G2 vs ds → R ds → D.rt (.ref p) H2) → ts D σ H
theorem sn_seq {R : List Dat → Prop} {N : Sl → Prop} (h1 : Sd K ts δ N fun _ => False) (h2 : ∀ δ2, N δ2 → SN K tu δ2 R) : SN K (tSeq ts tu) δ R := fun σ G H D s e rt =>
  h1 σ G H { D with nx := tu D } s e (fun σ2 G2 H2 δ2 x2 s2 n2 => h2 δ2 n2 σ2 G2 H2 D s2 x2.gh fun p G3 H3 vs ds x3 hp gp hv dv r => rt p G3 H3 vs ds (x2.trans x3) (by
    cases q : H p with
    | none => rfl
    | some o => rw [x2.hh _ _ q] at hp; cases hp) gp hv dv r) fun v G2 H2 d x2 d2 r => r.elim
theorem sn_ret {R : List Dat → Prop} (h : A1 K ta δ ds) (hl : ds.length ≤ 100000) (r : R ds) : SN K (tRet (tLst ta)) δ R := fun σ G H D s e rt =>
  h σ G H s e _ fun vs G2 H2 x2 d2 => ⟨by rw [dpAll_len d2]; exact sz_of hl, fun p hp => by
    have gp := ex_none x2.gh hp
    refine rt p G2 _ vs ds (x2.trans ⟨Ex.refl G2, Ex.new hp, x2.gh.trans (Ex.new hp), fun _ _ h _ _ => h⟩) ?_ gp upd_same d2 r
    cases q : H p with
    | none => rfl
    | some o => rw [x2.hh _ _ q] at hp; cases hp⟩
/-- makes a feed -/
def SpNew {ι : Type} (K : PySem.W.Frag) (args : ι → List Dat) (ok : ι → Prop) : Sp := fun vs H Q _ => ∃ i G, ok i ∧ Ex G H ∧ DrAll K G vs (args i) ∧ ∀ p G2 H2, Xt G H G2 H2 → H p = none → Fd G2 H2 p 0 → Q (.ref p) H2
def IsFeed (ds : List Dat) : Prop := ∃ a b : Int, ds = [.int a, .int b, .int 0] ∧ 0 ≤ a ∧ 0 ≤ b ∧ b < 10 ^ 40
theorem fn_okN {P : Program} {w : World} {K : PySem.W.Frag} {mg : Str → Option Value} {base : Heap} {ι : Type} {x : Str} {st : Stmt} {f : Addr} {fd : FuncData} {N ps : List Str} {k : Nat} {args : ι → List Dat} {ok : ι → Prop} {t : TS}
    (F : FnD K x st f fd) (S : FnScope N ps (defScope st)) (len : ∀ i, (args i).length = ps.length)
    (der : ∀ (cdv : Value) (A : Around) (outer : List Env) (s : Shared) (H : Hp) (E : XK), Room k (A.deeper (envOfC x (defScope st) s.heap.objs.size f cdv)) → PSs (cxOf CX0 P w K mg base N x (defScope st) f cdv A outer s H E).nox (defBody st) t)
    (bd : ∀ i, ok i → SN K t (startD (args i) (N.length - ps.length)) IsFeed) : FnOk P w K mg base CX0 (k + 1) f fd ps (SpNew K args ok) := by
  refine fn_okG F S (fun vs H Q E h => ?_) der (fun vs H Q E h => ?_)
  · obtain ⟨i, G, _, _, d, _⟩ := h
    exact (dpAll_len d).trans (len i)
  · obtain ⟨i, G, ho, e, d, q⟩ := h
    have s0 : SlOk K G (start N vs) (startD (args i) (N.length - ps.length)) := by
      unfold L2.start startD
      rw [(dpAll_len d).trans (len i)]
      exact SlOk.start d _
    refine bd i ho (start N vs) G H _ s0 e fun p G2 H2 vs ds x2 hp gp hv dv r => q p G2 H2 x2 hp ⟨gp, ?_⟩
    obtain ⟨a, b, rfl, h1, h2, h3⟩ := r
    have hvs : vs = ([a, b, 0] : List Int).map V.int := dpAll_ints dv
    exact ⟨a, b, 0, by rw [hv, hvs]; rfl, h1, h2, h3, by omega, by omega⟩
/-- a feed made, and what draws from it -/
theorem sd_feed {ι : Type} {args : ι → List Dat} {ok : ι → Prop} {E : XK} {k : Nat} {N : Sl → Prop} {R : Dat → Prop} (i : ι) (h : A1 K ta δ (args i)) (hk : ok i) (h2 : ∀ f, SF K f ts (δ.set k (some (.r (.ref f)))) 0 (fun _ δ2 => N δ2) (fun _ d => R d)) : Sd K (tSeq (tAsg (tCall (SpNew K args ok) [] E ta) (gName k)) ts) δ N R := fun σ G H D s e nx rt =>
  h σ G H s e _ fun vs G1 H1 x1 d1 => ⟨i, G1, hk, x1.gh, by rw [List.append_nil]; exact d1, fun p G2 H2 x2 hp fd =>
    h2 p _ G2 H2 D (SlOk.set (o := some (.ref p)) (s := some (.r (.ref p))) rfl k (s.ext (x1.trans x2).gg)) x2.gh fd
      (fun σ3 G3 H3 δ3 M x3 s3 f3 n3 => nx σ3 G3 H3 δ3 (x1.trans (XF.xt x2 hp x3)) s3 n3) fun v G3 H3 d M x3 f3 d3 r => rt v G3 H3 d (x1.trans (XF.xt x2 hp x3)) d3 r⟩
end
end DL

namespace Mix
open PySem PySem.Spec L2 RZ DL
open PyProof.Rows (envOfC)
section
variable {P : Program} {w : World} {K : PySem.W.Frag} {mg : Str → Option Value} {base h : Heap}

theorem sum_take1 (xs : List Int) : cutD (xs.map Dat.int) none (some 1) = (xs.take 1).map .int := by
  have := cutD_to (ds := xs.map Dat.int) 1
  rw [← List.map_take] at this
  exact this
theorem cpow {j : Int} (h : 0 ≤ j ∧ j ≤ 100) : CPow 10 j := ⟨h.1, by omega, by decide⟩
theorem abs_lt {x : Int} {n : Nat} (h0 : 0 ≤ x) (h : x < ((2 ^ n : Nat) : Int)) : x.natAbs < 2 ^ n := by omega

theorem sc71 : FnScope ["_law_script", "_law_k", "_law_cell"] ["_law_script", "_law_k"] (defScope (top 71)) := ⟨rfl, rfl, rfl, by decide +kernel, rfl, by decide +kernel, by decide +kernel⟩
abbrev sp_law_feed (K : PySem.W.Frag) : Sp := SpNew K (ι := List Int × Nat) (fun i => [.list (i.1.map .int), .int (i.2 : Nat)]) (fun i => i.1.length ≤ 1000 ∧ i.2 ≤ 1000)
theorem ok_law_feed (T : Top K mg h) : C8.Cal P w K mg base 1 "_law_feed" (sp_law_feed K) [] := by
  have m_sum := T.free 77 "sum"
  have m_len := T.free 67 "len"
  have m_max := T.free 76 "max"
  have m_int := T.free 64 "int"
  obtain ⟨fd, F⟩ := T.says.def_ 50 (d := dd71) rfl
  have g : mg "_law_feed" = some (.ref (He.ga K "_law_feed")) := He.glo_ok T.kin T.ns (T.says.fact 50 (f := .glo "_law_feed") rfl)
  refine cal_mk (fn_okN F sc71 (fun i => rfl) (fun cdv A outer s H E hr => (pss_cons (ps_set (i := 2) sc71.nd rfl (by first | exact Or.inl rfl | exact Or.inr rfl) (pe_op op_add (pe_op op_mul pe_int (pv 1)) (pe_callB (k_sum K) (by rfl) m_sum (by decide +kernel) (pa_cons (pe_slice (k_slL K) (pv 0) po_none (po_some pe_int)) pa_nil)))) (pss_cons (ps_if (pt_cmpR op_lt (pv 1) (pe_callB (k_len K) (by rfl) m_len PySem.boot_len (pa_cons (pv 0) pa_nil)) (nomark _)) (pss_one (ps_set (i := 2) sc71.nd rfl (by first | exact Or.inl rfl | exact Or.inr rfl) (pe_ix (k_ixL K) (pv 0) (pv 1) (fun _ _ => rfl)))) pss_nil) (pss_one (ps_ret (pe_lst (pa_cons (pe_callB (call_max2 rfl) (by rfl) m_max (by decide +kernel) (pa_cons pe_int (pa_cons (pe_op op_sub (pv 2) (pe_op op_pow pe_int pe_int)) pa_nil))) (pa_cons (pe_op op_modN (pe_callTy call_int1 (by rfl) m_int (by decide +kernel) (pa_cons (pe_op op_add (pe_op op_mul (pv 2) pe_int) (pe_op op_mul pe_int (pv 1))) pa_nil)) (pe_op op_add (pe_op op_pow pe_int pe_int) pe_int)) (pa_cons pe_int pa_nil))))))))) ?_) g F.kp (F.bindsN fun _ _ _ _ _ _ us hl => match us, hl with | [_, _], _ => rfl)
  rintro ⟨xs, k⟩ ⟨hl, hk⟩
  dsimp only at hl hk
  let N : Sl → Prop := fun δ2 => ∃ c : Int, δ2 = [some (.d (.list (xs.map .int))), some (.d (.int (k : Nat))), some (.d (.int c))]
  refine sn_seq (N := N) (sd_set1 (d := .int (977 * (k : Int) + (xs.take 1).sum)) (e_op (e_op (e_int 977) (e_var rfl) (rd_mul (.inl (by decide)))) (e_cb (a_cons (E1.is (e_sl (e_var rfl) o_no (o_some (e_int 1)) sl_l) (by rw [sum_take1])) a_nil) cd_sum) rd_add) ⟨_, rfl⟩) ?_
  rintro δ2 ⟨c, rfl⟩
  refine sn_seq (N := N) (sd_if (b := decide ((k : Int) < (xs.length : Nat))) (t_test (e_op (e_var rfl) (e_lenL (n := xs.length) (e_var rfl) (by simp)) rd_lt)) (fun h => ?_) (fun _ => sd_next ⟨c, rfl⟩)) ?_
  · have h := of_decide_eq_true h
    exact sd_set1 (d := .int (xs.getD k 0)) (e_op (e_var rfl) (e_var rfl) (rd_ixL (at_map (get_getD (by omega))))) ⟨_, rfl⟩
  rintro δ2 ⟨c, rfl⟩
  refine sn_ret (a_cons (e_cb (a_cons (e_int 0) (a_cons (e_op (e_var rfl) (e_op (e_int 10) (e_int 18) (rd_pow (cpow (by decide)))) rd_sub) a_nil)) cd_max2) (a_cons (e_op (e_cb (a_cons (e_op (e_op (e_var rfl) (e_int 19) (rd_mul (.inr (by decide)))) (e_op (e_int 7) (e_var rfl) (rd_mul (.inl (by decide)))) rd_add) a_nil) cd_int1) (e_op (e_op (e_int 10) (e_int 39) (rd_pow (cpow (by decide)))) (e_int 23) rd_add) (rd_mod (by decide))) (a_cons (e_int 0) a_nil))) (by simp) ⟨_, _, rfl, ?_, ?_, ?_⟩
  · split <;> omega
  · rw [Int.fmod_eq_emod_of_nonneg _ (by decide)]
    exact Int.emod_nonneg _ (by decide)
  · rw [Int.fmod_eq_emod_of_nonneg _ (by decide)]
    exact Int.lt_trans (Int.emod_lt_of_pos _ (by decide)) (by decide)

theorem sc72 : FnScope ["_law_feed_here", "_law_many", "_law_rest", "_law_got", "_law_stir"] ["_law_feed_here", "_law_many"] (defScope (top 72)) := ⟨rfl, rfl, rfl, by decide +kernel, rfl, by decide +kernel, by decide +kernel⟩
abbrev sp_law_draw (K : PySem.W.Frag) : Sp := SpF K (ι := Int) (fun m => [.int m]) (fun m => 0 < m ∧ m < 2 ^ 62) (fun _ => 1) (fun m d => ∃ r : Int, d = .int r ∧ 0 ≤ r ∧ r < m)
theorem ok_law_draw (T : Top K mg h) : C8.Cal P w K mg base 1 "_law_draw" (sp_law_draw K) [] := by
  have m_int := T.free 64 "int"
  obtain ⟨fd, F⟩ := T.says.def_ 51 (d := dd72) rfl
  have g : mg "_law_draw" = some (.ref (He.ga K "_law_draw")) := He.glo_ok T.kin T.ns (T.says.fact 51 (f := .glo "_law_draw") rfl)
  refine cal_mk (fn_okF F sc72 (fun i => rfl) (fun cdv A outer s H E hr => (pss_cons (ps_if (pt_cmpR op_gt (pe_ix (k_ixL K) (pv 0) pe_int (fun _ _ => rfl)) pe_int (nomark _)) (pss_cons (ps_set (i := 2) sc72.nd rfl (by first | exact Or.inl rfl | exact Or.inr rfl) (pe_op op_fdivW (pe_ix (k_ixL K) (pv 0) pe_int (fun _ _ => rfl)) (pv 1))) (pss_cons (ps_set (i := 3) sc72.nd rfl (by first | exact Or.inl rfl | exact Or.inr rfl) (pe_op op_sub (pe_ix (k_ixL K) (pv 0) pe_int (fun _ _ => rfl)) (pe_op op_mul (pv 2) (pv 1)))) (pss_cons (ps_asg (pv 2) (pg_sub (pv 0) pe_int set_list)) (pss_one (ps_ret (pv 3)))))) pss_nil) (pss_cons (ps_asg (pe_op op_add (pe_ix (k_ixL K) (pv 0) pe_int (fun _ _ => rfl)) pe_int) (pg_sub (pv 0) pe_int set_list)) (pss_cons (ps_set (i := 4) sc72.nd rfl (by first | exact Or.inl rfl | exact Or.inr rfl) (pe_op op_add (pe_ix (k_ixL K) (pv 0) pe_int (fun _ _ => rfl)) (pe_op op_mul pe_int (pe_ix (k_ixL K) (pv 0) pe_int (fun _ _ => rfl))))) (pss_cons (ps_set (i := 4) sc72.nd rfl (by first | exact Or.inl rfl | exact Or.inr rfl) (pe_op op_modN (pe_callTy call_int1 (by rfl) m_int (by decide +kernel) (pa_cons (pe_op op_add (pe_op op_mulW (pe_op op_mulW (pv 4) (pv 4)) (pv 4)) (pe_op op_mul pe_int (pe_ix (k_ixL K) (pv 0) pe_int (fun _ _ => rfl)))) pa_nil)) (pe_op op_add (pe_op op_pow pe_int pe_int) pe_int))) (pss_cons (ps_set (i := 4) sc72.nd rfl (by first | exact Or.inl rfl | exact Or.inr rfl) (pe_op op_modN (pe_callTy call_int1 (by rfl) m_int (by decide +kernel) (pa_cons (pe_op op_add (pe_op op_mulW (pv 4) (pv 4)) pe_int) pa_nil)) (pe_op op_add (pe_op op_pow pe_int pe_int) pe_int))) (pss_one (ps_ret (pe_op op_modN (pe_callTy call_int1 (by rfl) m_int (by decide +kernel) (pa_cons (pe_op op_fdivW (pv 4) (pe_op op_pow pe_int pe_int)) pa_nil)) (pv 1)))))))))) ?_) g F.kp (F.bindsN fun _ _ _ _ _ _ us hl => match us, hl with | [_, _], _ => rfl)
  rintro m f n ⟨hm, hm2⟩ hn
  refine SM.sf (k := 3) fun a b c ha hb hb2 hc hcn => ?_
  refine sm_guard (bo := decide (0 < a)) (t_test (e_op (e_op (e_var rfl) (e_int 0) (rd_ixL rfl)) (e_int 0) rd_gt)) (fun h => ?_) fun h => ?_
  · have h := of_decide_eq_true h
    have e1 : a - a / m * m = a % m := by have := Int.emod_add_mul_ediv a m; rw [Int.mul_comm] at this; omega
    refine sm_set (is' := [some m, some (a / m), none, none]) (e_op (e_op (e_var rfl) (e_int 0) (rd_ixL rfl)) (e_var rfl) (rd_div (wide_div hm (b := 62) (by omega) (by decide) (by decide)))) rfl ?_
    refine sm_set (is' := [some m, some (a / m), some (a - a / m * m), none]) (e_op (e_op (e_var rfl) (e_int 0) (rd_ixL rfl)) (e_op (e_var rfl) (e_var rfl) (rd_mul (.inr (by omega)))) rd_sub) rfl ?_
    refine sm_put (j := 0) (e_var rfl) rfl rfl (sm_ret (e_var rfl) ⟨⟨Int.ediv_nonneg ha (by omega), hb, hb2, hc, by omega⟩, _, rfl, ?_, ?_⟩)
    · rw [e1]; exact Int.emod_nonneg _ (by omega)
    · rw [e1]; exact Int.emod_lt_of_pos _ hm
  · have hs0 : 0 ≤ b + 6700417 * (c + 1) := by omega
    have hs1 : b + 6700417 * (c + 1) < ((2 ^ 140 : Nat) : Int) := by omega
    have a1 := abs_lt hs0 hs1
    have a2 := wide_lt a1 a1
    refine sm_put (j := 2) (e_op (e_op (e_var rfl) (e_int 2) (rd_ixL rfl)) (e_int 1) rd_add) rfl rfl ?_
    refine sm_set (is' := [some m, none, none, some (b + 6700417 * (c + 1))]) (e_op (e_op (e_var rfl) (e_int 1) (rd_ixL rfl)) (e_op (e_int 6700417) (e_op (e_var rfl) (e_int 2) (rd_ixL rfl)) (rd_mul (.inl (by decide)))) rd_add) rfl ?_
    generalize hst : b + 6700417 * (c + 1) = st at hs0 hs1 a1 a2 ⊢
    refine sm_set (is' := [some m, none, none, some ((st * st * st + 15485863 * (c + 1)).fmod (10 ^ 43 + 57))]) (e_op (e_cb (a_cons (e_op (e_op (e_op (e_var rfl) (e_var rfl) (rd_mul (wide_mul a1 a1 (by decide) (by decide) (by decide)))) (e_var rfl) (rd_mul (wide_mul a2 a1 (by decide) (by decide) (by decide)))) (e_op (e_int 15485863) (e_op (e_var rfl) (e_int 2) (rd_ixL rfl)) (rd_mul (.inl (by decide)))) rd_add) a_nil) cd_int1) (e_op (e_op (e_int 10) (e_int 43) (rd_pow (cpow (by decide)))) (e_int 57) rd_add) (rd_mod (by decide))) rfl ?_
    have hs2 : 0 ≤ (st * st * st + 15485863 * (c + 1)).fmod (10 ^ 43 + 57) := by
      rw [Int.fmod_eq_emod_of_nonneg _ (by decide)]
      exact Int.emod_nonneg _ (by decide)
    have hs3 : (st * st * st + 15485863 * (c + 1)).fmod (10 ^ 43 + 57) < ((2 ^ 150 : Nat) : Int) := by
      rw [Int.fmod_eq_emod_of_nonneg _ (by decide)]
      exact Int.lt_trans (Int.emod_lt_of_pos _ (by decide)) (by decide)
    generalize (st * st * st + 15485863 * (c + 1)).fmod (10 ^ 43 + 57) = s2 at hs2 hs3 ⊢
    have a3 := abs_lt hs2 hs3
    refine sm_set (is' := [some m, none, none, some ((s2 * s2 + 32452843).fmod (10 ^ 38 + 133))]) (e_op (e_cb (a_cons (e_op (e_op (e_var rfl) (e_var rfl) (rd_mul (wide_mul a3 a3 (by decide) (by decide) (by decide)))) (e_int 32452843) rd_add) a_nil) cd_int1) (e_op (e_op (e_int 10) (e_int 38) (rd_pow (cpow (by decide)))) (e_int 133) rd_add) (rd_mod (by decide))) rfl ?_
    refine sm_ret (e_op (e_cb (a_cons (e_op (e_var rfl) (e_op (e_int 10) (e_int 9) (rd_pow (cpow (by decide)))) (rd_div (wide_div (b := 40) (by decide) (by decide) (by decide) (by decide)))) a_nil) cd_int1) (e_var rfl) (rd_mod (by omega))) ⟨⟨ha, hb, hb2, by omega, by omega⟩, _, rfl, ?_, ?_⟩
    · rw [Int.fmod_eq_emod_of_nonneg _ (by omega)]
      exact Int.emod_nonneg _ (by omega)
    · rw [Int.fmod_eq_emod_of_nonneg _ (by omega)]
      exact Int.emod_lt_of_pos _ hm

theorem sc73 : FnScope ["_law_feed_here", "_law_things"] ["_law_feed_here", "_law_things"] (defScope (top 73)) := ⟨rfl, rfl, rfl, by decide +kernel, rfl, by decide +kernel, by decide +kernel⟩
abbrev sp_law_one (K : PySem.W.Frag) : Sp := SpF K (ι := List Int) (fun l => [.list (l.map .int)]) (fun l => l ≠ [] ∧ l.length ≤ 1000) (fun _ => 1) (fun l d => ∃ r ∈ l, d = .int r)
theorem ok_law_one (T : Top K mg h) : C8.Cal P w K mg base 2 "_law_one" (sp_law_one K) [] := by
  have c__law_draw := ok_law_draw (P := P) (w := w) (base := base) T
  have m_len := T.free 67 "len"
  obtain ⟨fd, F⟩ := T.says.def_ 52 (d := dd73) rfl
  have g : mg "_law_one" = some (.ref (He.ga K "_law_one")) := He.glo_ok T.kin T.ns (T.says.fact 52 (f := .glo "_law_one") rfl)
  refine cal_mk (fn_okF F sc73 (fun i => rfl) (fun cdv A outer s H E hr => (pss_one (ps_ret (pe_ix (k_ixL K) (pv 1) (C8.pe_c c__law_draw hr (by decide) (by rfl) (pa_cons (pv 0) (pa_cons (pe_callB (k_len K) (by rfl) m_len PySem.boot_len (pa_cons (pv 1) pa_nil)) pa_nil))) (fun _ _ => rfl))))) ?_) g F.kp (F.bindsN fun _ _ _ _ _ _ us hl => match us, hl with | [_, _], _ => rfl)
  rintro l f n ⟨h0, hl⟩ hn
  have h1 := List.length_pos_iff.mpr h0
  refine sf_ret (P := fun d => ∃ r ∈ l, d = .int r) (ef_op (P := fun d => d = .list (l.map .int)) (E1.ef (e_var rfl) rfl) (ef_callF (k := 0) (c := 1) (P := fun ds => ds = [.int (l.length : Nat)]) rfl (A1.af (a_cons (e_lenL (e_var rfl) (by simp)) a_nil) rfl) (fun ds h => ⟨_, h, ⟨by omega, by omega⟩, Nat.le_refl _, fun d h => h⟩) hn) ?_) fun d h => ⟨Nat.le_refl _, h⟩
  rintro x y rfl ⟨r, rfl, hr0, hr1⟩
  have hk : r.toNat < l.length := by omega
  have e : r = ((r.toNat : Nat) : Int) := by omega
  refine ⟨.int (l.getD r.toNat 0), ?_, _, getD_mem hk, rfl⟩
  rw [e]
  exact rd_ixL (at_map (get_getD (by simpa using hk)))

end
end Mix

namespace Mix
open PySem PySem.Spec L2 RZ DL
open PyProof.Rows (envOfC)
section
variable {P : Program} {w : World} {K : PySem.W.Frag} {mg : Str → Option Value} {base h : Heap}

mutual
theorem canLay_py : ∀ d : Dat, d.py.canLay0 = true
  | .none => rfl
  | .bool _ => rfl
  | .int _ => rfl
  | .list ds => by
    show PyData.canLay0 (.list (Dat.pys ds)) = true
    simp only [PyData.canLay0]
    exact canLay_pys ds
  | .tuple _ ds => by
    show PyData.canLay0 (.tuple (Dat.pys ds)) = true
    simp only [PyData.canLay0]
    exact canLay_pys ds
theorem canLay_pys : ∀ ds : List Dat, PyData.canLayAll0 (Dat.pys ds) = true
  | [] => rfl
  | d :: ds => by
    show PyData.canLayAll0 (d.py :: Dat.pys ds) = true
    simp only [PyData.canLayAll0, canLay_py d, canLay_pys ds, Bool.and_self]
end
theorem shaped_py {d : Dat} (h : d.py.depth ≤ 64) : SeqAt.shaped d.py = true := by
  unfold SeqAt.shaped
  rw [canLay_py d, Bool.true_and]
  exact decide_eq_true h
theorem depthAll_le {n : Nat} : ∀ {ds : List PyData}, (∀ d ∈ ds, d.depth ≤ n) → PyData.depthAll ds ≤ n
  | [], _ => Nat.zero_le _
  | d :: ds, h => by
    have h1 := h d (by simp)
    have h2 := depthAll_le (ds := ds) fun x hx => h x (by simp [hx])
    simp only [PyData.depthAll]
    omega
theorem shaped_ints' (l : List Int) : SeqAt.shaped (Dat.list (l.map .int)).py = true := by
  refine shaped_py ?_
  show (PyData.list (Dat.pys (l.map Dat.int))).depth ≤ 64
  simp only [PyData.depth]
  have := depthAll_le (n := 0) (ds := Dat.pys (l.map Dat.int)) fun d hd => by
    rw [pys_map] at hd
    obtain ⟨i, _, rfl⟩ := List.mem_map.mp hd
    exact Nat.le_refl _
  omega
theorem shaped_pair (p : List Nat × List Nat) : SeqAt.shaped (pairD p).py = true := shaped_py (Nat.le_trans (depth_pair p) (by decide))
theorem erase_perm : ∀ {l : List Nat} {k : Nat}, k < l.length → l.Perm (l.getD k 0 :: l.eraseIdx k)
  | [], _, h => by simp at h
  | x :: l, 0, _ => List.Perm.refl _
  | x :: l, k + 1, h => ((erase_perm (l := l) (k := k) (by simpa using h)).cons x).trans (List.Perm.swap _ _ _)
theorem erase_map {α β : Type} (g : α → β) : ∀ (l : List α) (k : Nat), (l.map g).eraseIdx k = (l.eraseIdx k).map g
  | [], _ => rfl
  | x :: l, 0 => rfl
  | x :: l, k + 1 => by
    show g x :: (l.map g).eraseIdx k = g x :: (l.eraseIdx k).map g
    rw [erase_map g l k]
theorem seqIx {r : Int} {n : Nat} (h0 : 0 ≤ r) (h : r < (n : Int)) : seqIndex? r n = some r.toNat := by
  unfold seqIndex?
  have h1 : ¬ r < 0 := by omega
  simp [h1, h0, h]
abbrev nV (l : List Nat) : List V := l.map fun k : Nat => V.int (k : Int)
structure MxD (f p q : Addr) (G H G' H' : Hp) (n M : Nat) (pool got : List Nat) : Prop where
  xt : XF f G H G' H'
  fd : Fd G' H' f M
  gp : G' p = none
  gq : G' q = none
  hp : H' p = some (.lst (nV pool))
  hq : H' q = some (.lst (nV got))
  pm : (got ++ pool).Perm (List.range n)
theorem mxd_go {f p q : Addr} {G H G' H' G2 H2 : Hp} {n M M2 : Nat} {pool got : List Nat} (m : MxD f p q G H G' H' n M pool got) (x : XF f G' H' G2 H2) (fd : Fd G2 H2 f M2) (np : p ≠ f) (nq : q ≠ f) : MxD f p q G H G2 H2 n M2 pool got :=
  ⟨m.xt.trans x, fd, x.fr p _ np m.gp m.hp trivial, x.fr q _ nq m.gq m.hq trivial, x.hh p _ np m.hp, x.hh q _ nq m.hq, m.pm⟩
/-- what stands at addresses that nobody knows changes -/
theorem xf_putO {f a : Addr} {G H G' H' : Hp} {o : HO} (x : XF f G H G' H') (ga : G' a = none) (ha : H a = none) : XF f G H G' (upd H' a o) := by
  refine ⟨x.gg, fun b u h => ?_, fun b u nb h => ?_, x.fr⟩
  · rw [upd_ne (fun z => by subst z; rw [ga] at h; cases h)]
    exact x.gh b u h
  · rw [upd_ne (fun z => by subst z; rw [ha] at h; cases h)]
    exact x.hh b u nb h
theorem eqvAll_ints : ∀ a b : List Nat, PyData.eqvAll (Dat.pys (a.map iD)) (Dat.pys (b.map iD)) = decide (a = b)
  | [], [] => rfl
  | [], y :: b => rfl
  | x :: a, [] => rfl
  | x :: a, y :: b => by
    show (PyData.eqv (.int (x : Int)) (.int (y : Int)) && PyData.eqvAll (Dat.pys (a.map iD)) (Dat.pys (b.map iD))) = _
    rw [eqvAll_ints a b]
    simp only [PyData.eqv]
    rw [Bool.eq_iff_iff]
    simp
    omega
theorem eqv_nT (a b : List Nat) : PyData.eqv (nT a).py (nT b).py = decide (a = b) := by
  show PyData.eqv (.tuple (Dat.pys (a.map iD))) (.tuple (Dat.pys (b.map iD))) = _
  simp only [PyData.eqv]
  exact eqvAll_ints a b
theorem eqv_self_ints (l : List Int) : PyData.eqv (Dat.list (l.map .int)).py (Dat.list (l.map .int)).py = true := by
  refine PySem.W.eqv_refl_alike _ ?_
  show PySem.W.alike (.list (Dat.pys (l.map Dat.int))) (.list (Dat.pys (l.map Dat.int))) = true
  have e : Dat.pys (l.map Dat.int) = l.map .int := by rw [pys_map]; rfl
  rw [e, PySem.W.alike]
  exact PySem.W.alike_ints _ _
theorem eqv_self_pair (p : List Nat × List Nat) : PyData.eqv (pairD p).py (pairD p).py = true := PySem.W.eqv_refl_alike _ (alike_pair p p)
/-- no row pays -/
def PW (n m : Nat) (T : List (List Int)) : Prop := ∀ i j, i < j → j < n → ∀ c l, c < l → l < m → en T i c + en T j l ≤ en T i l + en T j c
def builtT (left top : List Int) (gs : List (List Int)) : List (List Int) := left.zipIdx.map fun p => p.1 :: top.zipIdx.map fun q => p.1 + q.1 - ((gs.take p.2).map fun line => (line.take (q.2 + 1)).sum).sum

theorem sc74 : FnScope ["_law_feed_here", "_law_things", "_law_pool", "_law_got", "_law_turn"] ["_law_feed_here", "_law_things"] (defScope (top 74)) := ⟨rfl, rfl, rfl, by decide +kernel, rfl, by decide +kernel, by decide +kernel⟩
abbrev sp_law_mixed (K : PySem.W.Frag) : Sp := SpF K (ι := Nat) (fun n => [.list ((List.range n).map iD)]) (fun n => n ≤ 6) (fun n => n) (fun n d => ∃ p : List Nat, p.Perm (List.range n) ∧ d = .list (p.map iD))
theorem ok_law_mixed (T : Top K mg h) : C8.Cal P w K mg base 2 "_law_mixed" (sp_law_mixed K) [] := by
  have c__law_draw := ok_law_draw (P := P) (w := w) (base := base) T
  have m_list := T.free 72 "list"
  have m_range := T.free 71 "range"
  have m_len := T.free 67 "len"
  obtain ⟨fd, F⟩ := T.says.def_ 53 (d := dd74) rfl
  have g : mg "_law_mixed" = some (.ref (He.ga K "_law_mixed")) := He.glo_ok T.kin T.ns (T.says.fact 53 (f := .glo "_law_mixed") rfl)
  refine cal_mk (fn_okF F sc74 (fun i => rfl) (fun cdv A outer s H E hr => (pss_cons (ps_par (i := 2) (j := 3) rfl sc74.nd rfl rfl (by decide) rfl rfl (pa_cons (pe_callTy (k_listOf K) (by rfl) m_list (by decide +kernel) (pa_cons (pv 1) pa_nil)) (pa_cons (pe_lst pa_nil) pa_nil)) (by rfl)) (pss_cons (ps_for PassesOwn.never rfl (pi_range1 (by rfl) m_range (pa_cons (pe_callB (k_len K) (by rfl) m_len PySem.boot_len (pa_cons (pv 1) pa_nil)) pa_nil)) (pg_name (i := 4) sc74.nd rfl (by first | exact Or.inl rfl | exact Or.inr rfl)) (pss_one (ps_expr (k_bm K PySem.F.plainAttrs_list PySem.F.slot_list_append PySem.F.type_list_append mt_append (pv 3) (pa_cons (k_bm K PySem.F.plainAttrs_list PySem.F.slot_list_pop PySem.F.type_list_pop mt_popAt (pv 2) (pa_cons (C8.pe_c c__law_draw hr (by decide) (by rfl) (pa_cons (pv 0) (pa_cons (pe_callB (k_len K) (by rfl) m_len PySem.boot_len (pa_cons (pv 2) pa_nil)) pa_nil))) pa_nil)) pa_nil))))) (pss_one (ps_ret (pv 3)))))) ?_) g F.kp (F.bindsN fun _ _ _ _ _ _ us hl => match us, hl with | [_, _], _ => rfl)
  rintro n f N0 hn hN
  intro σ G H D s e fd nx rt
  obtain ⟨v1, q1, r1⟩ := SlOk.get s (i := 1) (s := .d (.list ((List.range n).map iD))) rfl
  have r1 : Dr K G v1 (.list ((List.range n).map iD)) := r1
  cases r1 with
  | @lst a xs _ hs ha =>
  refine ⟨_, q1, a, xs, rfl, .inl (Evl.ex_l e hs), fun p hp => ⟨Nat.zero_le _, fun q hq => ⟨_, _, rfl, ?_⟩⟩⟩
  have hpf : p ≠ f := fun z => fd.ne (z ▸ hp)
  have hqp : q ≠ p := fun z => by subst z; rw [upd_same] at hq; cases hq
  rw [upd_ne hqp] at hq
  have hqf : q ≠ f := fun z => fd.ne (z ▸ hq)
  have ev : xs = nV (List.range n) := by
    rw [map_iD] at ha
    have := dpAll_ints ha
    rw [this, List.map_map]
    rfl
  subst ev
  generalize hσ : ((σ.set 2 (some (V.ref p))).set 3 (some (V.ref q))) = σ0
  have sl : SlOk K G σ0 [some (.r (.ref f)), some (.d (.list ((List.range n).map iD))), some (.r (.ref p)), some (.r (.ref q)), none] := by
    rw [← hσ]
    exact SlOk.set (o := some (.ref q)) (s := some (.r (.ref q))) rfl 3 (SlOk.set (o := some (.ref p)) (s := some (.r (.ref p))) rfl 2 s)
  have gp := ex_none e hp
  have gq := ex_none e hq
  have m0 : MxD f p q G H G (upd (upd H p (.lst (nV (List.range n)))) q (.lst [])) n N0 (List.range n) [] :=
    ⟨xf_putO (xf_putO (XF.refl e) gp hp) gq hq, (fd.putH hpf).putH hqf, gp, gq, by rw [upd_ne (Ne.symm hqp)]; exact upd_same, upd_same, List.Perm.refl _⟩
  generalize upd (upd H p (.lst (nV (List.range n)))) q (.lst []) = H0 at m0 ⊢
  have wk : W1 K (iRng1 (tCons (tCB (rLenS K) (tCons (tVar 1) tNil)) tNil)) [some (.r (.ref f)), some (.d (.list ((List.range n).map iD))), some (.r (.ref p)), some (.r (.ref q)), none] ((List.range n).map iD) := w_rangeN (e_lenL (e_var rfl) (by simp)) (by omega)
  show tFor (iRng1 (tCons (tCB (rLenS K) (tCons (tVar 1) tNil)) tNil)) (gName 4) _ _ σ0 H0
  refine wk σ0 G H0 sl m0.xt.gh _ fun J G1 H1 x1 w => ?_
  rw [List.length_map, List.length_range] at w
  refine for_it w (fun i σ' H' => ∃ G' pool got, Evl.Ex G1 G' ∧ MxD f p q G H G' H' n (N0 + i) pool got ∧ got.length = i ∧ SlOk K G' σ' [some (.r (.ref f)), some (.d (.list ((List.range n).map iD))), some (.r (.ref p)), some (.r (.ref q)), none]) ⟨G1, List.range n, [], Evl.Ex.refl _, mxd_go m0 x1.xf (m0.fd.go x1) hpf hqf, rfl, sl.ext x1.gg⟩ (fun i σ' H' _ h => ?_) (fun i x σ' H' H'' hi h y => ?_) (fun σ' H' h => ?_)
  · obtain ⟨G', pool, got, e2, m, _⟩ := h
    exact e2.trans m.xt.gh
  · obtain ⟨G', pool, got, e2, m, hl, s2⟩ := h
    obtain ⟨d, hd', y⟩ := y
    obtain ⟨G'', x3, dx⟩ := y G' e2 m.xt.gh
    have m3 := mxd_go m x3.xf (m.fd.go x3) hpf hqf
    have s3 : SlOk K G'' (σ'.set 4 (some x)) [some (.r (.ref f)), some (.d (.list ((List.range n).map iD))), some (.r (.ref p)), some (.r (.ref q)), some (.d d)] := SlOk.set (o := some x) (s := some (.d d)) dx 4 (s2.ext x3.gg)
    obtain ⟨v0, k0, t0⟩ := s3.get (i := 0) (s := .r (.ref f)) rfl
    have t0 : v0 = .ref f := t0
    subst t0
    obtain ⟨v2, k2, t2⟩ := s3.get (i := 2) (s := .r (.ref p)) rfl
    have t2 : v2 = .ref p := t2
    subst t2
    obtain ⟨v3, k3, t3⟩ := s3.get (i := 3) (s := .r (.ref q)) rfl
    have t3 : v3 = .ref q := t3
    subst t3
    have lp : pool.length + i = n := by
      have := m.pm.length_eq
      rw [List.length_append, List.length_range] at this
      omega
    have lv : ∀ l : List Nat, (nV l).length = l.length := fun l => List.length_map _
    refine ⟨_, k3, .inl ⟨rfl, _, sqL_of m3.hq⟩, _, k2, .inl ⟨rfl, _, sqL_of m3.hp⟩, _, k0, _, k2, p, _, rfl, .inl (sqL_of m3.hp), ?_⟩
    refine ⟨(pool.length : Nat), f, G'', N0 + i, [.int (pool.length : Nat)], ⟨by omega, by omega⟩, by show N0 + i + 1 ≤ 100000; omega, by rw [lv]; rfl, x3.gh, m3.fd, .cons (.int _) .nil, fun v G4 H4 d4 x4 f4 dv hd => ?_⟩
    obtain ⟨r, rfl, hr0, hr1⟩ := hd
    cases dv
    have m4 := mxd_go m3 x4 f4 hpf hqf
    have hrl : r.toNat < pool.length := by omega
    refine ⟨p, _, r, r.toNat, .int ((pool.getD r.toNat 0 : Nat) : Int), rfl, rfl, m4.hp, by omega, by omega, by rw [lv]; exact seqIx hr0 hr1, ?_, ?_⟩
    · rw [List.getElem?_map, get_getD (d := 0) hrl]
      rfl
    have hq5 : upd H4 p (.lst ((nV pool).eraseIdx r.toNat)) q = some (.lst (nV got)) := by rw [upd_ne hqp]; exact m4.hq
    refine ⟨q, _, _, rfl, rfl, hq5, by rw [lv]; exact sz_lt (by omega), G4, pool.eraseIdx r.toNat, got ++ [pool.getD r.toNat 0], (e2.trans x3.gg).trans x4.gg, ⟨?_, ?_, m4.gp, m4.gq, ?_, ?_, ?_⟩, by simp [hl], ?_⟩
    · exact xf_putO (xf_putO m4.xt m4.gp hp) m4.gq hq
    · rw [← Nat.add_assoc]
      exact (m4.fd.putH hpf).putH hqf
    · rw [upd_ne (Ne.symm hqp), upd_same, erase_map]
    · rw [upd_same]
      show some (HO.lst (nV got ++ [V.int ((pool.getD r.toNat 0 : Nat) : Int)])) = some (HO.lst (nV (got ++ [pool.getD r.toNat 0])))
      rw [show nV (got ++ [pool.getD r.toNat 0]) = nV got ++ nV [pool.getD r.toNat 0] from List.map_append]
      rfl
    · rw [List.append_assoc]
      exact ((erase_perm hrl).symm.append_left got).trans m4.pm
    · exact Weak.cons _ (Weak.cons _ (Weak.cons _ (Weak.cons _ (Weak.drop _ (Weak.refl _))))) K G4 _ (s3.ext x4.gg)
  · obtain ⟨G', pool, got, e2, m, hl, s2⟩ := h
    obtain ⟨v3, k3, t3⟩ := s2.get (i := 3) (s := .r (.ref q)) rfl
    have t3 : v3 = .ref q := t3
    subst t3
    have pl : pool = [] := by
      have := m.pm.length_eq
      rw [List.length_append, List.length_range] at this
      exact List.eq_nil_of_length_eq_zero (by omega)
    have pm := m.pm
    rw [pl, List.append_nil] at pm
    have dg : DrAll K G' (nV got) (got.map iD) := dpAll_map fun k _ => Dr.int _
    refine ⟨_, k3, rt (.ref q) (upd G' q (.lst (nV got))) H' (.list (got.map iD)) (N0 + n) ⟨m.xt.gg.trans (Evl.Ex.new m.gq), fun b u h => ?_, m.xt.hh, fun b u nb h1 h2 h3 => ?_⟩ (m.fd.putG hqf) (.lst (sqL_of upd_same) (dg.ext (Evl.Ex.new m.gq))) ⟨Nat.le_refl _, got, pm, rfl⟩⟩
    · by_cases z : b = q
      · subst z; rw [upd_same] at h; cases h; exact m.hq
      · rw [upd_ne z] at h; exact m.xt.gh b u h
    · rw [upd_ne (fun z => by subst z; rw [hq] at h2; cases h2)]
      exact m.xt.fr b u nb h1 h2 h3

end
end Mix

namespace Mix
open PySem PySem.Spec L2 RZ DL
open PyProof.Rows (envOfC)
section
variable {P : Program} {w : World} {K : PySem.W.Frag} {mg : Str → Option Value} {base h : Heap}

theorem ad_seq2 {δ : Sl} {A B C : TS} {N N' : Sl → Prop} {P : List Dat → Prop} {Bd : Nat} {p : Addr} (h : Sd K (tSeq A (tSeq B tNext)) δ N fun _ => False) (h2 : ∀ δ2, N δ2 → Ad K Bd p C δ2 N' P) : Ad K Bd p (tSeq A (tSeq B C)) δ N' P := fun σ G1 H1 G H ds D s o h1 hl nx => ad_seq h h2 σ G1 H1 G H ds D s o h1 hl nx
theorem enum_ints (l : List Int) : enumD (l.map Dat.int) = l.zipIdx.map fun p => .tuple .p [iD p.2, Dat.int p.1] := by
  unfold enumD
  rw [List.zipIdx_map]
  simp [iD, Function.comp_def]
theorem flat_one {α β : Type} (f : α → β) : ∀ l : List α, l.flatMap (fun a => [f a]) = l.map f
  | [] => rfl
  | a :: l => by rw [List.flatMap_cons, flat_one f l]; rfl
theorem cut_to_ints (l : List Int) (n : Nat) : cutD (l.map Dat.int) none (some (n : Int)) = (l.take n).map .int := by rw [cutD_to, ← List.map_take]
theorem enum_rows (T : List (List Int)) : enumD (T.map zT) = T.zipIdx.map fun p => .tuple .p [iD p.2, zT p.1] := by
  unfold enumD
  rw [List.zipIdx_map]
  simp [iD, Function.comp_def]
theorem zipIdx_at {α : Type} {T : List α} {i : Nat} {p : α × Nat} (h : T.zipIdx[i]? = some p) : p.2 = i ∧ T[i]? = some p.1 := by
  rw [List.getElem?_zipIdx] at h
  cases hT : T[i]? with
  | none => rw [hT] at h; simp at h
  | some r => rw [hT] at h; simp at h; subst h; exact ⟨rfl, rfl⟩
theorem getD_of {α : Type} {T : List α} {i : Nat} {r d : α} (h : T[i]? = some r) : T.getD i d = r := by simp [List.getD, h]
theorem w_rg2 {δ : Sl} {ta : TA} {a b : Nat} (h : A1 K ta δ [.int (a : Nat), .int (b : Nat)]) (hb : b ≤ 100000) (ha : a ≤ 100000) : W1 K (iRng2 ta) δ ((List.range (b - a)).map fun i => iD (a + i)) := by
  have e : rgD (a : Int) (b : Int) = (List.range (b - a)).map fun i => iD (a + i) := by
    unfold rgD iD
    have e1 : ((b : Int) - (a : Int)).toNat = b - a := by omega
    rw [e1]
    apply List.map_congr_left
    intro i _
    congr 1
  rw [← e]
  exact w_range2 h (by omega)

theorem sc75 : FnScope ["_law_left", "_law_top", "_law_gains", "_law_rows", "_law_at", "_law_first", "_law_row", "_law_to", "_law_more", "_law_below", "_law_line"] ["_law_left", "_law_top", "_law_gains"] (defScope (top 75)) := ⟨rfl, rfl, rfl, by decide +kernel, rfl, by decide +kernel, by decide +kernel⟩
abbrev sp_law_built (K : PySem.W.Frag) : Sp := SpI K (ι := List Int × List Int × List (List Int)) (fun i => [.list (i.1.map .int), .list (i.2.1.map .int), .list (i.2.2.map fun l => .list (l.map .int))]) (fun i => i.1.length ≤ 100 ∧ i.2.1.length ≤ 100 ∧ i.2.2.length ≤ 100) (fun i d => d = tab (builtT i.1 i.2.1 i.2.2))
theorem ok_law_built (T : Top K mg h) : C8.Cal P w K mg base 1 "_law_built" (sp_law_built K) [] := by
  have m_enumerate := T.free 73 "enumerate"
  have m_sum := T.free 77 "sum"
  have m_tuple := T.free 66 "tuple"
  obtain ⟨fd, F⟩ := T.says.def_ 54 (d := dd75) rfl
  have g : mg "_law_built" = some (.ref (He.ga K "_law_built")) := He.glo_ok T.kin T.ns (T.says.fact 54 (f := .glo "_law_built") rfl)
  refine cal_mk (fn_ok F sc75 (fun i => rfl) (fun cdv A outer s H E hr => (pss_cons (ps_set (i := 3) sc75.nd rfl (by first | exact Or.inl rfl | exact Or.inr rfl) (pe_lst pa_nil)) (pss_cons (ps_for PassesOwn.never rfl (k_enum K (by rfl) m_enumerate (pa_cons (pv 0) pa_nil)) (k_tuple K (n := 2) (pgs_cons (pg_name (i := 4) sc75.nd rfl (by first | exact Or.inl rfl | exact Or.inr rfl)) (pgs_cons (pg_name (i := 5) sc75.nd rfl (by first | exact Or.inl rfl | exact Or.inr rfl)) pgs_nil))) (pss_cons (ps_set (i := 6) sc75.nd rfl (by first | exact Or.inl rfl | exact Or.inr rfl) (pe_lst (pa_cons (pv 5) pa_nil))) (pss_cons (ps_for PassesOwn.never rfl (k_enum K (by rfl) m_enumerate (pa_cons (pv 1) pa_nil)) (k_tuple K (n := 2) (pgs_cons (pg_name (i := 7) sc75.nd rfl (by first | exact Or.inl rfl | exact Or.inr rfl)) (pgs_cons (pg_name (i := 8) sc75.nd rfl (by first | exact Or.inl rfl | exact Or.inr rfl)) pgs_nil))) (pss_cons (ps_set (i := 9) sc75.nd rfl (by first | exact Or.inl rfl | exact Or.inr rfl) (pe_callB (k_sum K) (by rfl) m_sum (by decide +kernel) (pa_cons (pe_lc (own := [("_law_line", 10)]) rfl sc75.nd (k_piL K (pe_slice (k_slL K) (pv 2) po_none (po_some (pv 4)))) (blkOk_by (by rfl)) (fun _ _ _ _ _ => (pg_name (i := 10) sc75.nd rfl (by first | exact Or.inl rfl | exact Or.inr rfl))) (fun _ _ _ _ _ => pts_nil) (fun _ _ _ _ _ => (pe_callB (k_sum K) (by rfl) m_sum (by decide +kernel) (pa_cons (pe_slice (k_slL K) (pv 10) po_none (po_some (pe_op op_add (pv 7) pe_int))) pa_nil)))) pa_nil))) (pss_one (ps_expr (k_bm K PySem.F.plainAttrs_list PySem.F.slot_list_append PySem.F.type_list_append mt_append (pv 6) (pa_cons (pe_op op_sub (pe_op op_add (pv 5) (pv 8)) (pv 9)) pa_nil)))))) (pss_one (ps_expr (k_bm K PySem.F.plainAttrs_list PySem.F.slot_list_append PySem.F.type_list_append mt_append (pv 3) (pa_cons (pe_callTy (k_tupZ K) (by rfl) m_tuple (by decide +kernel) (pa_cons (pv 6) pa_nil)) pa_nil))))))) (pss_one (ps_ret (pe_callTy (k_tupZ K) (by rfl) m_tuple (by decide +kernel) (pa_cons (pv 3) pa_nil))))))) ?_) g F.kp (F.bindsN fun _ _ _ _ _ _ us hl => match us, hl with | [_, _, _], _ => rfl)
  rintro ⟨left, top, gs⟩ ⟨h1, h2, h3⟩
  dsimp only at h1 h2 h3
  refine sd_gather left.zipIdx (fun p => .tuple .p [iD p.2, Dat.int p.1]) (fun p => zT (p.1 :: top.zipIdx.map fun q => p.1 + q.1 - ((gs.take p.2).map fun line => (line.take (q.2 + 1)).sum).sum)) a_nil (fun p => (enum_ints left) ▸ w_enumL (a_cons (e_var rfl) a_nil)) (fun p a => g_tup2) (by simp; omega) (fun p a ha => ?_) (sd_ret (e_cb (a_cons (e_var rfl) a_nil) cd_tupZ) (by simp [tab, builtT]))
  obtain ⟨first, at_⟩ := a
  let row : List Int := first :: top.zipIdx.map fun q => first + q.1 - ((gs.take at_).map fun line => (line.take (q.2 + 1)).sum).sum
  let δ1 : Sl := [some (.d (.list (left.map .int))), some (.d (.list (top.map .int))), some (.d (.list (gs.map fun l => .list (l.map .int)))), some (.r (.ref p)), some (.d (iD at_)), some (.d (.int first)), some (.d (.list (row.map .int))), none, none, none, none]
  refine ad_seq2 (N := fun δ2 => δ2 = δ1) (sd_collect (B := 1000) (k := 6) (ds0 := [.int first]) top.zipIdx (fun q => .tuple .p [iD q.2, Dat.int q.1]) (fun q => [Dat.int (first + q.1 - ((gs.take at_).map fun line => (line.take (q.2 + 1)).sum).sum)]) (a_cons (e_var rfl) a_nil) (fun p => (enum_ints top) ▸ w_enumL (a_cons (e_var rfl) a_nil)) (fun p a => g_tup2) (fun p2 q hq => ?_) ?_ (by omega) (sd_next ?_)) ?_
  · obtain ⟨more, to⟩ := q
    refine ad_set (d := .int ((gs.take at_).map fun line => (line.take (to + 1)).sum).sum) (e_cb (a_cons (E1.is (e_lcm (gs.take at_) (fun l : List Int => .list (l.map .int)) (w_list (E1.is (e_sl (e_var rfl) o_no (o_some (e_var rfl)) sl_l) (by rw [cutD_to, ← List.map_take]))) (fun a => g_name 10) (by simp) (f := fun line => .int (line.take (to + 1)).sum) (fun line _ => e_cb (a_cons (E1.is (e_sl (e_var rfl) o_no (o_some (e_op (e_var rfl) (e_int 1) rd_add)) sl_l) (congrArg Dat.list (cut_to_ints line (to + 1)))) a_nil) cd_sum) (by rw [List.length_take]; omega)) (by rw [List.map_map]; rfl)) a_nil) cd_sum) ?_
    exact ad_append (by omega) rfl (e_op (e_op (e_var rfl) (e_var rfl) rd_add) (e_var rfl) rd_sub) (.cons _ (.cons _ (.cons _ (.cons _ (.cons _ (.cons _ (.cons _ (.drop _ (.drop _ (.drop _ (.refl _))))))))))) rfl
  · rw [flat_one]
    simp
    omega
  · show _ = δ1
    rw [flat_one]
    simp [δ1, row]
    rfl
  · rintro δ2 rfl
    exact ad_append (by omega) rfl (E1.is (e_cb (a_cons (e_var rfl) a_nil) cd_tupZ) rfl) (.cons _ (.cons _ (.cons _ (.cons _ (.drop _ (.drop _ (.drop _ (.refl _)))))))) rfl

theorem sc77 : FnScope ["_law_table", "_law_at", "_law_row", "_law_line", "_law_to", "_law_other"] ["_law_table"] (defScope (top 77)) := ⟨rfl, rfl, rfl, by decide +kernel, rfl, by decide +kernel, by decide +kernel⟩
abbrev sp_law_straight (K : PySem.W.Frag) : Sp := SpI K (ι := Nat × Nat × List (List Int)) (fun i => [tab i.2.2]) (fun i => Tb i.1 i.2.1 i.2.2 ∧ PW i.1 i.2.1 i.2.2) (fun i d => d = .bool true)
theorem ok_law_straight (T : Top K mg h) : C8.Cal P w K mg base 1 "_law_straight" (sp_law_straight K) [] := by
  have m_enumerate := T.free 73 "enumerate"
  have m_range := T.free 71 "range"
  have m_len := T.free 67 "len"
  obtain ⟨fd, F⟩ := T.says.def_ 56 (d := dd77) rfl
  have g : mg "_law_straight" = some (.ref (He.ga K "_law_straight")) := He.glo_ok T.kin T.ns (T.says.fact 56 (f := .glo "_law_straight") rfl)
  refine cal_mk (fn_ok F sc77 (fun i => rfl) (fun cdv A outer s H E hr => (pss_cons (ps_for PassesOwn.never rfl (k_enumT K (by rfl) m_enumerate (pa_cons (pv 0) pa_nil)) (k_tuple K (n := 2) (pgs_cons (pg_name (i := 1) sc77.nd rfl (by first | exact Or.inl rfl | exact Or.inr rfl)) (pgs_cons (pg_name (i := 2) sc77.nd rfl (by first | exact Or.inl rfl | exact Or.inr rfl)) pgs_nil))) (pss_one (ps_for PassesOwn.never rfl (k_piT K (pe_slice (k_slT K) (pv 0) (po_some (pe_op op_add (pv 1) pe_int)) po_none)) (pg_name (i := 3) sc77.nd rfl (by first | exact Or.inl rfl | exact Or.inr rfl)) (pss_one (ps_for PassesOwn.never rfl (pi_range1 (by rfl) m_range (pa_cons (pe_callB (k_len K) (by rfl) m_len PySem.boot_len (pa_cons (pv 2) pa_nil)) pa_nil)) (pg_name (i := 4) sc77.nd rfl (by first | exact Or.inl rfl | exact Or.inr rfl)) (pss_one (ps_if (pt_cmpR (k_neD K (u64 hr)) (pe_lc (own := [("_law_other", 5)]) rfl sc77.nd (pi_range2 (by rfl) m_range (pa_cons (pe_op op_add (pv 4) pe_int) (pa_cons (pe_callB (k_len K) (by rfl) m_len PySem.boot_len (pa_cons (pv 2) pa_nil)) pa_nil))) (blkOk_by (by rfl)) (fun _ _ _ _ _ => (pg_name (i := 5) sc77.nd rfl (by first | exact Or.inl rfl | exact Or.inr rfl))) (fun _ _ _ _ _ => pts_one (pt_cmpR op_gt (pe_op op_add (pe_ix (k_ixT K) (pv 2) (pv 4) (fun _ _ => rfl)) (pe_ix (k_ixT K) (pv 3) (pv 5) (fun _ _ => rfl))) (pe_op op_add (pe_ix (k_ixT K) (pv 2) (pv 5) (fun _ _ => rfl)) (pe_ix (k_ixT K) (pv 3) (pv 4) (fun _ _ => rfl))) (nomark _))) (fun _ _ _ _ _ => pe_int)) (pe_lst pa_nil) (nomark _)) (pss_one (ps_ret pe_bl)) pss_nil))))))) (pss_one (ps_ret pe_bl)))) ?_) g F.kp (F.bindsN fun _ _ _ _ _ _ us hl => match us, hl with | [_], _ => rfl)
  rintro ⟨n, m, T⟩ ⟨W, hp⟩
  dsimp only at W hp
  have hn := W.n8
  have hm := W.m8
  refine sd_for T.zipIdx (fun p => .tuple .p [iD p.2, zT p.1]) (fun _ => True) ((enum_rows T) ▸ w_enumT (a_cons (e_var rfl) a_nil)) (fun a => g_tup2) trivial (fun i p hpp _ => ?_) (fun _ => sd_ret (e_bl true) rfl)
  obtain ⟨row, k⟩ := p
  obtain ⟨hk, hrow⟩ := zipIdx_at hpp
  dsimp only at hk hrow
  subst hk
  have lr : row.length = m := W.cols row (List.mem_of_getElem? hrow)
  have hk : k < n := by rw [← W.rows]; exact (List.getElem?_eq_some_iff.mp hrow).1
  refine Sd.one (sd_for (T.drop (k + 1)) zT (fun _ => True) (w_tup (E1.is (e_sl (e_var rfl) (o_some (e_op (e_var rfl) (e_int 1) rd_add)) o_no sl_t) (congrArg (Dat.tuple .a) (show cutD (T.map zT) (some ((k : Int) + 1)) none = (T.drop (k + 1)).map zT by have := cutD_from (ds := T.map zT) (k + 1); rw [← List.map_drop] at this; exact this)))) (fun a => g_name 3) trivial (fun j line hl _ => ?_) (fun _ => sd_next ⟨trivial, ?_⟩))
  · rw [List.getElem?_drop] at hl
    have ll : line.length = m := W.cols line (List.mem_of_getElem? hl)
    have hj : k + 1 + j < n := by rw [← W.rows]; exact (List.getElem?_eq_some_iff.mp hl).1
    refine Sd.one (sd_for (List.range m) iD (fun _ => True) (w_rangeN (e_len (n := m) (e_var rfl) (by rw [List.length_map]; exact lr)) (by omega)) (fun a => g_name 4) trivial (fun t c hc _ => ?_) (fun _ => sd_next ⟨trivial, ?_⟩))
    · have hc : c < m := by have := List.mem_of_getElem? hc; simpa using this
      have eh : ∀ i, row.getD i 0 = en T k i := fun i => by unfold en; rw [getD_of hrow]
      have eg : ∀ i, line.getD i 0 = en T (k + 1 + j) i := fun i => by unfold en; rw [getD_of hl]
      have ef : (List.range (m - (c + 1))).filter (fun _ => false) = [] := by simp
      refine sd_need (T1.is (t_test (e_op (E1.is (x := .list []) (e_lcG (List.range (m - (c + 1))) (fun i => iD (c + 1 + i)) (fun i => [some (.d (tab T)), some (.d (iD k)), some (.d (zT row)), some (.d (zT line)), some (.d (iD c)), some (.d (iD (c + 1 + i)))]) (fun _ => false) (fun _ => .int 1) (w_rg2 (a_cons (e_op (e_var rfl) (e_int 1) rd_add) (a_cons (e_len (n := m) (e_var rfl) (by rw [List.length_map]; exact lr)) a_nil)) (by omega) (by omega)) (fun a => g_name 5) (by simp)
        (fun i hi => ?_) (fun i hi z => nomatch z) (by simp; omega)) (by rw [ef]; rfl)) (e_lst a_nil) (rd_neD (x := .list []) (y := .list []) rfl rfl))) rfl) ⟨trivial, .cons _ (.cons _ (.cons _ (.cons _ (.drop _ (.refl _)))))⟩
      have hi : i < m - (c + 1) := by simpa using hi
      refine T1.is (t_test (e_op (e_op (e_op (e_var rfl) (e_var rfl) (rd_ixT (at_row (l := row) (c := c) (by omega)))) (e_op (e_var rfl) (e_var rfl) (rd_ixT (at_row (l := line) (c := c + 1 + i) (by omega)))) rd_add) (e_op (e_op (e_var rfl) (e_var rfl) (rd_ixT (at_row (l := row) (c := c + 1 + i) (by omega)))) (e_op (e_var rfl) (e_var rfl) (rd_ixT (at_row (l := line) (c := c) (by omega)))) rd_add) rd_gt)) ?_
      rw [eh, eh, eg, eg]
      have := hp k (k + 1 + j) (by omega) hj c (c + 1 + i) (by omega) (by omega)
      exact decide_eq_false (by omega)
    · exact .cons _ (.cons _ (.cons _ (.drop _ (.drop _ (.refl _)))))
  · exact .cons _ (.drop _ (.drop _ (.refl _)))

theorem sc78 : FnScope ["_law_table", "_law_rows", "_law_columns", "_law_row", "_law_column"] ["_law_table", "_law_rows", "_law_columns"] (defScope (top 78)) := ⟨rfl, rfl, rfl, by decide +kernel, rfl, by decide +kernel, by decide +kernel⟩
abbrev sp_law_placed (K : PySem.W.Frag) : Sp := SpI K (ι := List (List Int) × List Nat × List Nat × Dat × Dat) (fun i => [tab i.1, i.2.2.2.1, i.2.2.2.2])
  (fun i => (∃ n m, Rect n m i.1 ∧ (∀ r ∈ i.2.1, r < n) ∧ (∀ c ∈ i.2.2.1, c < m) ∧ i.2.1.length ≤ 1000 ∧ i.2.2.1.length ≤ 1000) ∧ (i.2.2.2.1 = .list (i.2.1.map iD) ∨ i.2.2.2.1 = .tuple .s (i.2.1.map iD)) ∧ (i.2.2.2.2 = .list (i.2.2.1.map iD) ∨ i.2.2.2.2 = .tuple .s (i.2.2.1.map iD))) (fun i d => d = tab (place i.1 i.2.1 i.2.2.1))
theorem ok_law_placed (T : Top K mg h) : C8.Cal P w K mg base 1 "_law_placed" (sp_law_placed K) [] := by
  have m_tuple := T.free 66 "tuple"
  obtain ⟨fd, F⟩ := T.says.def_ 57 (d := dd78) rfl
  have g : mg "_law_placed" = some (.ref (He.ga K "_law_placed")) := He.glo_ok T.kin T.ns (T.says.fact 57 (f := .glo "_law_placed") rfl)
  refine cal_mk (fn_ok F sc78 (fun i => rfl) (fun cdv A outer s H E hr => (pss_one (ps_ret (pe_callTy (k_tupZ K) (by rfl) m_tuple (by decide +kernel) (pa_cons (pe_lc (own := [("_law_row", 3)]) rfl sc78.nd (k_piS K (pv 1)) (blkOk_by (by rfl)) (fun _ _ _ _ _ => (pg_name (i := 3) sc78.nd rfl (by first | exact Or.inl rfl | exact Or.inr rfl))) (fun _ _ _ _ _ => pts_nil) (fun _ _ _ _ _ => (pe_callTy (k_tupZ K) (by rfl) m_tuple (by decide +kernel) (pa_cons (pe_lc (own := [("_law_column", 4)]) rfl sc78.nd (k_piS K (pv 2)) (blkOk_by (by rfl)) (fun _ _ _ _ _ => (pg_name (i := 4) sc78.nd rfl (by first | exact Or.inl rfl | exact Or.inr rfl))) (fun _ _ _ _ _ => pts_nil) (fun _ _ _ _ _ => (pe_ix (k_ixT K) (pe_ix (k_ixT K) (pv 0) (pv 3) (fun _ _ => rfl)) (pv 4) (fun _ _ => rfl)))) pa_nil)))) pa_nil))))) ?_) g F.kp (F.bindsN fun _ _ _ _ _ _ us hl => match us, hl with | [_, _, _], _ => rfl)
  rintro ⟨T, rows, cols, Rd_, Cd_⟩ ⟨⟨n, m, R, hr, hc, lr, lc⟩, hR, hC⟩
  dsimp only at R hr hc lr lc hR hC
  exact sd_ret (e_cb (a_cons (e_lcm rows iD (w_seq (e_var rfl) hR) (fun a => g_name 3) (by simp) (fun a ha => e_cb (a_cons (e_lcm cols iD (w_seq (e_var rfl) hC) (fun c => g_name 4) (by simp)
    (fun c hc' => e_en R (e_var rfl) (e_var rfl) (e_var rfl) (hr a ha) (hc c hc')) (by omega)) a_nil) cd_tupZ) (by omega)) a_nil) cd_tupZ) (by simp [tab, place, zT])

theorem sc79 : FnScope ["_law_feed_here", "_law_many", "_law_some_here", "_law_index"] ["_law_feed_here", "_law_many"] (defScope (top 79)) := ⟨rfl, rfl, rfl, by decide +kernel, rfl, by decide +kernel, by decide +kernel⟩
abbrev sp_law_some (K : PySem.W.Frag) : Sp := SpF K (ι := Nat) (fun n => [.int (n : Nat)]) (fun n => 1 ≤ n ∧ n ≤ 1000) (fun n => n + 1) (fun n d => ∃ s : List Nat, d = nT s ∧ s ≠ [] ∧ s.Pairwise (· < ·) ∧ (∀ x ∈ s, x < n) ∧ s.length ≤ n)
theorem ok_law_some (T : Top K mg h) : C8.Cal P w K mg base 2 "_law_some" (sp_law_some K) [] := by
  have c__law_draw := ok_law_draw (P := P) (w := w) (base := base) T
  have m_range := T.free 71 "range"
  have m_tuple := T.free 66 "tuple"
  obtain ⟨fd, F⟩ := T.says.def_ 58 (d := dd79) rfl
  have g : mg "_law_some" = some (.ref (He.ga K "_law_some")) := He.glo_ok T.kin T.ns (T.says.fact 58 (f := .glo "_law_some") rfl)
  refine cal_mk (fn_okF F sc79 (fun i => rfl) (fun cdv A outer s H E hr => (pss_cons (ps_setLc (i := 2) (own := [("_law_index", 3)]) rfl sc79.nd rfl rfl (sw_true rfl rfl rfl (by decide +kernel)) (pi_range1 (by rfl) m_range (pa_cons (pv 1) pa_nil)) (blkOk_by (by rfl)) (fun _ _ _ _ _ => (pg_name (i := 3) sc79.nd rfl (by first | exact Or.inl rfl | exact Or.inr rfl))) (fun _ _ _ _ _ => pts_one (pt_cmpR op_gt (C8.pe_c c__law_draw hr (by decide) (by rfl) (pa_cons (pv 0) (pa_cons pe_int pa_nil))) pe_int (nomark _))) (fun _ _ _ _ _ => (pv 3))) (pss_one (ps_ret (pe_callTy (k_tupZ K) (by rfl) m_tuple (by decide +kernel) (pa_cons (pe_ifExp (pt_cmpR (k_neD K (u64 hr)) (pv 2) (pe_lst pa_nil) (nomark _)) (pv 2) (pe_lst (pa_cons (C8.pe_c c__law_draw hr (by decide) (by rfl) (pa_cons (pv 0) (pa_cons (pv 1) pa_nil))) pa_nil))) pa_nil)))))) ?_) g F.kp (F.bindsN fun _ _ _ _ _ _ us hl => match us, hl with | [_, _], _ => rfl)
  rintro n f N0 ⟨h1, hn⟩ hN
  have hN : N0 + (n + 1) ≤ 100000 := hN
  refine sf_set (M := N0 + n) (EF.mono (ef_lcf 1 (List.range n) iD iD (w_rangeN (e_var rfl) (by omega)) (fun a => g_name 3) (by simp) (fun a _ k hk => tf_test (ef_op (P'' := fun d => ∃ b, d = .bool b ∧ True) (ef_callF (k := 0) (c := 1) (P := fun ds => ds = [.int 3]) rfl (A1.af (a_cons (e_int 3) a_nil) rfl) (fun ds h => ⟨_, h, by decide, Nat.le_refl _, fun d h => h⟩) hk) (E1.ef (P := fun d => d = .int 0) (e_int 0) rfl) ?_)) (fun a _ => e_var rfl) (by simp; omega) (by simp; omega)) (fun _ h => h) (by simp)) ?_
  · rintro x y ⟨r, rfl, _⟩ rfl
    exact ⟨_, rd_gt, _, rfl, trivial⟩
  · rintro d ⟨S, rfl, sub⟩
    have s1 : S.Pairwise (· < ·) := List.Pairwise.sublist sub List.pairwise_lt_range
    have s2 : ∀ x ∈ S, x < n := fun x hx => by simpa using sub.subset hx
    have s3 : S.length ≤ n := by have := sub.length_le; simpa using this
    have sh : SeqAt.shaped (Dat.list (S.map iD)).py = true := by rw [map_iD]; exact shaped_ints' _
    refine sf_ret (M := N0 + (n + 1)) (P := fun d => ∃ s : List Nat, d = nT s ∧ s ≠ [] ∧ s.Pairwise (· < ·) ∧ (∀ x ∈ s, x < n) ∧ s.length ≤ n) (ef_cb (P := fun ds => ∃ s : List Nat, ds = [.list (s.map iD)] ∧ s ≠ [] ∧ s.Pairwise (· < ·) ∧ (∀ x ∈ s, x < n) ∧ s.length ≤ n) (af_cons (P1 := fun d => ∃ s : List Nat, d = .list (s.map iD) ∧ s ≠ [] ∧ s.Pairwise (· < ·) ∧ (∀ x ∈ s, x < n) ∧ s.length ≤ n) (P2 := fun ds => ds = []) ?_ (af_nil rfl) ?_) ?_) fun d h => ⟨Nat.le_refl _, h⟩
    · refine ef_if (M := N0 + n) (Pb := fun b => b = !decide (S = [])) (T1.tf (t_test (e_op (e_var rfl) (e_lst a_nil) (rd_neD sh rfl))) ?_) (fun hb => ?_) (fun hb => ?_)
      · cases S with
        | nil => rfl
        | cons x r => rfl
      · have hb : S ≠ [] := by simpa using hb
        exact (E1.ef (P := fun d => ∃ s : List Nat, d = .list (s.map iD) ∧ s ≠ [] ∧ s.Pairwise (· < ·) ∧ (∀ x ∈ s, x < n) ∧ s.length ≤ n) (e_var rfl) ⟨S, rfl, hb, s1, s2, s3⟩).mono (fun _ h => h) (by omega)
      · refine EF.mono (ef_lst (P := fun ds => ∃ s : List Nat, ds = s.map iD ∧ s ≠ [] ∧ s.Pairwise (· < ·) ∧ (∀ x ∈ s, x < n) ∧ s.length ≤ n) (af_cons (P1 := fun d => ∃ r : Int, d = .int r ∧ 0 ≤ r ∧ r < n) (P2 := fun ds => ds = []) (ef_callF (k := 0) (c := 1) (P := fun ds => ds = [.int (n : Nat)]) rfl (A1.af (a_cons (e_var rfl) a_nil) rfl) (fun ds h => ⟨(n : Nat), h, ⟨by omega, by omega⟩, Nat.le_refl _, fun d h => h⟩) (by omega)) (af_nil rfl) ?_) ?_) ?_ (by omega)
        · rintro d ds ⟨r, rfl, r0, r1⟩ rfl
          refine ⟨[r.toNat], ?_, by simp, by simp, by simp; omega, by simp; omega⟩
          show [Dat.int r] = [iD r.toNat]
          unfold iD
          rw [Int.toNat_of_nonneg r0]
        · rintro ds ⟨s, rfl, _, _, _, hl⟩
          simp; omega
        · rintro d ⟨ds, rfl, s, rfl, h⟩
          exact ⟨s, rfl, h⟩
    · rintro d ds ⟨s, rfl, h⟩ rfl
      exact ⟨s, rfl, h⟩
    · rintro ds ⟨s, rfl, h⟩
      exact cd_tupZ.cr ⟨s, rfl, h⟩

theorem sc81 : FnScope ["_law_rows", "_law_one_here", "_law_other", "_law_row"] ["_law_rows", "_law_one_here", "_law_other"] (defScope (top 81)) := ⟨rfl, rfl, rfl, by decide +kernel, rfl, by decide +kernel, by decide +kernel⟩
abbrev sp_law_exchanged (K : PySem.W.Frag) : Sp := SpI K (ι := List Nat × Nat × Nat) (fun i => [nT i.1, .int (i.2.1 : Nat), .int (i.2.2 : Nat)]) (fun i => i.1.length ≤ 1000) (fun i d => d = nT (i.1.map fun r => if r = i.2.1 then i.2.2 else if r = i.2.2 then i.2.1 else r))
theorem ok_law_exchanged (T : Top K mg h) : C8.Cal P w K mg base 1 "_law_exchanged" (sp_law_exchanged K) [] := by
  have m_tuple := T.free 66 "tuple"
  obtain ⟨fd, F⟩ := T.says.def_ 60 (d := dd81) rfl
  have g : mg "_law_exchanged" = some (.ref (He.ga K "_law_exchanged")) := He.glo_ok T.kin T.ns (T.says.fact 60 (f := .glo "_law_exchanged") rfl)
  refine cal_mk (fn_ok F sc81 (fun i => rfl) (fun cdv A outer s H E hr => (pss_one (ps_ret (pe_callTy (k_tupZ K) (by rfl) m_tuple (by decide +kernel) (pa_cons (pe_lc (own := [("_law_row", 3)]) rfl sc81.nd (k_piT K (pv 0)) (blkOk_by (by rfl)) (fun _ _ _ _ _ => (pg_name (i := 3) sc81.nd rfl (by first | exact Or.inl rfl | exact Or.inr rfl))) (fun _ _ _ _ _ => pts_nil) (fun _ _ _ _ _ => (pe_ifExp (pt_cmpR op_eq (pv 3) (pv 1) (nomark _)) (pv 2) (pe_ifExp (pt_cmpR op_eq (pv 3) (pv 2) (nomark _)) (pv 1) (pv 3))))) pa_nil))))) ?_) g F.kp (F.bindsN fun _ _ _ _ _ _ us hl => match us, hl with | [_, _, _], _ => rfl)
  rintro ⟨rows, a, b⟩ hl
  dsimp only at hl
  have ti : ∀ x y : Nat, decide ((x : Int) = (y : Int)) = decide (x = y) := fun x y => decide_eq_decide.mpr (by omega)
  refine sd_ret (e_cb (a_cons (e_lcm rows iD (w_tup (e_var rfl)) (fun a => g_name 3) (by simp) (f := fun r => iD (if r = a then b else if r = b then a else r)) (fun r _ => ?_) (by omega)) a_nil) cd_tupZ) (by simp [nT])
  refine e_if (b := decide (r = a)) (T1.is (t_test (e_op (e_var rfl) (e_var rfl) rd_eqI)) (ti r a)) (fun h => ?_) (fun h => ?_)
  · have h := of_decide_eq_true h
    rw [if_pos h]
    exact e_var rfl
  · have h := of_decide_eq_false h
    rw [if_neg h]
    refine e_if (b := decide (r = b)) (T1.is (t_test (e_op (e_var rfl) (e_var rfl) rd_eqI)) (ti r b)) (fun h2 => ?_) (fun h2 => ?_)
    · have h2 := of_decide_eq_true h2
      rw [if_pos h2]
      exact e_var rfl
    · have h2 := of_decide_eq_false h2
      rw [if_neg h2]
      exact e_var rfl

end
end Mix

namespace Mix
open PySem PySem.Spec L2 RZ DL
open PyProof.Rows (envOfC)
section
variable {P : Program} {w : World} {K : PySem.W.Frag} {mg : Str → Option Value} {base h : Heap}

theorem each_of {α β : Type} {enc : β → Dat} {p : β → Prop} : ∀ {L : List α} {ds : List Dat}, Each (fun _ d => ∃ b, d = enc b ∧ p b) L ds → ∃ bs : List β, ds = bs.map enc ∧ bs.length = L.length ∧ ∀ b ∈ bs, p b
  | [], ds, h => ⟨[], by have := h.1; simpa using this, rfl, fun b hb => by cases hb⟩
  | a :: L, [], h => by have := h.1; simp at this
  | a :: L, d :: ds, h => by
    obtain ⟨b, rfl, pb⟩ := h.2 0 a d rfl rfl
    obtain ⟨bs, h1, h2, h3⟩ := each_of (L := L) (ds := ds) (enc := enc) (p := p) ⟨by have := h.1; simpa using this, fun i x y hx hy => h.2 (i + 1) x y (by simpa using hx) (by simpa using hy)⟩
    refine ⟨b :: bs, by rw [h1]; rfl, by simp [h2], fun x hx => ?_⟩
    rcases List.mem_cons.mp hx with rfl | hx
    · exact pb
    · exact h3 x hx
theorem take_sum_mono : ∀ {l : List Int} {a b : Nat}, (∀ g ∈ l, 0 ≤ g) → a ≤ b → (l.take a).sum ≤ (l.take b).sum
  | [], a, b, _, _ => by simp
  | x :: l, 0, 0, _, _ => Int.le_refl _
  | x :: l, 0, b + 1, h, _ => by
    have h1 := take_sum_mono (l := l) (a := 0) (b := b) (fun g hg => h g (by simp [hg])) (by omega)
    have h2 := h x (by simp)
    simp only [List.take_succ_cons, List.sum_cons, List.take_zero, List.sum_nil] at h1 ⊢
    omega
  | x :: l, a + 1, 0, _, h => by omega
  | x :: l, a + 1, b + 1, h, hab => by
    have h1 := take_sum_mono (l := l) (a := a) (b := b) (fun g hg => h g (by simp [hg])) (by omega)
    simp only [List.take_succ_cons, List.sum_cons]
    omega
theorem map_sum_mono {α : Type} {f g : α → Int} : ∀ {l : List α}, (∀ x ∈ l, f x ≤ g x) → (l.map f).sum ≤ (l.map g).sum
  | [], _ => Int.le_refl _
  | x :: l, h => by
    have h1 := map_sum_mono (l := l) fun y hy => h y (by simp [hy])
    have h2 := h x (by simp)
    simp only [List.map_cons, List.sum_cons]
    omega
def gsum (gs : List (List Int)) (r c : Nat) : Int := ((gs.take r).map fun line => (line.take c).sum).sum
theorem gsum_zero (gs : List (List Int)) (r : Nat) : gsum gs r 0 = 0 := by
  unfold gsum
  generalize gs.take r = l
  induction l with
  | nil => rfl
  | cons x l ih =>
    simp at ih ⊢
    exact ih
theorem gsum_pw {gs : List (List Int)} (h : ∀ l ∈ gs, ∀ g ∈ l, 0 ≤ g) {i j c l : Nat} (hij : i ≤ j) (hcl : c ≤ l) : gsum gs i l + gsum gs j c ≤ gsum gs i c + gsum gs j l := by
  have e : gs.take j = gs.take i ++ (gs.drop i).take (j - i) := by
    have : j = i + (j - i) := by omega
    conv => lhs; rw [this]
    exact List.take_add
  have s : ∀ x, gsum gs j x = gsum gs i x + (((gs.drop i).take (j - i)).map fun line => (line.take x).sum).sum := fun x => by
    unfold gsum
    rw [e, List.map_append, List.sum_append]
  have m := map_sum_mono (f := fun line : List Int => (line.take c).sum) (g := fun line => (line.take l).sum) (l := (gs.drop i).take (j - i)) fun line hl => take_sum_mono (h line (List.mem_of_mem_drop (List.mem_of_mem_take hl))) hcl
  rw [s c, s l]
  omega
theorem built_rect {left top : List Int} {gs : List (List Int)} {n m : Nat} (h1 : left.length = n) (h2 : top.length = m) : Rect n (m + 1) (builtT left top gs) := by
  refine ⟨by simp [builtT, h1], fun row hr => ?_⟩
  unfold builtT at hr
  obtain ⟨p, _, rfl⟩ := List.mem_map.mp hr
  simp [h2]
theorem built_en {left top : List Int} {gs : List (List Int)} {r c : Nat} (hr : r < left.length) (hc : c ≤ top.length) : en (builtT left top gs) r c = left.getD r 0 + (0 :: top).getD c 0 - gsum gs r c := by
  have e1 : (builtT left top gs)[r]? = some (left.getD r 0 :: top.zipIdx.map fun q => left.getD r 0 + q.1 - ((gs.take r).map fun line => (line.take (q.2 + 1)).sum).sum) := by
    unfold builtT
    rw [List.getElem?_map, List.getElem?_zipIdx, get_getD (d := 0) hr]
    simp
  unfold en
  rw [getD_of e1]
  cases c with
  | zero =>
    rw [gsum_zero]
    simp
  | succ c =>
    have hc' : c < top.length := by omega
    have e2 : (top.zipIdx.map fun q => left.getD r 0 + q.1 - ((gs.take r).map fun line => (line.take (q.2 + 1)).sum).sum)[c]? = some (left.getD r 0 + top.getD c 0 - gsum gs r (c + 1)) := by
      rw [List.getElem?_map, List.getElem?_zipIdx, get_getD (d := 0) hc']
      simp [gsum]
    rw [List.getD_cons_succ, List.getD_cons_succ, getD_of e2]
theorem built_pw {left top : List Int} {gs : List (List Int)} {n m : Nat} (h1 : left.length = n) (h2 : top.length = m) (h : ∀ l ∈ gs, ∀ g ∈ l, 0 ≤ g) : PW n (m + 1) (builtT left top gs) := by
  intro i j hij hj c l hcl hl
  rw [built_en (by omega) (by omega), built_en (by omega) (by omega), built_en (by omega) (by omega), built_en (by omega) (by omega)]
  have := gsum_pw h (Nat.le_of_lt hij) (Nat.le_of_lt hcl)
  omega
theorem ru_neg {i : Int} : RU K (rU fun i => .int (-i)) (.int i) (.int (-i)) := fun G H v e dv Q q => by
  cases dv
  exact ⟨i, rfl, q _ G H (Xt.refl e) (.int _)⟩
theorem e_listRg2 {δ : Sl} {ta tb : TE} {a b : Nat} (ha : E1 K ta δ (.int (a : Nat))) (hb : E1 K tb δ (.int (b : Nat))) (h1 : a ≤ 100000) (h2 : b ≤ 100000) : E1 K (tLstRg (tRg2 ta tb)) δ (.list (((List.range (b - a)).map fun i => ((a + i : Nat) : Int)).map .int)) := fun σ G H s e Q q =>
  ha σ G H s e _ fun v G1 H1 x1 d1 => hb σ G1 H1 (s.ext x1.gg) x1.gh _ fun u G2 H2 x2 d2 => by
    cases d1; cases d2
    refine ⟨(a : Int), (b : Int), rfl, rfl, .of_le (by omega) (by omega) (by omega) (by omega), fun p hp => ?_⟩
    have ev : rgV (a : Int) (b : Int) = ((List.range (b - a)).map fun i => ((a + i : Nat) : Int)).map V.int := by
      unfold rgV
      have e1 : ((b : Int) - (a : Int)).toNat = b - a := by omega
      rw [e1, List.map_map]
      apply List.map_congr_left
      intro i _
      simp
    have dd : DrAll K G2 (rgV (a : Int) (b : Int)) (((List.range (b - a)).map fun i => ((a + i : Nat) : Int)).map .int) := by
      rw [ev]
      exact dpAll_ofInts
    obtain ⟨x3, d3⟩ := newL x2.gh dd hp
    exact q _ _ _ ((x1.trans x2).trans x3) d3
theorem at_last {α : Type} {l : List α} {x : α} (h : l[l.length - 1]? = some x) : atI l (-1) = some x := by
  unfold atI ixN
  have hl : 0 < l.length := by
    cases l with
    | nil => simp at h
    | cons a r => simp
  have h1 : ¬ (0 : Int) ≤ -1 := by decide
  have h2 : -(l.length : Int) ≤ -1 := by omega
  simp only [if_neg h1, if_pos h2]
  have e : ((-1 : Int) + (l.length : Int)).toNat = l.length - 1 := by omega
  first | (rw [e]; exact h) | (simp [e]; exact h) | simpa [e] using h

theorem sc76 : FnScope ["_law_feed_here", "_law_rows", "_law_columns", "_law_size", "_law_steep", "_law_left", "_law_top", "_law_gains", "_law_at", "_law_turn"] ["_law_feed_here", "_law_rows", "_law_columns"] (defScope (top 76)) := ⟨rfl, rfl, rfl, by decide +kernel, rfl, by decide +kernel, by decide +kernel⟩
abbrev sp_law_sized (K : PySem.W.Frag) : Sp := SpF K (ι := Nat × Nat) (fun i => [.int (i.1 : Nat), .int (i.2 : Nat)]) (fun i => 1 ≤ i.1 ∧ i.1 ≤ 6 ∧ 1 ≤ i.2 ∧ i.2 ≤ 6) (fun _ => 100) (fun i d => ∃ T, Tb i.1 i.2 T ∧ PW i.1 i.2 T ∧ d = tab T)
theorem ok_law_sized (T : Top K mg h) : C8.Cal P w K mg base 3 "_law_sized" (sp_law_sized K) [] := by
  have c__law_one := ok_law_one (P := P) (w := w) (base := base) T
  have c__law_draw := ok_law_draw (P := P) (w := w) (base := base) T
  have c__law_built := ok_law_built (P := P) (w := w) (base := base) T
  have m_range := T.free 71 "range"
  obtain ⟨fd, F⟩ := T.says.def_ 55 (d := dd76) rfl
  have g : mg "_law_sized" = some (.ref (He.ga K "_law_sized")) := He.glo_ok T.kin T.ns (T.says.fact 55 (f := .glo "_law_sized") rfl)
  refine cal_mk (fn_okF F sc76 (fun i => rfl) (fun cdv A outer s H E hr => (pss_cons (ps_asg (pe_tupZ (pa_cons (C8.pe_c c__law_one hr (by decide) (by rfl) (pa_cons (pv 0) (pa_cons (pe_lst (pa_cons pe_int (pa_cons pe_int (pa_cons pe_int (pa_cons (pe_op op_pow pe_int pe_int) (pa_cons (pe_op op_pow pe_int pe_int) pa_nil)))))) pa_nil))) (pa_cons (C8.pe_c c__law_one hr (by decide) (by rfl) (pa_cons (pv 0) (pa_cons (pe_lst (pa_cons pe_int (pa_cons pe_int (pa_cons pe_int (pa_cons pe_int (pa_cons (pe_op op_pow pe_int pe_int) pa_nil)))))) pa_nil))) pa_nil))) (k_tuple K (n := 2) (pgs_cons (pg_name (i := 3) sc76.nd rfl (by first | exact Or.inl rfl | exact Or.inr rfl)) (pgs_cons (pg_name (i := 4) sc76.nd rfl (by first | exact Or.inl rfl | exact Or.inr rfl)) pgs_nil)))) (pss_cons (ps_setLc (i := 5) (own := [("_law_turn", 9)]) rfl sc76.nd rfl rfl (sw_true rfl rfl rfl (by decide +kernel)) (pi_range1 (by rfl) m_range (pa_cons (pv 1) pa_nil)) (blkOk_by (by rfl)) (fun _ _ _ _ _ => (pg_name (i := 9) sc76.nd rfl (by first | exact Or.inl rfl | exact Or.inr rfl))) (fun _ _ _ _ _ => pts_nil) (fun _ _ _ _ _ => (pe_op op_sub (C8.pe_c c__law_draw hr (by decide) (by rfl) (pa_cons (pv 0) (pa_cons (pe_op op_add (pe_op op_mul pe_int (pv 3)) pe_int) pa_nil))) (pv 3)))) (pss_cons (ps_setLc (i := 6) (own := [("_law_turn", 9)]) rfl sc76.nd rfl rfl (sw_true rfl rfl rfl (by decide +kernel)) (pi_range1 (by rfl) m_range (pa_cons (pe_op op_sub (pv 2) pe_int) pa_nil)) (blkOk_by (by rfl)) (fun _ _ _ _ _ => (pg_name (i := 9) sc76.nd rfl (by first | exact Or.inl rfl | exact Or.inr rfl))) (fun _ _ _ _ _ => pts_nil) (fun _ _ _ _ _ => (pe_op op_sub (C8.pe_c c__law_draw hr (by decide) (by rfl) (pa_cons (pv 0) (pa_cons (pe_op op_add (pe_op op_mul pe_int (pv 3)) pe_int) pa_nil))) (pv 3)))) (pss_cons (ps_set (i := 7) sc76.nd rfl (by first | exact Or.inl rfl | exact Or.inr rfl) (pe_lst pa_nil)) (pss_cons (ps_for PassesOwn.never rfl (pi_range1 (by rfl) m_range (pa_cons (pe_op op_sub (pv 1) pe_int) pa_nil)) (pg_name (i := 8) sc76.nd rfl (by first | exact Or.inl rfl | exact Or.inr rfl)) (pss_one (ps_expr (k_bm K PySem.F.plainAttrs_list PySem.F.slot_list_append PySem.F.type_list_append mt_append (pv 7) (pa_cons (pe_lc (own := [("_law_turn", 9)]) rfl sc76.nd (pi_range1 (by rfl) m_range (pa_cons (pe_op op_sub (pv 2) pe_int) pa_nil)) (blkOk_by (by rfl)) (fun _ _ _ _ _ => (pg_name (i := 9) sc76.nd rfl (by first | exact Or.inl rfl | exact Or.inr rfl))) (fun _ _ _ _ _ => pts_nil) (fun _ _ _ _ _ => (pe_ifExp (pt_cmpR op_gt (C8.pe_c c__law_draw hr (by decide) (by rfl) (pa_cons (pv 0) (pa_cons pe_int pa_nil))) pe_int (nomark _)) (C8.pe_c c__law_draw hr (by decide) (by rfl) (pa_cons (pv 0) (pa_cons (pe_op op_add (pv 4) pe_int) pa_nil))) pe_int))) pa_nil))))) (pss_one (ps_ret (C8.pe_c c__law_built hr (by decide) (by rfl) (pa_cons (pv 5) (pa_cons (pv 6) (pa_cons (pv 7) pa_nil)))))))))))) ?_) g F.kp (F.bindsN fun _ _ _ _ _ _ us hl => match us, hl with | [_, _, _], _ => rfl)
  rintro ⟨n, m⟩ f N0 ⟨n1, n6, m1, m6⟩ hN
  dsimp only at n1 n6 m1 m6
  have hN : N0 + 100 ≤ 100000 := hN
  have em1 : ((m : Nat) : Int) - 1 = ((m - 1 : Nat) : Int) := by omega
  have en1 : ((n : Nat) : Int) - 1 = ((n - 1 : Nat) : Int) := by omega
  refine sf_pair (M := N0 + 1 + 1) (P := fun x y => ∃ a b : Int, x = .int a ∧ y = .int b ∧ 0 < a ∧ a ≤ 10 ^ 15 ∧ 0 < b ∧ b ≤ 10 ^ 15) (EF.mono (ef_tupZ (af_cons (P1 := fun d => ∃ a : Int, d = .int a ∧ 0 < a ∧ a ≤ 10 ^ 15) (P2 := fun ds => ∃ b : Int, ds = [.int b] ∧ 0 < b ∧ b ≤ 10 ^ 15) (P3 := fun ds => ∃ a b : Int, ds = [.int a, .int b] ∧ 0 < a ∧ a ≤ 10 ^ 15 ∧ 0 < b ∧ b ≤ 10 ^ 15)
    (ef_callF (k := 0) (c := 1) (P := fun ds => ds = [.list (([3, 3, 10, 10 ^ 6, 10 ^ 15] : List Int).map .int)]) rfl (A1.af (a_cons (e_lst (a_cons (e_int 3) (a_cons (e_int 3) (a_cons (e_int 10) (a_cons (e_op (e_int 10) (e_int 6) (rd_pow (cpow (by decide)))) (a_cons (e_op (e_int 10) (e_int 15) (rd_pow (cpow (by decide)))) a_nil)))))) a_nil) rfl) (fun ds h => ⟨_, h, by decide, Nat.le_refl _, fun d hd => ?_⟩) (by omega))
    (af_cons (P1 := fun d => ∃ a : Int, d = .int a ∧ 0 < a ∧ a ≤ 10 ^ 15) (P2 := fun ds => ds = []) (ef_callF (k := 0) (c := 1) (P := fun ds => ds = [.list (([1, 2, 3, 8, 10 ^ 9] : List Int).map .int)]) rfl (A1.af (a_cons (e_lst (a_cons (e_int 1) (a_cons (e_int 2) (a_cons (e_int 3) (a_cons (e_int 8) (a_cons (e_op (e_int 10) (e_int 9) (rd_pow (cpow (by decide)))) a_nil)))))) a_nil) rfl) (fun ds h => ⟨_, h, by decide, Nat.le_refl _, fun d hd => ?_⟩) (by omega)) (af_nil rfl) ?_) ?_) ?_) ?_ (Nat.le_refl _)) ?_
  · obtain ⟨r, hr, rfl⟩ := hd
    refine ⟨r, rfl, ?_⟩
    simp at hr
    omega
  · obtain ⟨r, hr, rfl⟩ := hd
    refine ⟨r, rfl, ?_⟩
    simp at hr
    omega
  · rintro d ds ⟨a, rfl, h1, h2⟩ rfl
    exact ⟨a, rfl, h1, h2⟩
  · rintro d ds ⟨a, rfl, h1, h2⟩ ⟨b, rfl, h3, h4⟩
    exact ⟨a, b, rfl, h1, h2, h3, h4⟩
  · rintro ds ⟨a, b, rfl, _⟩
    simp
  · rintro d ⟨ds, rfl, a, b, rfl, h⟩
    exact ⟨_, _, rfl, a, b, rfl, rfl, h⟩
  rintro x y ⟨size, steep, rfl, rfl, z1, z2, s1, s2⟩
  have drawn : ∀ {δ : Sl} {E : _} {k : Nat}, δ[0]? = some (some (.r (.ref f))) → δ[3]? = some (some (.d (.int size))) → k + 1 ≤ 100000 → EF K f (tOp (rI0 fun i j => .int (i - j)) (tCall (sp_law_draw K) [] E (tCons (tVar 0) (tCons (tOp (rI0 fun i j => .int (i + j)) (tOp (rI CMul fun i j => .int (i * j)) (tC (.int 2)) (tVar 3)) (tC (.int 1))) tNil))) (tVar 3)) δ k (k + 1) fun d => ∃ b : Int, d = .int b ∧ True := fun h0 h3 hk =>
    ef_op (ef_callF (k := 0) (c := 1) (P := fun ds => ds = [.int (2 * size + 1)]) h0 (A1.af (a_cons (e_op (e_op (e_int 2) (e_var h3) (rd_mul (.inl (by decide)))) (e_int 1) rd_add) a_nil) rfl) (fun ds h => ⟨_, h, ⟨by omega, by omega⟩, Nat.le_refl _, fun d h => h⟩) hk) (E1.ef (P := fun d => d = .int size) (e_var h3) rfl) (by
      rintro x y ⟨r, rfl, _⟩ rfl
      exact ⟨_, rd_sub, _, rfl, trivial⟩)
  refine sf_set (P := fun d => ∃ l : List Int, d = .list (l.map .int) ∧ l.length = n) (EF.mono (ef_lcm 1 (List.range n) iD (fun _ d => ∃ b : Int, d = .int b ∧ True) (w_rangeN (e_var rfl) (by omega)) (fun a => g_name 9) (by simp) (fun a _ k hk => drawn rfl rfl hk) (by simp; omega) (by simp; omega)) ?_ (Nat.le_refl _)) ?_
  · rintro d ⟨ds, rfl, ea⟩
    obtain ⟨l, rfl, hl, _⟩ := each_of ea
    exact ⟨l, rfl, by simpa using hl⟩
  rintro d ⟨left, rfl, hleft⟩
  refine sf_set (P := fun d => ∃ l : List Int, d = .list (l.map .int) ∧ l.length = m - 1) (EF.mono (ef_lcm 1 (List.range (m - 1)) iD (fun _ d => ∃ b : Int, d = .int b ∧ True) (w_rangeN (E1.is (e_op (e_var rfl) (e_int 1) rd_sub) (by rw [em1])) (by omega)) (fun a => g_name 9) (by simp) (fun a _ k hk => drawn rfl rfl hk) (by simp; omega) (by simp; omega)) ?_ (Nat.le_refl _)) ?_
  · rintro d ⟨ds, rfl, ea⟩
    obtain ⟨l, rfl, hl, _⟩ := each_of ea
    exact ⟨l, rfl, by simpa using hl⟩
  rintro d ⟨top_, rfl, htop⟩
  have bN : (n - 1) * ((m - 1) * 2) ≤ 5 * 10 := Nat.mul_le_mul (by omega) (by omega)
  refine sf_gather ((m - 1) * 2) (List.range (n - 1)) iD (fun _ d => ∃ l : List Int, d = .list (l.map .int) ∧ l.length = m - 1 ∧ ∀ g ∈ l, 0 ≤ g) (fun p => w_rangeN (E1.is (e_op (e_var rfl) (e_int 1) rd_sub) (by rw [en1])) (by omega)) (fun p a => g_name 8) (fun p a => rfl) (fun p a => ?_) (fun p a _ k hk => ?_) (by simp; omega) (by simp; omega) ?_
  · exact .cons _ (.cons _ (.cons _ (.cons _ (.cons _ (.cons _ (.cons _ (.cons _ (.drop _ (.refl _)))))))))
  · have ln : (List.range (m - 1)).length * 2 = (m - 1) * 2 := by simp
    refine EF.mono (ef_lcm 2 (List.range (m - 1)) iD (fun _ d => ∃ b : Int, d = .int b ∧ 0 ≤ b) (w_rangeN (E1.is (e_op (e_var rfl) (e_int 1) rd_sub) (by rw [em1])) (by omega)) (fun a => g_name 9) (by simp) (fun a _ k2 hk2 => ?_) (by rw [ln]; exact hk) (by simp; omega)) ?_ (by rw [ln]; exact Nat.le_refl _)
    · refine ef_if (M := k2 + 1) (Pb := fun _ => True) (tf_test (ef_op (P'' := fun d => ∃ b, d = .bool b ∧ True) (ef_callF (k := 0) (c := 1) (P := fun ds => ds = [.int 3]) rfl (A1.af (a_cons (e_int 3) a_nil) rfl) (fun ds h => ⟨_, h, by decide, Nat.le_refl _, fun d h => h⟩) (by omega)) (E1.ef (P := fun d => d = .int 0) (e_int 0) rfl) ?_)) (fun _ => ?_) (fun _ => ?_)
      · rintro x y ⟨r, rfl, _⟩ rfl
        exact ⟨_, rd_gt, _, rfl, trivial⟩
      · refine EF.mono (ef_callF (k := 0) (c := 1) (P := fun ds => ds = [.int (steep + 1)]) rfl (A1.af (a_cons (e_op (e_var rfl) (e_int 1) rd_add) a_nil) rfl) (fun ds h => ⟨_, h, ⟨by omega, by omega⟩, Nat.le_refl _, fun d h => h⟩) (by omega)) ?_ (by omega)
        rintro d ⟨r, rfl, r0, _⟩
        exact ⟨r, rfl, r0⟩
      · exact EF.mono (E1.ef (P := fun d => d = .int 0) (e_int 0) rfl) (by rintro d rfl; exact ⟨0, rfl, Int.le_refl _⟩) (by omega)
    · rintro d ⟨ds, rfl, ea⟩
      obtain ⟨l, rfl, hl, hp⟩ := each_of ea
      exact ⟨l, rfl, by simpa using hl, hp⟩
  rintro ds ea
  obtain ⟨gs, rfl, hg, hp⟩ := each_of (enc := fun l : List Int => .list (l.map .int)) ea
  refine sf_ret (P := fun d => d = tab (builtT left top_ gs)) (ER.ef ((e_call (res := fun i : List Int × List Int × List (List Int) => tab (builtT i.1 i.2.1 i.2.2)) (left, top_, gs) (a_cons (e_var rfl) (a_cons (e_var rfl) (a_cons (e_var rfl) a_nil))) ⟨by dsimp only; omega, by dsimp only; omega, by dsimp only; simp at hg; omega⟩).er rfl)) ?_
  rintro d rfl
  have em : m - 1 + 1 = m := by omega
  have hr := built_rect (gs := gs) hleft htop
  have hw := built_pw hleft htop fun l hl => (hp l hl).2
  rw [em] at hr hw
  exact ⟨by simp; omega, _, ⟨hr, n1, by dsimp only; omega, m1, by dsimp only; omega⟩, hw, rfl⟩

end
end Mix

namespace Mix
open PySem PySem.Spec L2 RZ DL
open PyProof.Rows (envOfC)
section
variable {P : Program} {w : World} {K : PySem.W.Frag} {mg : Str → Option Value} {base h : Heap}

def swapL (a b : Nat) (l : List Nat) : List Nat := l.map fun r => if r = a then b else if r = b then a else r
theorem shaped_pairs (L : List (List Nat × List Nat)) : SeqAt.shaped (Dat.list (L.map pairD)).py = true := by
  refine shaped_py ?_
  show (PyData.list (Dat.pys (L.map pairD))).depth ≤ 64
  simp only [PyData.depth]
  have := depthAll_le (n := 8) (ds := Dat.pys (L.map pairD)) fun d hd => by
    rw [pys_map] at hd
    obtain ⟨i, _, rfl⟩ := List.mem_map.mp hd
    exact depth_pair i
  omega
theorem rd_notInP {p : List Nat × List Nat} {L : List (List Nat × List Nat)} (h : p ∈ L) : RD K (rNotInD K) (pairD p) (.list (L.map pairD)) (.bool false) := fun G H v u e dv du Q q => by
  have hs : SeqAt.shaped (Dat.list (L.map pairD)).py = true := shaped_pairs L
  refine ⟨(pairD p).py, Dat.pys (L.map pairD), dr_dp _ _ (dv.ext e), dr_dp _ _ (du.ext e), shaped_pair p, hs, ?_⟩
  have ha : (Dat.pys (L.map pairD)).any (fun z => PyData.eqv z (pairD p).py) = true := by
    rw [pys_map, List.any_eq_true]
    exact ⟨(pairD p).py, List.mem_map_of_mem h, eqv_self_pair p⟩
  rw [ha]
  exact q _ G H (Xt.refl e) (.bl _)
/-- a, b = x, y, the second told by a relation -/
theorem sd_parR {δ : Sl} {i j : Nat} {ta tb : TE} {x : Dat} {P : Dat → Prop} {ts : TS} {N : Sl → Prop} {R : Dat → Prop} (h1 : E1 K ta δ x) (hb : ER K tb δ P) (h2 : ∀ y, P y → Sd K ts ((δ.set i (some (.d x))).set j (some (.d y))) N R) : Sd K (tSeq (tPar i j (tCons ta (tCons tb tNil))) ts) δ N R := fun σ G H D s e nx rt =>
  h1 σ G H s e _ fun v G1 H1 x1 d1 => hb σ G1 H1 (s.ext x1.gg) x1.gh _ fun u G2 H2 y x2 d2 py => ⟨_, _, rfl, h2 y py _ G2 H2 D (SlOk.set (o := some _) (s := some (.d y)) d2 j (SlOk.set (o := some _) (s := some (.d x)) (d1.ext x2.gg) i (s.ext (x1.trans x2).gg))) x2.gh (fun σ2 G3 H3 δ2 x3 s2 n2 => nx σ2 G3 H3 δ2 ((x1.trans x2).trans x3) s2 n2) fun v G3 H3 d x3 d2 r => rt v G3 H3 d ((x1.trans x2).trans x3) d2 r⟩
/-- positions side by side -/
def Side (rows block : List Nat) : Prop := (∀ b ∈ block, b ∈ rows) ∧ ∃ s, (block.map rows.idxOf).Perm (List.range' s block.length)
theorem idxOf_cast (rows : List Nat) (b : Nat) : (rows.map fun n : Nat => (n : Int)).idxOf (b : Int) = rows.idxOf b := by
  induction rows with
  | nil => rfl
  | cons r rows ih =>
    rw [List.map_cons, List.idxOf_cons, List.idxOf_cons, ih]
    have : ((r : Int) == (b : Int)) = (r == b) := by
      rw [Bool.eq_iff_iff]
      simp
      omega
    rw [this]

theorem sc80 : FnScope ["_law_rows", "_law_block", "_law_spots", "_law_row"] ["_law_rows", "_law_block"] (defScope (top 80)) := ⟨rfl, rfl, rfl, by decide +kernel, rfl, by decide +kernel, by decide +kernel⟩
abbrev sp_law_side_by_side (K : PySem.W.Frag) : Sp := SpI K (ι := List Nat × List Nat) (fun i => [nT i.1, nT i.2]) (fun i => i.2 ≠ [] ∧ i.1.length ≤ 1000 ∧ i.2.length ≤ 1000 ∧ Side i.1 i.2) (fun i d => d = .bool true)
theorem ok_law_side_by_side (T : Top K mg h) : C8.Cal P w K mg base 1 "_law_side_by_side" (sp_law_side_by_side K) [] := by
  have m_sorted := T.free 74 "sorted"
  have m_range := T.free 71 "range"
  have m_list := T.free 72 "list"
  obtain ⟨fd, F⟩ := T.says.def_ 59 (d := dd80) rfl
  have g : mg "_law_side_by_side" = some (.ref (He.ga K "_law_side_by_side")) := He.glo_ok T.kin T.ns (T.says.fact 59 (f := .glo "_law_side_by_side") rfl)
  refine cal_mk (fn_ok F sc80 (fun i => rfl) (fun cdv A outer s H E hr => (pss_cons (ps_set (i := 2) sc80.nd rfl (by first | exact Or.inl rfl | exact Or.inr rfl) (pe_callB (k_sortI K) (by rfl) m_sorted (by decide +kernel) (pa_cons (pe_lc (own := [("_law_row", 3)]) rfl sc80.nd (k_piT K (pv 1)) (blkOk_by (by rfl)) (fun _ _ _ _ _ => (pg_name (i := 3) sc80.nd rfl (by first | exact Or.inl rfl | exact Or.inr rfl))) (fun _ _ _ _ _ => pts_nil) (fun _ _ _ _ _ => (k_bmT PySem.F.slot_tuple_index PySem.F.type_tuple_index (k_idxT K) (pv 0) (pa_cons (pv 3) pa_nil)))) pa_nil))) (pss_one (ps_ret (pe_cmpR (k_eqD K (u64 hr)) (pv 2) (pe_listRg rfl (by rfl) m_list (prg_2 (by rfl) m_range (pe_ix (k_ixL K) (pv 2) pe_int (fun _ _ => rfl)) (pe_op op_add (pe_ix (k_ixL K) (pv 2) (pe_un un_neg pe_int) (fun _ _ => rfl)) pe_int))) (nomark _)))))) ?_) g F.kp (F.bindsN fun _ _ _ _ _ _ us hl => match us, hl with | [_, _], _ => rfl)
  rintro ⟨rows, block⟩ ⟨hne, lr, lb, hm, s, pm⟩
  dsimp only at hne lr lb hm pm
  have hlen := List.length_pos_iff.mpr hne
  have mR : ∀ b ∈ block, (b : Int) ∈ rows.map fun n : Nat => (n : Int) := fun b hb => List.mem_map.mpr ⟨b, hm b hb, rfl⟩
  have pmI : (block.map fun b => ((rows.idxOf b : Nat) : Int)).Perm ((List.range' s block.length).map fun n : Nat => (n : Int)) := by
    have := pm.map fun n : Nat => (n : Int)
    rw [List.map_map] at this
    exact this
  refine sd_setR (P := fun d => d = .list (((List.range' s block.length).map fun n : Nat => (n : Int)).map .int)) (er_cb (a_cons (E1.is (e_lcm block iD (w_tup (e_var rfl)) (fun a => g_name 3) (by simp) (f := fun b => .int ((rows.idxOf b : Nat) : Int)) (fun b hb => E1.is (e_idxT (ns := rows.map fun n : Nat => (n : Int)) (e_var (by unfold nT; rw [map_iD]; rfl)) (a_cons (e_var rfl) a_nil) (mR b hb)) (by rw [idxOf_cast])) (by omega)) (show _ = Dat.list ((block.map fun b => ((rows.idxOf b : Nat) : Int)).map .int) by rw [List.map_map]; rfl)) a_nil) (cd_sortI fun ns' p1 p2 => ?_)) ?_
  · refine congrArg (fun l : List Int => Dat.list (l.map .int)) ?_
    refine (p1.trans pmI).eq_of_pairwise (le := (· ≤ ·)) (fun a b _ _ h1 h2 => by omega) p2 ?_
    rw [List.pairwise_map]
    exact (List.pairwise_lt_range' (s := s) (n := block.length)).imp fun h => by omega
  · rintro d rfl
    have sl : s + block.length ≤ 2000 := by
      have h1 : s + (block.length - 1) ∈ List.range' s block.length := by rw [List.mem_range']; exact ⟨block.length - 1, by omega, by omega⟩
      obtain ⟨b, hb, e⟩ := List.mem_map.mp (pm.mem_iff.mpr h1)
      have := List.idxOf_lt_length_of_mem (hm b hb)
      omega
    have e0 : atI (((List.range' s block.length).map fun n : Nat => (n : Int)).map Dat.int) 0 = some (.int (s : Nat)) := by
      refine at_nat (j := 0) ?_
      rw [List.getElem?_map, List.getElem?_map, List.getElem?_range' hlen]
      rfl
    have e1 : atI (((List.range' s block.length).map fun n : Nat => (n : Int)).map Dat.int) (-1) = some (.int ((s + (block.length - 1) : Nat) : Int)) := by
      refine at_last ?_
      rw [List.length_map, List.length_map, List.length_range', List.getElem?_map, List.getElem?_map, List.getElem?_range' (by omega)]
      simp
    have er : ((List.range (s + (block.length - 1) + 1 - s)).map fun i => ((s + i : Nat) : Int)) = (List.range' s block.length).map fun n : Nat => (n : Int) := by
      have e2 : s + (block.length - 1) + 1 - s = block.length := by omega
      rw [e2, List.range'_eq_map_range, List.map_map]
      rfl
    refine sd_ret (e_op (e_var rfl) (E1.is (e_listRg2 (a := s) (b := s + (block.length - 1) + 1) (e_op (e_var rfl) (e_int 0) (rd_ixL e0)) (e_op (e_op (e_var rfl) (e_un (e_int 1) ru_neg) (rd_ixL e1)) (e_int 1) rd_add) (by omega) (by omega)) (by rw [er])) (rd_eqD (shaped_ints' _) (shaped_ints' _))) ?_
    rw [eqv_self_ints]

theorem sc82 : FnScope ["_law_table", "_law_every", "_law_blocks", "_law_rows", "_law_columns", "_law_block"] ["_law_table"] (defScope (top 82)) := ⟨rfl, rfl, rfl, by decide +kernel, rfl, by decide +kernel, by decide +kernel⟩
abbrev sp_law_blocks_right (K : PySem.W.Frag) : Sp := SpI K (ι := Nat × Nat × List (List Int)) (fun i => [tab i.2.2])
  (fun i => Tb i.1 i.2.1 i.2.2 ∧ i.1 ≤ 5 ∧ i.2.1 ≤ 5 ∧ (∀ p ∈ everyOf i.1 i.2.1 i.2.2, p.1.length ≤ 1000 ∧ ∀ k ∈ i.2.2.map shape, Side p.1 (idxs (i.2.2.map shape) k) ∧ ∀ a b, (idxs (i.2.2.map shape) k)[0]? = some a → (idxs (i.2.2.map shape) k)[(idxs (i.2.2.map shape) k).length - 1]? = some b → (swapL a b p.1, p.2) ∈ everyOf i.1 i.2.1 i.2.2) ∧
    ∀ r ∈ choicesL i.1, ∀ c ∈ choicesL i.2.1, 1 < r.length → 1 < c.length → firstOf r.length c.length (place i.2.2 r c) ≠ none) (fun i d => d = .bool true)
theorem ok_law_blocks_right (T : Top K mg h) : C8.Cal P w K mg base 6 "_law_blocks_right" (sp_law_blocks_right K) [] := by
  have c_all_orders := ok_all_orders (P := P) (w := w) (base := base) T
  have c_like_rows := ok_like_rows (P := P) (w := w) (base := base) T
  have c__law_exchanged := ok_law_exchanged (P := P) (w := w) (base := base) T
  have c__law_side_by_side := ok_law_side_by_side (P := P) (w := w) (base := base) T
  have c_no_order := ok_no_order (P := P) (w := w) (base := base) T
  obtain ⟨fd, F⟩ := T.says.def_ 61 (d := dd82) rfl
  have g : mg "_law_blocks_right" = some (.ref (He.ga K "_law_blocks_right")) := He.glo_ok T.kin T.ns (T.says.fact 61 (f := .glo "_law_blocks_right") rfl)
  refine cal_mk (fn_ok F sc82 (fun i => rfl) (fun cdv A outer s H E hr => (pss_cons (ps_par (i := 1) (j := 2) rfl sc82.nd rfl rfl (by decide) rfl rfl (pa_cons (C8.pe_c c_all_orders hr (by decide) (by rfl) (pa_cons (pv 0) pa_nil)) (pa_cons (C8.pe_c c_like_rows hr (by decide) (by rfl) (pa_cons (pv 0) pa_nil)) pa_nil)) (by rfl)) (pss_cons (ps_for PassesOwn.never rfl (k_piL K (pe_slice (k_slL K) (pv 1) po_none (po_some pe_int))) (k_tuple K (n := 2) (pgs_cons (pg_name (i := 3) sc82.nd rfl (by first | exact Or.inl rfl | exact Or.inr rfl)) (pgs_cons (pg_name (i := 4) sc82.nd rfl (by first | exact Or.inl rfl | exact Or.inr rfl)) pgs_nil))) (pss_one (ps_for PassesOwn.never rfl (k_piL K (pv 2)) (pg_name (i := 5) sc82.nd rfl (by first | exact Or.inl rfl | exact Or.inr rfl)) (pss_one (ps_if (PW.pt (pw_or (pt_not (pt_val (C8.pe_c c__law_side_by_side hr (by decide) (by rfl) (pa_cons (pv 3) (pa_cons (pv 5) pa_nil))))) (pw_or1 (pt_cmpR (k_notInD K (u65 hr)) (pe_tupZ (pa_cons (C8.pe_c c__law_exchanged hr (by decide) (by rfl) (pa_cons (pv 3) (pa_cons (pe_ix (k_ixT K) (pv 5) pe_int (fun _ _ => rfl)) (pa_cons (pe_ix (k_ixT K) (pv 5) (pe_un un_neg pe_int) (fun _ _ => rfl)) pa_nil)))) (pa_cons (pv 4) pa_nil))) (pv 1) rfl)))) (pss_one (ps_ret pe_bl)) pss_nil))))) (pss_one (ps_ret (pe_cmpR op_isN (C8.pe_c c_no_order hr (by decide) (by rfl) (pa_cons (pv 0) pa_nil)) pe_non (nomark _))))))) ?_) g F.kp (F.bindsN fun _ _ _ _ _ _ us hl => match us, hl with | [_], _ => rfl)
  rintro ⟨n, m, T⟩ ⟨W, hn, hm, hE, hg⟩
  dsimp only at W hn hm hE hg
  refine sd_parR (P := fun d => ∃ L : List (List Nat), d = .list (L.map nT) ∧ L.length ≤ 8 ∧ ∀ b ∈ L, ∃ k ∈ T.map shape, b = idxs (T.map shape) k) (e_call (res := fun i : Nat × Nat × List (List Int) => .list ((everyOf i.1 i.2.1 i.2.2).map pairD)) (n, m, T) (a_cons (e_var rfl) a_nil) ⟨W, hn, hm⟩) (er_call (n, m, T) (a_cons (e_var rfl) a_nil) W) ?_
  rintro d ⟨L, rfl, hL, hb⟩
  dsimp only
  generalize hEv : everyOf n m T = Ev at hE ⊢
  refine sd_for (Ev.take 40) pairD (fun _ => True) (w_list (E1.is (e_sl (e_var rfl) o_no (o_some (e_int 40)) sl_l) (congrArg Dat.list (show cutD (Ev.map pairD) none (some 40) = (Ev.take 40).map pairD by have := cutD_to (ds := Ev.map pairD) 40; rw [← List.map_take] at this; exact this)))) (fun a => g_tup2) trivial (fun i p hp _ => ?_) (fun _ => sd_ret (E1.is (e_op (e_call (res := fun _ : Nat × Nat × List (List Int) => .none) (n, m, T) (a_cons (e_var rfl) a_nil) ⟨W, hn, hm, hg⟩) e_non rd_isN) rfl) rfl)
  have hp := List.mem_of_mem_take (List.mem_of_getElem? hp)
  obtain ⟨lp, hk⟩ := hE p hp
  obtain ⟨rows, cols⟩ := p
  dsimp only at lp hk
  refine Sd.one (sd_for L nT (fun _ => True) (w_list (e_var rfl)) (fun a => g_name 5) trivial (fun j b hb' _ => ?_) (fun _ => sd_next ⟨trivial, .cons _ (.cons _ (.cons _ (.drop _ (.drop _ (.refl _)))))⟩))
  obtain ⟨k, hk1, rfl⟩ := hb b (List.mem_of_getElem? hb')
  obtain ⟨side, hsw⟩ := hk k hk1
  have hne : idxs (T.map shape) k ≠ [] := by
    obtain ⟨i, hi⟩ := List.mem_iff_getElem?.mp hk1
    exact List.ne_nil_of_mem (idxs_mem.mpr hi)
  have lb : (idxs (T.map shape) k).length ≤ 1000 := by
    have := idxs_le (T.map shape) k
    rw [List.length_map, W.rows] at this
    omega
  generalize idxs (T.map shape) k = b at hne lb side hsw ⊢
  have hpos := List.length_pos_iff.mpr hne
  have ea : b[0]? = some b[0] := List.getElem?_eq_getElem hpos
  have eb : b[b.length - 1]? = some b[b.length - 1] := List.getElem?_eq_getElem (by omega)
  have hin := hsw _ _ ea eb
  refine sd_need (T1.is (t_or (a := false) (b := false) (T1.is (t_not (t_B (e_call (res := fun _ : List Nat × List Nat => .bool true) (rows, b) (a_cons (e_var rfl) (a_cons (e_var rfl) a_nil)) ⟨hne, lp, lb, side⟩))) rfl) fun _ => t_test (e_op (e_tupZ (ds := [nT (swapL b[0] b[b.length - 1] rows), nT cols]) (a_cons (e_call (res := fun i : List Nat × Nat × Nat => nT (i.1.map fun r => if r = i.2.1 then i.2.2 else if r = i.2.2 then i.2.1 else r)) (rows, b[0], b[b.length - 1]) (a_cons (e_var rfl) (a_cons (e_op (e_var rfl) (e_int 0) (rd_ixT (at_nat (j := 0) (by rw [List.getElem?_map, ea]; rfl)))) (a_cons (e_op (e_var rfl) (e_un (e_int 1) ru_neg) (rd_ixT (at_last (by rw [List.length_map, List.getElem?_map, eb]; rfl)))) a_nil))) lp) (a_cons (e_var rfl) a_nil))) (e_var rfl) (rd_notInP hin))) rfl) ⟨trivial, .cons _ (.cons _ (.cons _ (.cons _ (.cons _ (.drop _ (.refl _))))))⟩

end
end Mix

/-! what the law asks of orders -/
namespace Mix
open PySem PySem.Spec L2 RZ DL
structure Good (n m : Nat) (T : List (List Int)) (r c : List Nat) : Prop where
  rp : r.Perm (List.range n)
  cp : c.Perm (List.range m)
  pw : PW n m (place T r c)
structure Mixed (n m : Nat) (T0 : List (List Int)) (r0 c0 : List Nat) : Prop where
  n1 : 1 ≤ n
  n6 : n ≤ 6
  m1 : 1 ≤ m
  m6 : m ≤ 6
  tb : Tb n m T0
  pw : PW n m T0
  rp : r0.Perm (List.range n)
  cp : c0.Perm (List.range m)
def inv (n : Nat) (r : List Nat) : List Nat := (List.range n).map r.idxOf
def Part (n : Nat) (s : List Nat) : Prop := s ≠ [] ∧ s.Pairwise (· < ·) ∧ (∀ x ∈ s, x < n) ∧ s.length ≤ n
def leastL (T : List (List Int)) : List Nat := T.map fun row => row.idxOf (minL row)
end Mix

/-! rows, columns, steps: what straight means -/
namespace Mix
open PySem PySem.Spec L2 RZ DL
/-! steps compared -/
theorem nf_cons (x y : Int) (a b : List Int) : nf (x :: a) (y :: b) = (decide (x ≤ y) && nf a b) := rfl
theorem nf_refl : ∀ a : List Int, nf a a = true
  | [] => rfl
  | x :: a => by rw [nf_cons, nf_refl a]; simp
theorem nf_trans : ∀ {a b c : List Int}, a.length = b.length → b.length = c.length → nf a b = true → nf b c = true → nf a c = true
  | [], [], [], _, _, _, _ => rfl
  | x :: a, y :: b, z :: c, h1, h2, h3, h4 => by
    rw [nf_cons, Bool.and_eq_true, decide_eq_true_eq] at *
    exact ⟨by omega, nf_trans (by simpa using h1) (by simpa using h2) h3.2 h4.2⟩
theorem nf_anti : ∀ {a b : List Int}, a.length = b.length → nf a b = true → nf b a = true → a = b
  | [], [], _, _, _ => rfl
  | x :: a, y :: b, h1, h3, h4 => by
    rw [nf_cons, Bool.and_eq_true, decide_eq_true_eq] at *
    rw [nf_anti (by simpa using h1) h3.2 h4.2]
    congr 1
    omega
theorem nf_not_lt : ∀ {a b : List Int}, a.length = b.length → nf a b = true → ¬ b < a
  | [], [], _, _ => List.lt_irrefl _
  | x :: a, y :: b, h1, h3 => by
    rw [nf_cons, Bool.and_eq_true, decide_eq_true_eq] at h3
    rw [List.cons_lt_cons_iff]
    rintro (h | ⟨_, h⟩)
    · omega
    · exact nf_not_lt (by simpa using h1) h3.2 h
theorem nf_get : ∀ {a b : List Int}, a.length = b.length → (nf a b = true ↔ ∀ k, k < a.length → a.getD k 0 ≤ b.getD k 0)
  | [], [], _ => by simp [nf]
  | x :: a, y :: b, h1 => by
    rw [nf_cons, Bool.and_eq_true, decide_eq_true_eq, nf_get (a := a) (b := b) (by simpa using h1)]
    constructor
    · rintro ⟨h2, h3⟩ k hk
      cases k with
      | zero => exact h2
      | succ k => exact h3 k (by simpa using hk)
    · intro h
      exact ⟨h 0 (by simp), fun k hk => h (k + 1) (by simpa using hk)⟩
theorem dif_get {l : List Int} {k : Nat} (h : k + 1 < l.length) : (dif l).getD k 0 = l.getD k 0 - l.getD (k + 1) 0 := by
  have e : (dif l)[k]? = some (l.getD k 0 - l.getD (k + 1) 0) := by
    unfold dif
    rw [List.getElem?_map]
    have hz : (l.zip (l.drop 1))[k]? = some (l.getD k 0, l.getD (k + 1) 0) := by
      rw [List.getElem?_zip_eq_some, List.getElem?_drop]
      refine ⟨get_getD (by omega), ?_⟩
      have : 1 + k = k + 1 := by omega
      rw [this]
      exact get_getD h
    rw [hz]
    rfl
  exact getD_of e
theorem step_get {T : List (List Int)} {rows : List Nat} {c k : Nat} (h : k + 1 < rows.length) : (step T rows c).getD k 0 = en T (rows.getD k 0) c - en T (rows.getD (k + 1) 0) c := by
  unfold step
  rw [dif_get (by simpa using h)]
  have g : ∀ j, j < rows.length → (rows.map fun r => en T r c).getD j 0 = en T (rows.getD j 0) c := fun j hj => getD_of (by rw [List.getElem?_map, get_getD (d := 0) hj]; rfl)
  rw [g k (by omega), g (k + 1) h]
abbrev sle (T : List (List Int)) (rows : List Nat) (a b : Nat) : Prop := nf (step T rows a) (step T rows b) = true
theorem sle_iff {T : List (List Int)} {rows : List Nat} {a b : Nat} : sle T rows a b ↔ ∀ k, k + 1 < rows.length → en T (rows.getD k 0) a - en T (rows.getD (k + 1) 0) a ≤ en T (rows.getD k 0) b - en T (rows.getD (k + 1) 0) b := by
  unfold sle
  rw [nf_get (by rw [step_len, step_len])]
  constructor
  · intro h k hk
    have := h k (by rw [step_len]; omega)
    rw [step_get hk, step_get hk] at this
    exact this
  · intro h k hk
    rw [step_len] at hk
    rw [step_get (by omega), step_get (by omega)]
    exact h k (by omega)
theorem sle_all {T : List (List Int)} {rows : List Nat} {a b : Nat} (h : sle T rows a b) : ∀ d i, i + d < rows.length → en T (rows.getD i 0) a - en T (rows.getD (i + d) 0) a ≤ en T (rows.getD i 0) b - en T (rows.getD (i + d) 0) b
  | 0, i, _ => by simp
  | d + 1, i, hd => by
    have h1 := sle_all h d i (by omega)
    have h2 := sle_iff.mp h (i + d) (by omega)
    have e : i + (d + 1) = i + d + 1 := by omega
    rw [e]
    omega
/-! places -/
theorem en_place {T : List (List Int)} {rows cols : List Nat} {i j : Nat} (hi : i < rows.length) (hj : j < cols.length) : en (place T rows cols) i j = en T (rows.getD i 0) (cols.getD j 0) := by
  have e1 : (place T rows cols)[i]? = some (cols.map fun c => en T (rows.getD i 0) c) := by
    unfold place
    rw [List.getElem?_map, get_getD (d := 0) hi]
    rfl
  conv => lhs; unfold en
  rw [getD_of e1]
  have e2 : (cols.map fun c => en T (rows.getD i 0) c)[j]? = some (en T (rows.getD i 0) (cols.getD j 0)) := by
    rw [List.getElem?_map, get_getD (d := 0) hj]
    rfl
  exact getD_of e2
theorem getD_at {l : List Nat} {i : Nat} (h : i < l.length) : l.getD i 0 = l[i] := by simp [List.getD, h]
theorem pw_iff {T : List (List Int)} {rows cols : List Nat} {n m : Nat} (hr : rows.length = n) (hc : cols.length = m) : PW n m (place T rows cols) ↔ cols.Pairwise (sle T rows) := by
  subst hr hc
  rw [List.pairwise_iff_getElem]
  constructor
  · intro h c l hc hl hcl
    rw [sle_iff]
    intro k hk
    have := h k (k + 1) (by omega) hk c l hcl hl
    rw [en_place (by omega) hc, en_place hk hl, en_place (by omega) hl, en_place hk hc, getD_at hc, getD_at hl] at this
    omega
  · intro h i j hij hj c l hcl hl
    have hc : c < cols.length := by omega
    have hi : i < rows.length := by omega
    rw [en_place hi hc, en_place hj hl, en_place hi hl, en_place hj hc]
    have h1 := sle_all (h c l hc hl hcl) (j - i) i (by omega)
    have e : i + (j - i) = j := by omega
    rw [e] at h1
    rw [getD_at hc, getD_at hl]
    omega
theorem pw_congr {T U : List (List Int)} {n m : Nat} (h : ∀ i, i < n → ∀ j, j < m → en T i j = en U i j) (p : PW n m T) : PW n m U := by
  intro i j hij hj c l hcl hl
  have := p i j hij hj c l hcl hl
  rw [h i (by omega) c (by omega), h j hj l hl, h i (by omega) l hl, h j hj c (by omega)] at this
  exact this
/-! chains -/
theorem chain_pw {α : Type} {R : α → α → Prop} (tr : ∀ a b c, R a b → R b c → R a c) : ∀ {l : List α}, (∀ p ∈ l.zip (l.drop 1), R p.1 p.2) → l.Pairwise R
  | [], _ => List.Pairwise.nil
  | [a], _ => by simp
  | a :: b :: l, h => by
    have h1 : R a b := h (a, b) (by simp)
    have h2 : (b :: l).Pairwise R := chain_pw tr fun p hp => h p (by
      have : (a :: b :: l).zip ((a :: b :: l).drop 1) = (a, b) :: (b :: l).zip ((b :: l).drop 1) := rfl
      rw [this]
      exact List.mem_cons_of_mem _ hp)
    refine List.Pairwise.cons (fun x hx => ?_) h2
    rcases List.mem_cons.mp hx with rfl | hx
    · exact h1
    · exact tr _ _ _ h1 (List.rel_of_pairwise_cons h2 hx)
theorem pw_chain {α : Type} {R : α → α → Prop} : ∀ {l : List α}, l.Pairwise R → ∀ p ∈ l.zip (l.drop 1), R p.1 p.2
  | [], _, p, hp => by simp at hp
  | [a], _, p, hp => by simp at hp
  | a :: b :: l, h, p, hp => by
    have e : (a :: b :: l).zip ((a :: b :: l).drop 1) = (a, b) :: (b :: l).zip ((b :: l).drop 1) := rfl
    rw [e] at hp
    rcases List.mem_cons.mp hp with rfl | hp
    · exact List.rel_of_pairwise_cons h (by simp)
    · exact pw_chain (List.Pairwise.of_cons h) p hp
theorem chainB_iff {l : List (List Int)} {k : Nat} (hl : ∀ a ∈ l, a.length = k) : chainB l = true ↔ l.Pairwise fun a b => nf a b = true := by
  unfold chainB
  rw [List.all_eq_true]
  constructor
  · intro h
    have : l.Pairwise fun a b => (a.length = k ∧ b.length = k) ∧ nf a b = true := chain_pw (R := fun a b => (a.length = k ∧ b.length = k) ∧ nf a b = true) (by rintro a b c ⟨⟨h1, h2⟩, h3⟩ ⟨⟨h4, h5⟩, h6⟩; exact ⟨⟨h1, h5⟩, nf_trans (h1.trans h2.symm) (h4.trans h5.symm) h3 h6⟩) fun p hp => ⟨⟨hl _ (List.of_mem_zip hp).1, hl _ (List.mem_of_mem_drop (List.of_mem_zip hp).2)⟩, h p hp⟩
    exact this.imp fun h => h.2
  · exact fun h p hp => pw_chain h p hp
theorem range_getD {n i : Nat} (h : i < n) : (List.range n).getD i 0 = i := getD_of (by rw [List.getElem?_range h])
/-- plain and straight are one -/
theorem plain_iff {T : List (List Int)} {n m : Nat} : plainB n m T = true ↔ PW n m T := by
  unfold plainB
  rw [chainB_iff (k := n - 1) (fun a ha => by
    obtain ⟨c, _, rfl⟩ := List.mem_map.mp ha
    rw [step_len, List.length_range]), List.pairwise_map]
  have h := pw_iff (T := T) (rows := List.range n) (cols := List.range m) (n := n) (m := m) (by simp) (by simp)
  have e : ∀ i, i < n → ∀ j, j < m → en (place T (List.range n) (List.range m)) i j = en T i j := fun i hi j hj => by
    rw [en_place (by simpa using hi) (by simpa using hj), range_getD hi, range_getD hj]
  constructor
  · intro q
    exact pw_congr e (h.mpr q)
  · intro q
    exact h.mp (pw_congr (fun i hi j hj => (e i hi j hj).symm) q)
/-! keys in order -/
theorem told_ex : ∀ S : List (List Int), ∃ t, Told S t
  | [] => ⟨[], List.Pairwise.nil, fun k => Iff.rfl⟩
  | a :: S => by
    obtain ⟨t, h1, h2⟩ := told_ex S
    by_cases ha : a ∈ t
    · refine ⟨t, h1, fun k => ?_⟩
      rw [h2 k, List.mem_cons]
      exact ⟨.inr, fun h => h.elim (fun e => e ▸ (h2 a).mp ha) id⟩
    · refine ⟨t.filter (fun x => decide (x < a)) ++ a :: t.filter (fun x => decide (a < x)), ?_, fun k => ?_⟩
      · rw [List.pairwise_append]
        refine ⟨h1.filter _, List.Pairwise.cons (fun x hx => by simpa using (List.mem_filter.mp hx).2) (h1.filter _), fun x hx y hy => ?_⟩
        have hx' : x < a := by simpa using (List.mem_filter.mp hx).2
        rcases List.mem_cons.mp hy with rfl | hy
        · exact hx'
        · have hy' : a < y := by simpa using (List.mem_filter.mp hy).2
          exact List.lt_trans hx' hy'
      · rw [List.mem_append, List.mem_cons, List.mem_cons, List.mem_filter, List.mem_filter, ← h2 k]
        constructor
        · rintro (⟨h, _⟩ | rfl | ⟨h, _⟩)
          · exact .inr h
          · exact .inl rfl
          · exact .inr h
        · rintro (rfl | h)
          · exact .inr (.inl rfl)
          · have ne : k ≠ a := fun e => ha (e ▸ h)
            rcases List.le_total k a with q | q
            · exact .inl ⟨h, by simpa using Std.lt_of_le_of_ne q ne⟩
            · exact .inr (.inr ⟨h, by simpa using Std.lt_of_le_of_ne q (Ne.symm ne)⟩)
theorem toldOf_told (S : List (List Int)) : Told S (toldOf S) := by
  obtain ⟨t, h⟩ := told_ex S
  rw [toldOf_eq h]
  exact h
end Mix

/-! blocks of columns: which orders of the columns fit, the least of them, all of them -/
namespace Mix
open PySem PySem.Spec L2 RZ DL
section
variable {T : List (List Int)} {m : Nat} {rows : List Nat}
theorem told_len {k : List Int} (hk : k ∈ toldOf (steps m T rows)) : k.length = rows.length - 1 := by
  obtain ⟨c, _, rfl⟩ := List.mem_map.mp ((toldOf_told _).2 k |>.mp hk)
  exact step_len T rows c
theorem steps_at {i : Nat} {k : List Int} : (steps m T rows)[i]? = some k ↔ i < m ∧ step T rows i = k := by
  unfold steps
  rw [List.getElem?_map]
  by_cases h : i < m
  · rw [List.getElem?_range h]
    simp [h]
  · rw [List.getElem?_eq_none (by simpa using h)]
    simp [h]
theorem step_of_idxs {i : Nat} {k : List Int} (h : i ∈ idxs (steps m T rows) k) : step T rows i = k := (steps_at.mp (idxs_mem.mp h)).2
theorem told_step {c : Nat} (h : c < m) : step T rows c ∈ toldOf (steps m T rows) := ((toldOf_told _).2 _).mpr (List.mem_map_of_mem (by simpa using h))
theorem flat_ok (hb : chainB (toldOf (steps m T rows)) = true) : (((toldOf (steps m T rows)).map (idxs (steps m T rows))).flatten).Pairwise (sle T rows) := by
  rw [chainB_iff (fun a ha => told_len ha)] at hb
  rw [List.pairwise_flatten]
  refine ⟨fun l hl => ?_, ?_⟩
  · obtain ⟨k, _, rfl⟩ := List.mem_map.mp hl
    refine List.Pairwise.imp_of_mem (fun {a b} ha hb' _ => ?_) (idxs_nd (steps m T rows) k)
    unfold sle
    rw [step_of_idxs ha, step_of_idxs hb']
    exact nf_refl k
  · rw [List.pairwise_map]
    refine hb.imp fun {k1 k2} h a ha b hb' => ?_
    unfold sle
    rw [step_of_idxs ha, step_of_idxs hb']
    exact h
theorem flat_asc : (((toldOf (steps m T rows)).map (idxs (steps m T rows))).flatten).Pairwise (fun a b => step T rows a = step T rows b → a < b) := by
  rw [List.pairwise_flatten]
  refine ⟨fun l hl => ?_, ?_⟩
  · obtain ⟨k, _, rfl⟩ := List.mem_map.mp hl
    exact List.Pairwise.imp (S := fun a b => step T rows a = step T rows b → a < b) (fun h _ => h) (idxs_nd (steps m T rows) k)
  · rw [List.pairwise_map]
    refine (toldOf_told (steps m T rows)).1.imp fun {k1 k2} h a ha b hb' e => ?_
    rw [step_of_idxs ha, step_of_idxs hb'] at e
    subst e
    exact absurd h (List.lt_irrefl _)
theorem chain_of {c : List Nat} (hc : c.Perm (List.range m)) (h : c.Pairwise (sle T rows)) : chainB (toldOf (steps m T rows)) = true := by
  rw [chainB_iff (fun a ha => told_len ha)]
  refine List.Pairwise.imp_of_mem (fun {k1 k2} h1 h2 hlt => ?_) (toldOf_told (steps m T rows)).1
  obtain ⟨a, ha, rfl⟩ := List.mem_map.mp ((toldOf_told _).2 k1 |>.mp h1)
  obtain ⟨b, hb, rfl⟩ := List.mem_map.mp ((toldOf_told _).2 k2 |>.mp h2)
  obtain ⟨i, hi, ei⟩ := List.mem_iff_getElem.mp (hc.mem_iff.mpr ha)
  obtain ⟨j, hj, ej⟩ := List.mem_iff_getElem.mp (hc.mem_iff.mpr hb)
  rw [List.pairwise_iff_getElem] at h
  rcases Nat.lt_trichotomy i j with q | q | q
  · have := h i j hi hj q
    rw [ei, ej] at this
    exact this
  · subst q
    rw [ei] at ej
    subst ej
    exact absurd hlt (List.lt_irrefl _)
  · have := h j i hj hi q
    rw [ei, ej] at this
    exact absurd hlt (nf_not_lt (by rw [step_len, step_len]) this)
theorem steps_sorted {c d : List Nat} (p : c.Perm d) (h1 : c.Pairwise (sle T rows)) (h2 : d.Pairwise (sle T rows)) : c.map (step T rows) = d.map (step T rows) := by
  refine (p.map (step T rows)).eq_of_pairwise (le := fun a b => nf a b = true) (fun a b ha hb q1 q2 => ?_) (List.pairwise_map.mpr h1) (List.pairwise_map.mpr h2)
  obtain ⟨i, _, rfl⟩ := List.mem_map.mp ha
  obtain ⟨j, _, rfl⟩ := List.mem_map.mp hb
  exact nf_anti (by rw [step_len, step_len]) q1 q2
theorem sle_of_steps {c d : List Nat} (e : c.map (step T rows) = d.map (step T rows)) (h : d.Pairwise (sle T rows)) : c.Pairwise (sle T rows) := by
  have h2 : (d.map (step T rows)).Pairwise (fun a b => nf a b = true) := List.pairwise_map.mpr h
  rw [← e, List.pairwise_map] at h2
  exact h2
theorem lexmin {α : Type} {st : Nat → α} : ∀ {f c : List Nat}, f.Perm c → f.map st = c.map st → f.Pairwise (fun a b => st a = st b → a < b) → ¬ c < f
  | [], [], _, _, _ => List.lt_irrefl _
  | [], y :: c, p, _, _ => by have := p.length_eq; simp at this
  | x :: f, [], p, _, _ => by have := p.length_eq; simp at this
  | x :: f, y :: c, p, e, h => by
    simp only [List.map_cons, List.cons.injEq] at e
    rw [List.cons_lt_cons_iff]
    rintro (q | ⟨q, q2⟩)
    · have hy : y ∈ x :: f := p.mem_iff.mpr (by simp)
      rcases List.mem_cons.mp hy with r | r
      · omega
      · have := List.rel_of_pairwise_cons h r e.1
        omega
    · subst q
      exact lexmin (List.Perm.cons_inv p) e.2 (List.Pairwise.of_cons h) q2
theorem lt_cast : ∀ {a b : List Nat}, (a.map fun n : Nat => (n : Int)) < (b.map fun n : Nat => (n : Int)) ↔ a < b
  | [], [] => by simp
  | [], y :: b => by simp
  | x :: a, [] => by simp
  | x :: a, y :: b => by
    rw [List.map_cons, List.map_cons, List.cons_lt_cons_iff, List.cons_lt_cons_iff, lt_cast]
    constructor
    · rintro (h | ⟨h, q⟩)
      · left; omega
      · right; exact ⟨by omega, q⟩
    · rintro (h | ⟨h, q⟩)
      · left; omega
      · right; exact ⟨by omega, q⟩
/-! all columns -/
def Segs : List (List Nat) → List Nat → Prop
  | [], c => c = []
  | b :: bs, c => ∃ z c', c = z ++ c' ∧ z.Perm b ∧ Segs bs c'
theorem mem_seqs {n : Nat} : ∀ {k : Nat} {s : List Nat}, s.length = k → s.Nodup → (∀ x ∈ s, x < n) → s ∈ seqs n k
  | 0, s, h, _, _ => by
    have := List.eq_nil_of_length_eq_zero h
    subst this
    simp [seqs]
  | k + 1, s, h, nd, lt => by
    have hne : s ≠ [] := by intro e; subst e; simp at h
    have e := List.dropLast_concat_getLast hne
    rw [← e] at nd lt
    rw [List.nodup_append] at nd
    have h1 := mem_seqs (n := n) (k := k) (s := s.dropLast) (by rw [List.length_dropLast]; omega) nd.1 fun x hx => lt x (by simp [hx])
    rw [← e]
    simp only [seqs, List.mem_flatMap, List.mem_map, List.mem_filter, List.mem_range]
    exact ⟨s.dropLast, h1, s.getLast hne, ⟨lt _ (by simp), by
      simp only [Bool.not_eq_true', decide_eq_false_iff_not]
      intro hm
      exact nd.2.2 _ hm _ (by simp) rfl⟩, rfl⟩
theorem nodup_le {n : Nat} : ∀ {s : List Nat}, s.Nodup → (∀ x ∈ s, x < n) → s.length ≤ n := by
  induction n with
  | zero =>
    intro s _ lt
    cases s with
    | nil => exact Nat.le_refl _
    | cons x s => exact absurd (lt x (by simp)) (by omega)
  | succ n ih =>
    intro s nd lt
    by_cases h : n ∈ s
    · have h1 := ih (s := s.erase n) (nd.erase n) fun x hx => by
        have h2 := lt x (List.mem_of_mem_erase hx)
        have h3 : x ≠ n := fun e => by
          subst e
          exact (List.Nodup.not_mem_erase nd) hx
        omega
      rw [List.length_erase_of_mem h] at h1
      omega
    · have h1 := ih (s := s) nd fun x hx => by
        have h2 := lt x hx
        have h3 : x ≠ n := fun e => h (e ▸ hx)
        omega
      omega
theorem perm_range {n : Nat} : ∀ {s : List Nat}, s.Nodup → (∀ x ∈ s, x < n) → s.length = n → s.Perm (List.range n) := by
  intro s nd lt hl
  refine (List.perm_ext_iff_of_nodup nd List.nodup_range).mpr fun x => ?_
  rw [List.mem_range]
  refine ⟨lt x, fun hx => ?_⟩
  by_cases h : x ∈ s
  · exact h
  · exfalso
    have := nodup_le (n := n) (s := x :: s) (List.nodup_cons.mpr ⟨h, nd⟩) fun y hy => by
      rcases List.mem_cons.mp hy with rfl | hy
      · exact hx
      · exact lt y hy
    rw [List.length_cons] at this
    omega
theorem seqs_iff {n : Nat} {s : List Nat} : s ∈ seqs n n ↔ s.Perm (List.range n) := by
  constructor
  · intro h
    exact perm_range (nodup_of_seqs h) (lt_of_seqs h) (len_of_seqs h)
  · intro h
    exact mem_seqs (by simpa using h.length_eq) (h.nodup_iff.mpr List.nodup_range) fun x hx => by simpa using h.mem_iff.mp hx
theorem map_getD_range : ∀ b : List Nat, (List.range b.length).map (fun i => b.getD i 0) = b := fun b => by
  apply List.ext_getElem
  · simp
  · intro i h1 h2
    simp [List.getD, h2]
theorem mixB_iff {b z : List Nat} (nd : b.Nodup) : z ∈ mixB b ↔ z.Perm b := by
  unfold mixB
  rw [List.mem_map]
  constructor
  · rintro ⟨s, hs, rfl⟩
    have := (seqs_iff.mp hs).map (fun i => b.getD i 0)
    rw [map_getD_range] at this
    exact this
  · intro h
    refine ⟨z.map b.idxOf, ?_, ?_⟩
    · rw [seqs_iff]
      have h1 := h.map b.idxOf
      refine h1.trans ?_
      have e : b.map b.idxOf = List.range b.length := by
        apply List.ext_getElem
        · simp
        · intro i h1 h2
          simp
          exact List.Nodup.idxOf_getElem nd i (by simpa using h1)
      rw [e]
    · rw [List.map_map]
      conv => rhs; rw [← List.map_id z]
      apply List.map_congr_left
      intro x hx
      have hx' : x ∈ b := h.mem_iff.mp hx
      have hl := List.idxOf_lt_length_of_mem hx'
      simp [List.getD, hl, List.getElem_idxOf hl]
theorem everyC_from {bs : List (List Nat)} (nd : ∀ b ∈ bs, b.Nodup) : ∀ (F : List (List Nat)) (c : List Nat), c ∈ bs.foldl (fun f b => f.flatMap fun a => (mixB b).map fun z => a ++ z) F ↔ ∃ a ∈ F, ∃ x, c = a ++ x ∧ Segs bs x := by
  induction bs with
  | nil =>
    intro F c
    constructor
    · intro h
      exact ⟨c, h, [], by simp, rfl⟩
    · rintro ⟨a, ha, x, rfl, rfl⟩
      simpa using ha
  | cons b bs ih =>
    intro F c
    rw [List.foldl_cons, ih (fun x hx => nd x (by simp [hx]))]
    constructor
    · rintro ⟨a, ha, x, rfl, hx⟩
      obtain ⟨a0, ha0, h2⟩ := List.mem_flatMap.mp ha
      obtain ⟨z, hz, rfl⟩ := List.mem_map.mp h2
      exact ⟨a0, ha0, z ++ x, by rw [List.append_assoc], z, x, rfl, (mixB_iff (nd b (by simp))).mp hz, hx⟩
    · rintro ⟨a, ha, x, rfl, z, x', rfl, hz, hx⟩
      exact ⟨a ++ z, List.mem_flatMap.mpr ⟨a, ha, List.mem_map.mpr ⟨z, (mixB_iff (nd b (by simp))).mpr hz, rfl⟩⟩, x', by rw [List.append_assoc], hx⟩
theorem everyC_iff {bs : List (List Nat)} (nd : ∀ b ∈ bs, b.Nodup) {c : List Nat} : c ∈ everyC bs ↔ Segs bs c := by
  unfold everyC
  rw [everyC_from nd]
  constructor
  · rintro ⟨a, ha, x, rfl, h⟩
    have : a = [] := by simpa using ha
    subst this
    exact h
  · intro h
    exact ⟨[], by simp, c, rfl, h⟩
theorem segs_perm : ∀ {bs : List (List Nat)} {c : List Nat}, Segs bs c → c.Perm bs.flatten
  | [], c, h => by
    have h : c = [] := h
    subst h
    exact List.Perm.refl _
  | b :: bs, c, ⟨z, c', e, hz, hc⟩ => by
    subst e
    rw [List.flatten_cons]
    exact hz.append (segs_perm hc)
theorem map_const {α β : Type} {f : α → β} {k : β} : ∀ {l : List α}, (∀ x ∈ l, f x = k) → l.map f = List.replicate l.length k
  | [], _ => rfl
  | x :: l, h => by rw [List.map_cons, h x (by simp), map_const fun y hy => h y (by simp [hy])]; rfl
theorem segs_steps {S : List (List Int)} {st : Nat → List Int} (hst : ∀ k i, i ∈ idxs S k → st i = k) : ∀ {ks : List (List Int)} {c : List Nat}, Segs (ks.map (idxs S)) c → c.map st = ((ks.map (idxs S)).flatten).map st
  | [], c, h => by
    have h : c = [] := h
    subst h
    rfl
  | k :: ks, c, ⟨z, c', e, hz, hc⟩ => by
    subst e
    rw [List.map_cons, List.flatten_cons, List.map_append, List.map_append, segs_steps hst hc, map_const (k := k) fun x hx => hst k x (hz.mem_iff.mp hx), map_const (k := k) fun x hx => hst k x hx, hz.length_eq]
theorem segs_of {S : List (List Int)} {st : Nat → List Int} (hst : ∀ k i, i ∈ idxs S k → st i = k) : ∀ {ks : List (List Int)} {c : List Nat}, ks.Nodup → c.Perm (ks.map (idxs S)).flatten → c.map st = ((ks.map (idxs S)).flatten).map st → Segs (ks.map (idxs S)) c
  | [], c, _, p, _ => by
    have := p.length_eq
    exact List.eq_nil_of_length_eq_zero (by simpa using this)
  | k :: ks, c, nd, p, e => by
    rw [List.nodup_cons] at nd
    rw [List.map_cons, List.flatten_cons] at p e
    have hl := p.length_eq
    rw [List.length_append] at hl
    have ec := List.take_append_drop (idxs S k).length c
    have l1 : (c.take (idxs S k).length).length = (idxs S k).length := by rw [List.length_take]; omega
    rw [← ec, List.map_append, List.map_append] at e
    obtain ⟨e1, e2⟩ := List.append_inj e (by rw [List.length_map, List.length_map, l1])
    have m1 : ∀ x ∈ c.take (idxs S k).length, st x = k := fun x hx => by
      have h1 : st x ∈ (idxs S k).map st := by rw [← e1]; exact List.mem_map_of_mem hx
      obtain ⟨y, hy, ey⟩ := List.mem_map.mp h1
      rw [← ey]
      exact hst k y hy
    have rest : ∀ x ∈ (ks.map (idxs S)).flatten, st x ≠ k := fun x hx ex => by
      obtain ⟨l, hl, hx⟩ := List.mem_flatten.mp hx
      obtain ⟨k', hk', rfl⟩ := List.mem_map.mp hl
      rw [hst k' x hx] at ex
      exact nd.1 (ex ▸ hk')
    have m2 : ∀ x ∈ c.drop (idxs S k).length, st x ≠ k := fun x hx => by
      have h1 : st x ∈ ((ks.map (idxs S)).flatten).map st := by rw [← e2]; exact List.mem_map_of_mem hx
      obtain ⟨y, hy, ey⟩ := List.mem_map.mp h1
      rw [← ey]
      exact rest y hy
    have f1 := p.filter (fun x => decide (st x = k))
    have f2 := p.filter (fun x => !decide (st x = k))
    rw [← ec] at f1 f2
    simp only [List.filter_append] at f1 f2
    rw [List.filter_eq_self.mpr fun x hx => decide_eq_true (m1 x hx), List.filter_eq_nil_iff.mpr fun x hx => by simpa using m2 x hx, List.filter_eq_self.mpr fun x hx => decide_eq_true (hst k x hx), List.filter_eq_nil_iff.mpr fun x hx => by simpa using rest x hx, List.append_nil, List.append_nil] at f1
    rw [List.filter_eq_nil_iff.mpr fun x hx => by simpa using m1 x hx, List.filter_eq_self.mpr fun x hx => by simpa using m2 x hx, List.filter_eq_nil_iff.mpr fun x hx => by simpa using hst k x hx, List.filter_eq_self.mpr fun x hx => by simpa using rest x hx, List.nil_append, List.nil_append] at f2
    exact ⟨_, _, ec.symm, f1, segs_of hst nd.2 f2 e2⟩
/-! what the blocks tell -/
abbrev Fits (T : List (List Int)) (m : Nat) (rows c : List Nat) : Prop := c.Perm (List.range m) ∧ c.Pairwise (sle T rows)
theorem blk_none (h : blkOf m T rows = none) : ∀ c, ¬ Fits T m rows c := by
  intro c ⟨h1, h2⟩
  have := chain_of h1 h2
  unfold blkOf at h
  rw [if_pos this] at h
  cases h
theorem blk_some {bs : List (List Nat)} (h : blkOf m T rows = some bs) : Fits T m rows bs.flatten ∧ (∀ c, c ∈ everyC bs ↔ Fits T m rows c) ∧ ∀ c, Fits T m rows c → ¬ c < bs.flatten := by
  unfold blkOf at h
  split at h
  · rename_i hb
    cases h
    have ok := flat_ok hb
    have told := toldOf_told (steps m T rows)
    have pm := flat_perm told
    rw [steps_len] at pm
    have hst : ∀ k i, i ∈ idxs (steps m T rows) k → step T rows i = k := fun k i hi => step_of_idxs hi
    refine ⟨⟨pm, ok⟩, fun c => ?_, fun c hc => ?_⟩
    · rw [everyC_iff (fun b hb => by
        obtain ⟨k, _, rfl⟩ := List.mem_map.mp hb
        exact (idxs_nd _ k).imp fun h e => by omega)]
      constructor
      · intro hs
        exact ⟨(segs_perm hs).trans pm, sle_of_steps (segs_steps hst hs) ok⟩
      · rintro ⟨h1, h2⟩
        have p2 := h1.trans pm.symm
        exact segs_of hst (told_nd told.1) p2 (steps_sorted p2 h2 ok)
    · have p2 := pm.trans hc.1.symm
      exact lexmin p2 (steps_sorted p2 ok hc.2) flat_asc
  · cases h
end
end Mix

/-! first order, all orders: by straightness -/
namespace Mix
open PySem PySem.Spec L2 RZ DL
theorem snoc_lt : ∀ {s t : List Nat} {i j : Nat}, s.length = t.length → s < t → s ++ [i] < t ++ [j]
  | [], [], _, _, _, h => absurd h (List.lt_irrefl _)
  | [], y :: t, _, _, h, _ => by simp at h
  | x :: s, [], _, _, h, _ => by simp at h
  | x :: s, y :: t, i, j, hl, h => by
    rw [List.cons_lt_cons_iff] at h
    rw [List.cons_append, List.cons_append, List.cons_lt_cons_iff]
    rcases h with h | ⟨e, h⟩
    · exact .inl h
    · exact .inr ⟨e, snoc_lt (by simpa using hl) h⟩
theorem snoc_lt_same : ∀ {s : List Nat} {i j : Nat}, i < j → s ++ [i] < s ++ [j]
  | [], i, j, h => by
    show [i] < [j]
    rw [List.cons_lt_cons_iff]
    exact .inl h
  | x :: s, i, j, h => by
    rw [List.cons_append, List.cons_append, List.cons_lt_cons_iff]
    exact .inr ⟨rfl, snoc_lt_same h⟩
theorem seqs_sorted (n : Nat) : ∀ k, (seqs n k).Pairwise (· < ·)
  | 0 => by simp [seqs]
  | k + 1 => by
    show ((seqs n k).flatMap fun s => ((List.range n).filter fun i => !decide (i ∈ s)).map fun i => s ++ [i]).Pairwise (· < ·)
    rw [List.pairwise_flatMap]
    refine ⟨fun s _ => ?_, ?_⟩
    · rw [List.pairwise_map]
      exact (List.pairwise_lt_range.filter _).imp fun h => snoc_lt_same h
    · refine List.Pairwise.imp_of_mem (fun {s t} hs ht h x hx y hy => ?_) (seqs_sorted n k)
      obtain ⟨i, _, rfl⟩ := List.mem_map.mp hx
      obtain ⟨j, _, rfl⟩ := List.mem_map.mp hy
      exact snoc_lt (by rw [len_of_seqs hs, len_of_seqs ht]) h
section
variable {n m : Nat} {T : List (List Int)} {r c : List Nat}
theorem good_iff (hr : r.Perm (List.range n)) : Good n m T r c ↔ Fits T m r c := by
  have lr : r.length = n := by simpa using hr.length_eq
  constructor
  · rintro ⟨_, h2, h3⟩
    exact ⟨h2, (pw_iff lr (by simpa using h2.length_eq)).mp h3⟩
  · rintro ⟨h2, h3⟩
    exact ⟨hr, h2, (pw_iff lr (by simpa using h2.length_eq)).mpr h3⟩
theorem first_none (h : firstOf n m T = none) : ¬ Good n m T r c := by
  intro g
  unfold firstOf at h
  rw [List.findSome?_eq_none_iff] at h
  have h1 := h r (seqs_iff.mpr g.rp)
  cases hb : blkOf m T r with
  | none => exact blk_none hb c ((good_iff g.rp).mp g)
  | some bs => rw [hb] at h1; cases h1
theorem first_some {f : List Nat} (h : firstOf n m T = some (r, f)) : Good n m T r f ∧ ∀ r' c', Good n m T r' c' → ¬ r' < r ∧ (r' = r → ¬ c' < f) := by
  unfold firstOf at h
  rw [List.findSome?_eq_some_iff] at h
  obtain ⟨l1, a, l2, hl, ha, hn⟩ := h
  cases hb : blkOf m T a with
  | none => rw [hb] at ha; cases ha
  | some bs =>
    rw [hb] at ha
    have ha := Option.some.inj ha
    rw [Prod.mk.injEq] at ha
    obtain ⟨rfl, rfl⟩ := ha
    have am : a ∈ seqs n n := by rw [hl]; simp
    have ap := seqs_iff.mp am
    obtain ⟨b1, b2, b3⟩ := blk_some hb
    refine ⟨(good_iff ap).mpr b1, fun r' c' g => ⟨fun hlt => ?_, fun e => ?_⟩⟩
    · have rm : r' ∈ seqs n n := seqs_iff.mpr g.rp
      have srt := seqs_sorted n n
      rw [hl] at rm srt
      rw [List.pairwise_append] at srt
      rcases List.mem_append.mp rm with q | q
      · have h1 := hn r' q
        cases hb' : blkOf m T r' with
        | none => exact blk_none hb' c' ((good_iff g.rp).mp g)
        | some bs' => rw [hb'] at h1; cases h1
      · rcases List.mem_cons.mp q with q | q
        · subst q; exact List.lt_irrefl _ hlt
        · exact List.lt_irrefl _ (List.lt_trans hlt (List.rel_of_pairwise_cons srt.2.1 q))
    · subst e
      exact b3 c' ((good_iff g.rp).mp g)
theorem mem_every {p : List Nat × List Nat} : p ∈ everyOf n m T ↔ Good n m T p.1 p.2 := by
  unfold everyOf
  rw [(List.mergeSort_perm _ _).mem_iff, List.mem_flatMap]
  constructor
  · rintro ⟨a, ha, hp⟩
    unfold rowsAll at hp
    cases hb : blkOf m T a with
    | none => rw [hb] at hp; cases hp
    | some bs =>
      rw [hb] at hp
      obtain ⟨c, hc, rfl⟩ := List.mem_map.mp hp
      exact (good_iff (seqs_iff.mp ha)).mpr (((blk_some hb).2.1 c).mp hc)
  · intro g
    refine ⟨p.1, seqs_iff.mpr g.rp, ?_⟩
    unfold rowsAll
    cases hb : blkOf m T p.1 with
    | none => exact absurd ((good_iff g.rp).mp g) (blk_none hb p.2)
    | some bs => exact List.mem_map.mpr ⟨p.2, ((blk_some hb).2.1 p.2).mpr ((good_iff g.rp).mp g), rfl⟩
end
theorem lt_nT (a b : List Nat) : PySem.W.dataLt (nT a).py (nT b).py = decide (a < b) := by
  have e : ∀ l : List Nat, (nT l).py = .tuple ((l.map fun n : Nat => (n : Int)).map .int) := fun l => by
    show PyData.tuple (Dat.pys (l.map iD)) = _
    rw [pys_map, List.map_map]
    rfl
  rw [e, e, PySem.W.dataLt_tuple]
  show PySem.W.rowLt _ _ = _
  rw [PySem.W.dataLt_ints]
  exact decide_eq_decide.mpr lt_cast
theorem not_lt_pair {p q : List Nat × List Nat} (h1 : ¬ p.1 < q.1) (h2 : p.1 = q.1 → ¬ p.2 < q.2) : PySem.W.dataLt (pairD p).py (pairD q).py = false := by
  show PySem.W.dataLt (.tuple [(nT p.1).py, (nT p.2).py]) (.tuple [(nT q.1).py, (nT q.2).py]) = false
  rw [PySem.W.dataLt_pair (alike_nT _ _) (alike_nT _ _), eqv_nT, eqv_nT, lt_nT, lt_nT]
  by_cases e : p.1 = q.1
  · rw [if_pos (decide_eq_true e)]
    split
    · rfl
    · exact decide_eq_false (h2 e)
  · rw [if_neg (by simpa using e)]
    exact decide_eq_false h1
theorem inv_perm {n : Nat} {r : List Nat} (h : r.Perm (List.range n)) : (inv n r).Perm (List.range n) := by
  have lr : r.length = n := by simpa using h.length_eq
  have mem : ∀ i, i < n → i ∈ r := fun i hi => h.mem_iff.mpr (by simpa using hi)
  refine perm_range ?_ ?_ (by simp [inv])
  · unfold inv List.Nodup
    rw [List.pairwise_map]
    refine List.Pairwise.imp_of_mem (fun {a b} ha hb ne e => ne ?_) (List.nodup_range (n := n))
    have ha := mem a (by simpa using ha)
    have hb := mem b (by simpa using hb)
    have h1 := List.getElem_idxOf (List.idxOf_lt_length_of_mem ha)
    have h2 := List.getElem_idxOf (List.idxOf_lt_length_of_mem hb)
    rw [← h1, ← h2]
    congr 1
  · intro x hx
    unfold inv at hx
    obtain ⟨i, hi, rfl⟩ := List.mem_map.mp hx
    have := List.idxOf_lt_length_of_mem (mem i (by simpa using hi))
    omega
theorem inv_get {n i : Nat} {r : List Nat} (hi : i < n) : (inv n r).getD i 0 = r.idxOf i := getD_of (by unfold inv; rw [List.getElem?_map, List.getElem?_range hi]; rfl)
theorem get_idx {r : List Nat} {i : Nat} (h : i ∈ r) : r.getD (r.idxOf i) 0 = i := by
  have hl := List.idxOf_lt_length_of_mem h
  rw [getD_at hl, List.getElem_idxOf hl]
section
variable {n m : Nat} {T0 T : List (List Int)} {r0 c0 r c : List Nat}
theorem mx_tb (M : Mixed n m T0 r0 c0) : Tb n m (place T0 r0 c0) := by
  have h := place_rect (T := T0) (rows := r0) (cols := c0)
  rw [show r0.length = n by simpa using M.rp.length_eq, show c0.length = m by simpa using M.cp.length_eq] at h
  exact ⟨h, M.n1, M.tb.n8, M.m1, M.tb.m8⟩
theorem mx_good (M : Mixed n m T0 r0 c0) : Good n m (place T0 r0 c0) (inv n r0) (inv m c0) := by
  refine ⟨inv_perm M.rp, inv_perm M.cp, pw_congr (fun i hi j hj => ?_) M.pw⟩
  have li : (inv n r0).length = n := by simp [inv]
  have lj : (inv m c0).length = m := by simp [inv]
  have mi : i ∈ r0 := M.rp.mem_iff.mpr (by simpa using hi)
  have mj : j ∈ c0 := M.cp.mem_iff.mpr (by simpa using hj)
  rw [en_place (by omega) (by omega), inv_get hi, inv_get hj, en_place (List.idxOf_lt_length_of_mem mi) (List.idxOf_lt_length_of_mem mj), get_idx mi, get_idx mj]
theorem mx_first (M : Mixed n m T0 r0 c0) : ∃ r c, firstOf n m (place T0 r0 c0) = some (r, c) ∧ Good n m (place T0 r0 c0) r c ∧ PySem.W.dataLt (pairD (inv n r0, inv m c0)).py (pairD (r, c)).py = false := by
  cases h : firstOf n m (place T0 r0 c0) with
  | none => exact absurd (mx_good M) (first_none h)
  | some p =>
    obtain ⟨r, c⟩ := p
    obtain ⟨h1, h2⟩ := first_some h
    obtain ⟨h3, h4⟩ := h2 _ _ (mx_good M)
    exact ⟨r, c, rfl, h1, not_lt_pair h3 h4⟩
theorem mx_back (M : Mixed n m T0 r0 c0) : (inv n r0).Perm (List.range n) ∧ (inv m c0).Perm (List.range m) ∧ plainB n m (place (place T0 r0 c0) (inv n r0) (inv m c0)) = true := ⟨(mx_good M).rp, (mx_good M).cp, plain_iff.mpr (mx_good M).pw⟩
theorem lift_tb (W : Tb n m T) {more less : List Int} (h1 : more.length = n) (h2 : less.length = m) : Tb n m (liftT T more less) := by
  refine ⟨⟨by simp [liftT, W.rows, h1], fun row hr => ?_⟩, W.n1, W.n8, W.m1, W.m8⟩
  unfold liftT at hr
  obtain ⟨p, hp, rfl⟩ := List.mem_map.mp hr
  have := W.cols p.1 (List.of_mem_zip hp).1
  simp [this, h2]
theorem en_at {i j : Nat} {row : List Int} (h : T[i]? = some row) : en T i j = row.getD j 0 := by unfold en; rw [getD_of h]
theorem lift_en (W : Tb n m T) {more less : List Int} (h1 : more.length = n) (h2 : less.length = m) {i j : Nat} (hi : i < n) (hj : j < m) : en (liftT T more less) i j = en T i j + more.getD i 0 + less.getD j 0 := by
  have e0 : T[i]? = some (T.getD i []) := get_getD (by rw [W.rows]; exact hi)
  have lr : (T.getD i []).length = m := row_len W.toRect hi
  have e1 : (liftT T more less)[i]? = some (((T.getD i []).zip less).map fun q => q.1 + more.getD i 0 + q.2) := by
    unfold liftT
    rw [List.getElem?_map]
    have hz : (T.zip more)[i]? = some (T.getD i [], more.getD i 0) := by
      rw [List.getElem?_zip_eq_some]
      exact ⟨e0, get_getD (by omega)⟩
    rw [hz]
    rfl
  rw [en_at e1, en_at e0]
  refine getD_of ?_
  rw [List.getElem?_map]
  have hz : ((T.getD i []).zip less)[j]? = some ((T.getD i []).getD j 0, less.getD j 0) := by
    rw [List.getElem?_zip_eq_some]
    exact ⟨get_getD (by omega), get_getD (by omega)⟩
  rw [hz]
  rfl
theorem find_congr {α β : Type} {f g : α → Option β} : ∀ {l : List α}, (∀ x ∈ l, f x = g x) → l.findSome? f = l.findSome? g
  | [], _ => rfl
  | x :: l, h => by
    rw [List.findSome?_cons, List.findSome?_cons, h x (by simp), find_congr fun y hy => h y (by simp [hy])]
theorem lift_first (W : Tb n m T) (h6 : n ≤ 6) {more less : List Int} (h1 : more.length = n) (h2 : less.length = m) : firstOf n m (liftT T more less) = firstOf n m T := by
  unfold firstOf
  refine find_congr fun rows hr => ?_
  have rp := seqs_iff.mp hr
  have lr : rows.length = n := len_of_seqs hr
  have lt := lt_of_seqs hr
  have sl : ∀ a b, a < m → b < m → (sle (liftT T more less) rows a b ↔ sle T rows a b) := fun a b ha hb => by
    rw [sle_iff, sle_iff]
    have g : ∀ k, k < rows.length → ∀ x, x < m → en (liftT T more less) (rows.getD k 0) x = en T (rows.getD k 0) x + more.getD (rows.getD k 0) 0 + less.getD x 0 := fun k hk x hx => lift_en W h1 h2 (lt _ (getD_mem hk)) hx
    constructor
    · intro h k hk
      have := h k hk
      rw [g k (by omega) a ha, g (k + 1) hk a ha, g k (by omega) b hb, g (k + 1) hk b hb] at this
      omega
    · intro h k hk
      have := h k hk
      rw [g k (by omega) a ha, g (k + 1) hk a ha, g k (by omega) b hb, g (k + 1) hk b hb]
      omega
  have fits : ∀ c, Fits (liftT T more less) m rows c ↔ Fits T m rows c := fun c => by
    constructor
    · rintro ⟨p, q⟩
      exact ⟨p, List.Pairwise.imp_of_mem (fun {a b} ha hb h => (sl a b (by simpa using p.mem_iff.mp ha) (by simpa using p.mem_iff.mp hb)).mp h) q⟩
    · rintro ⟨p, q⟩
      exact ⟨p, List.Pairwise.imp_of_mem (fun {a b} ha hb h => (sl a b (by simpa using p.mem_iff.mp ha) (by simpa using p.mem_iff.mp hb)).mpr h) q⟩
  cases hb : blkOf m T rows with
  | none =>
    cases hb' : blkOf m (liftT T more less) rows with
    | none => rfl
    | some bs => exact absurd ((fits _).mp (blk_some hb').1) (blk_none hb _)
  | some bs =>
    cases hb' : blkOf m (liftT T more less) rows with
    | none => exact absurd ((fits _).mpr (blk_some hb).1) (blk_none hb' _)
    | some bs' =>
      have q1 := (blk_some hb).2.2 _ ((fits _).mp (blk_some hb').1)
      have q2 := (blk_some hb').2.2 _ ((fits _).mpr (blk_some hb).1)
      have e : bs'.flatten = bs.flatten := List.le_antisymm (List.not_lt.mp q2) (List.not_lt.mp q1)
      show some (rows, bs'.flatten) = some (rows, bs.flatten)
      rw [e]
theorem turn_tb (W : Tb n m T) : Tb m n (turnT m T) := by
  refine ⟨⟨by simp [turnT], fun row hr => ?_⟩, W.m1, W.m8, W.n1, W.n8⟩
  unfold turnT at hr
  obtain ⟨c, _, rfl⟩ := List.mem_map.mp hr
  simp [colOf, W.rows]
theorem turn_en (W : Tb n m T) {i j : Nat} (hi : i < m) (hj : j < n) : en (turnT m T) i j = en T j i := by
  have e1 : (turnT m T)[i]? = some (colOf T i) := by
    unfold turnT
    rw [List.getElem?_map, List.getElem?_range hi]
    rfl
  rw [en_at e1]
  refine getD_of ?_
  unfold colOf
  rw [List.getElem?_map, get_getD (d := []) (by rw [W.rows]; exact hj)]
  rfl
theorem gd_turn (W : Tb n m T) (g : Good n m T r c) : plainB m n (place (turnT m T) c r) = true := by
  rw [plain_iff]
  have lr : r.length = n := by simpa using g.rp.length_eq
  have lc : c.length = m := by simpa using g.cp.length_eq
  have e : ∀ i, i < m → ∀ j, j < n → en (place (turnT m T) c r) i j = en (place T r c) j i := fun i hi j hj => by
    rw [en_place (by omega) (by omega), en_place (by omega) (by omega)]
    refine turn_en W ?_ ?_
    · have := g.cp.mem_iff.mp (getD_mem (d := 0) (show i < c.length by omega))
      simpa using this
    · have := g.rp.mem_iff.mp (getD_mem (d := 0) (show j < r.length by omega))
      simpa using this
  intro i j hij hj a b hab hb
  rw [e i (by omega) a (by omega), e j hj b hb, e i (by omega) b hb, e j hj a (by omega)]
  have := g.pw a b hab hb i j hij hj
  omega
theorem gd_tb (W : Tb n m T) (g : Good n m T r c) : Tb n m (place T r c) := by
  have h := place_rect (T := T) (rows := r) (cols := c)
  rw [show r.length = n by simpa using g.rp.length_eq, show c.length = m by simpa using g.cp.length_eq] at h
  exact ⟨h, W.n1, W.n8, W.m1, W.m8⟩
theorem pw_gains (W : Tb n m T) (g : PW n m T) : ∀ row ∈ gains n m T, ∀ x ∈ row, 0 ≤ x := by
  intro row hr x hx
  unfold gains at hr
  obtain ⟨i, hi, rfl⟩ := List.mem_map.mp hr
  obtain ⟨j, hj, rfl⟩ := List.mem_map.mp hx
  have hi : i < n - 1 := by simpa using hi
  have hj : j < m - 1 := by simpa using hj
  have := g i (i + 1) (by omega) (by omega) j (j + 1) (by omega) (by omega)
  unfold gainOf
  omega
end
end Mix

/-! parts of tables, first least places, like rows -/
namespace Mix
open PySem PySem.Spec L2 RZ DL
theorem sort_key (k : Nat) (f : Nat → Nat) (inj : ∀ i, i < k → ∀ j, j < k → f i = f j → i = j) : ∃ r : List Nat, r.Perm (List.range k) ∧ r.Pairwise fun a b => f a < f b := by
  refine ⟨(List.range k).mergeSort (fun a b => decide (f a ≤ f b)), List.mergeSort_perm _ _, ?_⟩
  have pm := List.mergeSort_perm (List.range k) (fun a b => decide (f a ≤ f b))
  have so : ((List.range k).mergeSort (fun a b => decide (f a ≤ f b))).Pairwise (fun a b => decide (f a ≤ f b) = true) := List.pairwise_mergeSort (fun a b c h1 h2 => by
    rw [decide_eq_true_eq] at *
    omega) (fun a b => by
    rw [Bool.or_eq_true, decide_eq_true_eq, decide_eq_true_eq]
    omega) _
  have nd : ((List.range k).mergeSort (fun a b => decide (f a ≤ f b))).Nodup := pm.nodup_iff.mpr List.nodup_range
  refine List.Pairwise.imp_of_mem (fun {a b} ha hb h => ?_) (List.Pairwise.and so nd)
  have h1 := of_decide_eq_true h.1
  have ha : a < k := by simpa using pm.mem_iff.mp ha
  have hb : b < k := by simpa using pm.mem_iff.mp hb
  have h2 : f a ≠ f b := fun e => h.2 (inj a ha b hb e)
  omega
theorem getD_inj {l : List Nat} (nd : l.Nodup) {i j : Nat} (hi : i < l.length) (hj : j < l.length) (e : l.getD i 0 = l.getD j 0) : i = j := by
  rw [getD_at hi, getD_at hj] at e
  exact (List.getElem_inj nd).mp e
theorem minL_le_fold : ∀ (xs : List Int) (x : Int), xs.foldl min x ≤ x ∧ ∀ y ∈ xs, xs.foldl min x ≤ y
  | [], x => ⟨Int.le_refl _, fun y hy => by cases hy⟩
  | z :: xs, x => by
    rw [List.foldl_cons]
    obtain ⟨h1, h2⟩ := minL_le_fold xs (min x z)
    refine ⟨by omega, fun y hy => ?_⟩
    rcases List.mem_cons.mp hy with rfl | hy
    · omega
    · exact h2 y hy
theorem minL_le {l : List Int} : ∀ y ∈ l, minL l ≤ y := by
  cases l with
  | nil => intro y hy; cases hy
  | cons x xs =>
    intro y hy
    obtain ⟨h1, h2⟩ := minL_le_fold xs x
    rcases List.mem_cons.mp hy with rfl | hy
    · exact h1
    · exact h2 y hy
theorem before_idx {l : List Int} {x : Int} {k : Nat} (h : k < l.idxOf x) (hk : k < l.length) : l[k] ≠ x := by
  intro e
  have := List.not_of_lt_findIdx (p := (· == x)) (xs := l) (i := k) (by simpa [List.idxOf] using h)
  rw [e] at this
  simp at this
theorem convex_range : ∀ {l : List Nat}, l.Pairwise (· < ·) → (∀ x y z, x ∈ l → z ∈ l → x < y → y < z → y ∈ l) → ∃ s, l = List.range' s l.length
  | [], _, _ => ⟨0, rfl⟩
  | [a], _, _ => ⟨a, rfl⟩
  | a :: b :: l, h, cv => by
    have hab : a < b := List.rel_of_pairwise_cons h (by simp)
    have h2 := List.Pairwise.of_cons h
    have e : b = a + 1 := by
      by_cases q : a + 1 < b
      · have := cv a (a + 1) b (by simp) (by simp) (by omega) q
        rcases List.mem_cons.mp this with r | r
        · omega
        · rcases List.mem_cons.mp r with r | r
          · omega
          · have := List.rel_of_pairwise_cons h2 r
            omega
      · omega
    obtain ⟨s, hs⟩ := convex_range (l := b :: l) h2 fun x y z hx hz h3 h4 => by
      have := cv x y z (List.mem_cons_of_mem _ hx) (List.mem_cons_of_mem _ hz) h3 h4
      rcases List.mem_cons.mp this with r | r
      · have : a < x := List.rel_of_pairwise_cons h hx
        omega
      · exact r
    have es : s = b := by
      rw [List.length_cons, List.range'_succ] at hs
      exact (List.cons.inj hs).1.symm
    subst es
    refine ⟨a, ?_⟩
    rw [List.length_cons, List.range'_succ, ← e]
    exact congrArg (a :: ·) hs
section
variable {n m : Nat} {T0 T : List (List Int)} {r0 c0 r c : List Nat}
theorem mx_part (M : Mixed n m T0 r0 c0) {s t : List Nat} (hs : Part n s) (ht : Part m t) : firstOf s.length t.length (place (place T0 r0 c0) s t) ≠ none := by
  intro h
  have lr0 : r0.length = n := by simpa using M.rp.length_eq
  have lc0 : c0.length = m := by simpa using M.cp.length_eq
  have nr : r0.Nodup := M.rp.nodup_iff.mpr List.nodup_range
  have nc : c0.Nodup := M.cp.nodup_iff.mpr List.nodup_range
  have ns : s.Nodup := hs.2.1.imp fun h e => by omega
  have nt : t.Nodup := ht.2.1.imp fun h e => by omega
  have ls : ∀ i, i < s.length → s.getD i 0 < n := fun i hi => hs.2.2.1 _ (getD_mem hi)
  have lt : ∀ i, i < t.length → t.getD i 0 < m := fun i hi => ht.2.2.1 _ (getD_mem hi)
  obtain ⟨r', rp, rs⟩ := sort_key s.length (fun i => r0.getD (s.getD i 0) 0) fun i hi j hj e => getD_inj ns hi hj (getD_inj nr (by have := ls i hi; omega) (by have := ls j hj; omega) e)
  obtain ⟨c', cp, cs⟩ := sort_key t.length (fun i => c0.getD (t.getD i 0) 0) fun i hi j hj e => getD_inj nt hi hj (getD_inj nc (by have := lt i hi; omega) (by have := lt j hj; omega) e)
  refine first_none h (r := r') (c := c') ⟨rp, cp, ?_⟩
  have lr : r'.length = s.length := by simpa using rp.length_eq
  have lc : c'.length = t.length := by simpa using cp.length_eq
  have ri : ∀ i, i < s.length → r'.getD i 0 < s.length := fun i hi => by simpa using rp.mem_iff.mp (getD_mem (d := 0) (show i < r'.length by omega))
  have ci : ∀ i, i < t.length → c'.getD i 0 < t.length := fun i hi => by simpa using cp.mem_iff.mp (getD_mem (d := 0) (show i < c'.length by omega))
  have e : ∀ i, i < s.length → ∀ j, j < t.length → en (place (place (place T0 r0 c0) s t) r' c') i j = en T0 (r0.getD (s.getD (r'.getD i 0) 0) 0) (c0.getD (t.getD (c'.getD j 0) 0) 0) := fun i hi j hj => by
    have h1 := ls _ (ri i hi)
    have h2 := lt _ (ci j hj)
    rw [en_place (by omega) (by omega), en_place (ri i hi) (ci j hj), en_place (by omega) (by omega)]
  rw [List.pairwise_iff_getElem] at rs cs
  intro i j hij hj a b hab hb
  rw [e i (by omega) a (by omega), e j hj b hb, e i (by omega) b hb, e j hj a (by omega)]
  have q1 := rs i j (by omega) (by omega) hij
  have q2 := cs a b (by omega) (by omega) hab
  rw [← getD_at (show i < r'.length by omega), ← getD_at (show j < r'.length by omega)] at q1
  rw [← getD_at (show a < c'.length by omega), ← getD_at (show b < c'.length by omega)] at q2
  refine M.pw _ _ q1 ?_ _ _ q2 ?_
  · have := M.rp.mem_iff.mp (getD_mem (d := 0) (show s.getD (r'.getD j 0) 0 < r0.length by have := ls _ (ri j hj); omega))
    simpa using this
  · have := M.cp.mem_iff.mp (getD_mem (d := 0) (show t.getD (c'.getD b 0) 0 < c0.length by have := lt _ (ci b hb); omega))
    simpa using this
theorem pw_least (W : Tb n m T) (g : PW n m T) : ∀ p ∈ (leastL T).zip ((leastL T).drop 1), p.1 ≤ p.2 := by
  refine pw_chain (R := fun a b => a ≤ b) ?_
  rw [List.pairwise_iff_getElem]
  intro i j hi hj hij
  unfold leastL at hi hj ⊢
  rw [List.length_map, W.rows] at hi hj
  rw [List.getElem_map, List.getElem_map]
  have hi' : i < T.length := by rw [W.rows]; exact hi
  have hj' : j < T.length := by rw [W.rows]; exact hj
  have ei : T[i]? = some T[i] := List.getElem?_eq_getElem hi'
  have ej : T[j]? = some T[j] := List.getElem?_eq_getElem hj'
  have li : T[i].length = m := W.cols _ (List.getElem_mem _)
  have lj : T[j].length = m := W.cols _ (List.getElem_mem _)
  have ni : T[i] ≠ [] := fun e => by rw [e] at li; have := W.m1; simp at li; omega
  have nj : T[j] ≠ [] := fun e => by rw [e] at lj; have := W.m1; simp at lj; omega
  have eni : ∀ x, en T i x = T[i].getD x 0 := fun x => en_at ei
  have enj : ∀ x, en T j x = T[j].getD x 0 := fun x => en_at ej
  generalize T[i] = u at li ni eni ⊢
  generalize T[j] = v at lj nj enj ⊢
  have hp := List.idxOf_lt_length_of_mem (minL_mem ni)
  have hq := List.idxOf_lt_length_of_mem (minL_mem nj)
  rcases Nat.lt_or_ge (v.idxOf (minL v)) (u.idxOf (minL u)) with h | h
  · exfalso
    have gI : ∀ {w : List Int} {x : Nat}, x < w.length → w.getD x 0 ∈ w := fun h => getD_mem h
    have gg : ∀ {w : List Int} {x : Nat} (h : x < w.length), w.getD x 0 = w[x] := fun h => by simp [List.getD, h]
    have h1 : u.getD (u.idxOf (minL u)) 0 = minL u := by rw [gg hp, List.getElem_idxOf hp]
    have h2 : v.getD (v.idxOf (minL v)) 0 = minL v := by rw [gg hq, List.getElem_idxOf hq]
    have hqu : v.idxOf (minL v) < u.length := by omega
    have hpv : u.idxOf (minL u) < v.length := by omega
    have h3 : u.getD (v.idxOf (minL v)) 0 ≠ minL u := by rw [gg hqu]; exact before_idx h hqu
    have h4 := minL_le _ (gI hqu)
    have h5 := minL_le _ (gI hpv)
    have := g i j hij hj (v.idxOf (minL v)) (u.idxOf (minL u)) h (by omega)
    rw [eni, eni, enj, enj] at this
    omega
  · exact h
/-! like rows -/
theorem shape_get {row : List Int} {x : Nat} (h : x < row.length) : (shape row).getD x 0 = row.getD x 0 - row.getD 0 0 := getD_of (by unfold shape; rw [List.getElem?_map, get_getD (d := 0) h]; rfl)
abbrev sh (S : List (List Int)) (i : Nat) : List Int := shape (S.getD i [])
theorem shapes_at {S : List (List Int)} {n i : Nat} {k : List Int} (hS : S.length = n) : (S.map shape)[i]? = some k ↔ i < n ∧ sh S i = k := by
  rw [List.getElem?_map]
  by_cases h : i < n
  · rw [get_getD (d := []) (by omega)]
    show some (sh S i) = some k ↔ _
    rw [Option.some_inj]
    exact ⟨fun e => ⟨h, e⟩, fun e => e.2⟩
  · rw [List.getElem?_eq_none (by omega)]
    simp [h]
theorem sh_en {S : List (List Int)} (R : Rect n m S) {i x : Nat} (hi : i < n) (hx : x < m) : (sh S i).getD x 0 = en S i x - en S i 0 := by
  unfold sh
  rw [shape_get (by rw [row_len R hi]; exact hx)]
  rfl
theorem sh_eq {S : List (List Int)} (R : Rect n m S) {i j : Nat} (hi : i < n) (hj : j < n) : sh S i = sh S j ↔ ∀ x, x < m → en S i x - en S i 0 = en S j x - en S j 0 := by
  constructor
  · intro h x hx
    rw [← sh_en R hi hx, ← sh_en R hj hx, h]
  · intro h
    have l1 : (sh S i).length = m := by unfold sh shape; rw [List.length_map]; exact row_len R hi
    have l2 : (sh S j).length = m := by unfold sh shape; rw [List.length_map]; exact row_len R hj
    apply List.ext_getElem (by omega)
    intro x hx hx'
    have g : ∀ {w : List Int} (h : x < w.length), w[x] = w.getD x 0 := fun h => by simp [List.getD, h]
    rw [g hx, g hx', sh_en R hi (by omega), sh_en R hj (by omega)]
    exact h x (by omega)
def sw (a b x : Nat) : Nat := if x = a then b else if x = b then a else x
theorem sw_sw (a b x : Nat) : sw a b (sw a b x) = x := by
  unfold sw
  by_cases h1 : x = a
  · subst h1
    by_cases h2 : b = x
    · simp [h2]
    · simp [h2]
  · by_cases h2 : x = b
    · subst h2; simp [h1]
    · simp [h1, h2]
theorem swap_perm {a b : Nat} (h : r.Perm (List.range n)) (ha : a < n) (hb : b < n) : (swapL a b r).Perm (List.range n) := by
  have lt : ∀ x ∈ r, x < n := fun x hx => by simpa using h.mem_iff.mp hx
  refine perm_range ?_ ?_ (by simpa [swapL] using h.length_eq)
  · have nd : r.Nodup := h.nodup_iff.mpr List.nodup_range
    unfold swapL List.Nodup
    rw [List.pairwise_map]
    refine List.Pairwise.imp (fun {x y} ne e => ne ?_) nd
    have e : sw a b x = sw a b y := e
    rw [← sw_sw a b x, e, sw_sw]
  · intro x hx
    unfold swapL at hx
    obtain ⟨y, hy, rfl⟩ := List.mem_map.mp hx
    have := lt y hy
    split
    · exact hb
    · split
      · exact ha
      · exact this
theorem like_ok {S : List (List Int)} (R : Rect n m S) (hm : 1 ≤ m) (g : Good n m S r c) {k : List Int} : Side r (idxs (S.map shape) k) ∧ ∀ a b, (idxs (S.map shape) k)[0]? = some a → (idxs (S.map shape) k)[(idxs (S.map shape) k).length - 1]? = some b → Good n m S (swapL a b r) c := by
  have lr : r.length = n := by simpa using g.rp.length_eq
  have lc : c.length = m := by simpa using g.cp.length_eq
  have nr : r.Nodup := g.rp.nodup_iff.mpr List.nodup_range
  have rlt : ∀ i, i < n → r.getD i 0 < n := fun i hi => by simpa using g.rp.mem_iff.mp (getD_mem (d := 0) (show i < r.length by omega))
  have clt : ∀ i, i < m → c.getD i 0 < m := fun i hi => by simpa using g.cp.mem_iff.mp (getD_mem (d := 0) (show i < c.length by omega))
  have mem : ∀ i, i ∈ idxs (S.map shape) k ↔ i < n ∧ sh S i = k := fun i => by rw [idxs_mem, shapes_at R.rows]
  have en_ : ∀ i, i < n → ∀ j, j < m → en (place S r c) i j = en S (r.getD i 0) (c.getD j 0) := fun i hi j hj => en_place (by omega) (by omega)
  -- between rows of one shape: that shape
  have cvx : ∀ i j l, i < j → j < l → l < n → sh S (r.getD i 0) = sh S (r.getD l 0) → sh S (r.getD j 0) = sh S (r.getD i 0) := by
    intro i j l hij hjl hl e
    rw [sh_eq R (rlt _ (by omega)) (rlt _ hl)] at e
    rw [sh_eq R (rlt _ (by omega)) (rlt _ (by omega))]
    intro x hx
    have mx : x ∈ c := g.cp.mem_iff.mpr (by simpa using hx)
    have m0 : 0 ∈ c := g.cp.mem_iff.mpr (by simp; omega)
    have px := List.idxOf_lt_length_of_mem mx
    have p0 := List.idxOf_lt_length_of_mem m0
    have gx := get_idx mx
    have g0 := get_idx m0
    have ex := e x hx
    rcases Nat.lt_trichotomy (c.idxOf 0) (c.idxOf x) with q | q | q
    · have h1 := g.pw i j hij (by omega) _ _ q (by omega)
      have h2 := g.pw j l hjl hl _ _ q (by omega)
      rw [en_ i (by omega) _ (by omega), en_ j (by omega) _ (by omega), en_ i (by omega) _ (by omega), en_ j (by omega) _ (by omega), gx, g0] at h1
      rw [en_ j (by omega) _ (by omega), en_ l hl _ (by omega), en_ j (by omega) _ (by omega), en_ l hl _ (by omega), gx, g0] at h2
      omega
    · have : x = 0 := by rw [q] at g0; exact gx.symm.trans g0
      subst this
      omega
    · have h1 := g.pw i j hij (by omega) _ _ q (by omega)
      have h2 := g.pw j l hjl hl _ _ q (by omega)
      rw [en_ i (by omega) _ (by omega), en_ j (by omega) _ (by omega), en_ i (by omega) _ (by omega), en_ j (by omega) _ (by omega), gx, g0] at h1
      rw [en_ j (by omega) _ (by omega), en_ l hl _ (by omega), en_ j (by omega) _ (by omega), en_ l hl _ (by omega), gx, g0] at h2
      omega
  refine ⟨⟨fun b hb => g.rp.mem_iff.mpr (by simpa using ((mem b).mp hb).1), ?_⟩, fun a b ha hb => ?_⟩
  · have pm : ((idxs (S.map shape) k).map r.idxOf).Perm ((List.range n).filter fun j => decide (sh S (r.getD j 0) = k)) := by
      refine (List.perm_ext_iff_of_nodup ?_ (List.nodup_range.filter _)).mpr fun x => ?_
      · unfold List.Nodup
        rw [List.pairwise_map]
        refine List.Pairwise.imp_of_mem (fun {x y} hx hy h e => ?_) (idxs_nd (S.map shape) k)
        have hx := g.rp.mem_iff.mpr (show x ∈ List.range n by simpa using ((mem x).mp hx).1)
        have hy := g.rp.mem_iff.mpr (show y ∈ List.range n by simpa using ((mem y).mp hy).1)
        have : x = y := by rw [← get_idx hx, ← get_idx hy, e]
        omega
      · rw [List.mem_map, List.mem_filter, List.mem_range, decide_eq_true_eq]
        constructor
        · rintro ⟨b, hb, rfl⟩
          obtain ⟨h1, h2⟩ := (mem b).mp hb
          have hb' := g.rp.mem_iff.mpr (show b ∈ List.range n by simpa using h1)
          have := List.idxOf_lt_length_of_mem hb'
          exact ⟨by omega, by rw [get_idx hb']; exact h2⟩
        · rintro ⟨h1, h2⟩
          refine ⟨r.getD x 0, (mem _).mpr ⟨rlt x h1, h2⟩, ?_⟩
          rw [getD_at (by omega)]
          exact List.Nodup.idxOf_getElem nr x (by omega)
    obtain ⟨s, hs⟩ := convex_range (l := (List.range n).filter fun j => decide (sh S (r.getD j 0) = k)) (List.pairwise_lt_range.filter _) fun x y z hx hz h1 h2 => by
      rw [List.mem_filter, List.mem_range, decide_eq_true_eq] at *
      refine ⟨by omega, ?_⟩
      rw [cvx x y z h1 h2 hz.1 (by rw [hx.2, hz.2])]
      exact hx.2
    refine ⟨s, ?_⟩
    have hl := pm.length_eq
    rw [List.length_map] at hl
    rw [hl, ← hs]
    exact pm
  · obtain ⟨a1, a2⟩ := (mem a).mp (List.mem_of_getElem? ha)
    obtain ⟨b1, b2⟩ := (mem b).mp (List.mem_of_getElem? hb)
    refine ⟨swap_perm g.rp a1 b1, g.cp, ?_⟩
    have ls : (swapL a b r).length = n := by simpa [swapL] using lr
    have gs : ∀ i, i < n → (swapL a b r).getD i 0 = sw a b (r.getD i 0) := fun i hi => getD_of (by
      unfold swapL
      rw [List.getElem?_map, get_getD (d := 0) (show i < r.length by omega)]
      rfl)
    have slt : ∀ i, i < n → sw a b i < n := fun i hi => by
      unfold sw
      split
      · exact b1
      · split
        · exact a1
        · exact hi
    have ssh : ∀ i, i < n → sh S (sw a b i) = sh S i := fun i hi => by
      unfold sw
      split
      · rename_i h; subst h; rw [a2, b2]
      · split
        · rename_i h; subst h; rw [a2, b2]
        · rfl
    intro i j hij hj x y hxy hy
    have e : ∀ i, i < n → ∀ x, x < m → en (place S (swapL a b r) c) i x = en S (sw a b (r.getD i 0)) (c.getD x 0) := fun i hi x hx => by
      rw [en_place (by omega) (by omega), gs i hi]
    rw [e i (by omega) x (by omega), e j hj y hy, e i (by omega) y hy, e j hj x (by omega)]
    have h0 := g.pw i j hij hj x y hxy hy
    rw [en_ i (by omega) x (by omega), en_ j hj y hy, en_ i (by omega) y hy, en_ j hj x (by omega)] at h0
    have qi := (sh_eq R (slt _ (rlt i (by omega))) (rlt i (by omega))).mp (ssh _ (rlt i (by omega)))
    have qj := (sh_eq R (slt _ (rlt j hj)) (rlt j hj)).mp (ssh _ (rlt j hj))
    have ix := qi _ (clt x (by omega))
    have iy := qi _ (clt y hy)
    have jx := qj _ (clt x (by omega))
    have jy := qj _ (clt y hy)
    omega
theorem mx_small (M : Mixed n m T0 r0 c0) {S : List (List Int)} (hS : S = place (place T0 r0 c0) (List.range (min n 4)) (List.range (min m 5))) :
    Tb (min n 4) (min m 5) S ∧ (∀ p ∈ everyOf (min n 4) (min m 5) S, p.1.length ≤ 1000 ∧ ∀ k ∈ S.map shape, Side p.1 (idxs (S.map shape) k) ∧ ∀ a b, (idxs (S.map shape) k)[0]? = some a → (idxs (S.map shape) k)[(idxs (S.map shape) k).length - 1]? = some b → (swapL a b p.1, p.2) ∈ everyOf (min n 4) (min m 5) S) ∧
    ∀ r ∈ choicesL (min n 4), ∀ c ∈ choicesL (min m 5), 1 < r.length → 1 < c.length → firstOf r.length c.length (place S r c) ≠ none := by
  have n1 := M.n1
  have m1 := M.m1
  have R : Rect (min n 4) (min m 5) S := by
    have h := place_rect (T := place T0 r0 c0) (rows := List.range (min n 4)) (cols := List.range (min m 5))
    rw [List.length_range, List.length_range, ← hS] at h
    exact h
  refine ⟨⟨R, by omega, by omega, by omega, by omega⟩, fun p hp => ?_, fun r hr c hc h1 h2 => ?_⟩
  · have g := mem_every.mp hp
    have lp : p.1.length = min n 4 := by simpa using g.rp.length_eq
    refine ⟨by omega, fun k _ => ?_⟩
    obtain ⟨s1, s2⟩ := like_ok R (by omega) g (k := k)
    exact ⟨s1, fun a b ha hb => mem_every.mpr (s2 a b ha hb)⟩
  · obtain ⟨a1, a2, a3⟩ := choicesL_lt hr
    obtain ⟨b1, b2, b3⟩ := choicesL_lt hc
    have e : place S r c = place (place T0 r0 c0) r c := by
      have en_ : ∀ i ∈ r, ∀ j ∈ c, en S i j = en (place T0 r0 c0) i j := fun i hi j hj => by
        have := a1 i hi
        have := b1 j hj
        rw [hS, en_place (by simp; omega) (by simp; omega), range_getD (by omega), range_getD (by omega)]
      unfold place
      refine List.map_congr_left fun i hi => List.map_congr_left fun j hj => ?_
      exact en_ i hi j hj
    rw [e]
    have hne : ∀ {l : List Nat}, 1 < l.length → l ≠ [] := fun h e => by subst e; simp at h
    exact mx_part M ⟨hne h1, a2, fun x hx => by have := a1 x hx; omega, by omega⟩ ⟨hne h2, b2, fun x hx => by have := b1 x hx; omega, by omega⟩
end
end Mix

namespace Mix
open PySem PySem.Spec L2 RZ DL
open PyProof.Rows (envOfC)
section
variable {P : Program} {w : World} {K : PySem.W.Frag} {mg : Str → Option Value} {base h : Heap}

theorem weak_none : ∀ {δ : Sl} {k : Nat}, δ.length = k → Weak δ (List.replicate k none)
  | [], 0, _ => Weak.refl _
  | s :: δ, k + 1, h => Weak.drop s (weak_none (by simpa using h))
def onlyAt (H : Hp) (a : Addr) : Hp := fun b => if b = a then H b else none
theorem only_at {H : Hp} {a : Addr} : onlyAt H a a = H a := by unfold onlyAt; rw [if_pos rfl]
theorem sqL_only {a : Addr} {H : Hp} {xs : List V} (h : SqL K H a xs) : SqL K (onlyAt H a) a xs := by
  rcases h with (h | ⟨o, h⟩) | h
  · exact .inl (.inl (by rw [only_at]; exact h))
  · exact .inl (.inr ⟨o, by rw [only_at]; exact h⟩)
  · exact .inr h
theorem only_ex {a : Addr} {H : Hp} : Evl.Ex (onlyAt H a) H := fun b o h => by
  unfold onlyAt at h
  by_cases e : b = a
  · rw [if_pos e] at h; exact h
  · rw [if_neg e] at h; cases h
/-- a pure test that says no -/
theorem tf_no {f : Addr} {δ : Sl} {t : TT} {N : Nat} (h : T1 K t δ false) : TF K f t δ N N fun b => b = false := h.tf rfl

theorem sc83 : FnScope ["_law_script", "_law_k", "_law_feed_here", "_law_many", "_law_wide", "_law_rows", "_law_columns", "_law_table", "_law_told", "_law_back", "_law_more", "_law_less", "_law_least", "_law_small", "_law_one_here", "_law_other", "_law_at", "_law_to", "_law_row", "_law_entry"] ["_law_script"] (defScope (top 83)) := ⟨rfl, rfl, rfl, by decide +kernel, rfl, by decide +kernel, by decide +kernel⟩
def spLaw (K : PySem.W.Frag) : Sp := fun vs H Q _ => ∃ (a : Addr) (ns : List Int), vs = [.ref a] ∧ ns.length ≤ 63 ∧ SqL K H a (ns.map V.int) ∧ ∀ H', Q (.bl true) H'
theorem ok_lawF (T : Top K mg h) {f : Addr} {fd : FuncData} (F : FnD K "law" (top 83) f fd) : FnOk P w K mg base CX0 7 f fd ["_law_script"] (spLaw K) := by
  have c__law_feed := ok_law_feed (P := P) (w := w) (base := base) T
  have c__law_draw := ok_law_draw (P := P) (w := w) (base := base) T
  have c__law_mixed := ok_law_mixed (P := P) (w := w) (base := base) T
  have c__law_placed := ok_law_placed (P := P) (w := w) (base := base) T
  have c__law_sized := ok_law_sized (P := P) (w := w) (base := base) T
  have c_first_order := ok_first_order (P := P) (w := w) (base := base) T
  have c_is_straight := ok_is_straight (P := P) (w := w) (base := base) T
  have c_reordered := ok_reordered (P := P) (w := w) (base := base) T
  have c__law_straight := ok_law_straight (P := P) (w := w) (base := base) T
  have c_is_order_for := ok_is_order_for (P := P) (w := w) (base := base) T
  have c_turned := ok_turned (P := P) (w := w) (base := base) T
  have c_lifted := ok_lifted (P := P) (w := w) (base := base) T
  have c_thinned := ok_thinned (P := P) (w := w) (base := base) T
  have c__law_some := ok_law_some (P := P) (w := w) (base := base) T
  have c_firsts := ok_firsts (P := P) (w := w) (base := base) T
  have c__law_blocks_right := ok_law_blocks_right (P := P) (w := w) (base := base) T
  have m_range := T.free 71 "range"
  have m_max := T.free 76 "max"
  have m_min := T.free 75 "min"
  have m_len := T.free 67 "len"
  have m_list := T.free 72 "list"
  have m_tuple := T.free 66 "tuple"
  have m_zip := T.free 70 "zip"
  refine fn_okG F sc83 (fun vs H Q E h => ?_) (fun cdv A outer s H E hr => (pss_cons (ps_for PassesOwn.never rfl (pi_range1 (by rfl) m_range (pa_cons (pe_callB (call_max2 rfl) (by rfl) m_max (by decide +kernel) (pa_cons pe_int (pa_cons (pe_callB (call_min2 rfl) (by rfl) m_min (by decide +kernel) (pa_cons (pe_callB (k_len K) (by rfl) m_len PySem.boot_len (pa_cons (pv 0) pa_nil)) (pa_cons pe_int pa_nil))) pa_nil))) pa_nil)) (pg_name (i := 1) sc83.nd rfl (by first | exact Or.inl rfl | exact Or.inr rfl)) (pss_cons (ps_set (i := 2) sc83.nd rfl (by first | exact Or.inl rfl | exact Or.inr rfl) (C8.pe_c c__law_feed hr (by decide) (by rfl) (pa_cons (pv 0) (pa_cons (pv 1) pa_nil)))) (pss_cons (ps_par (i := 3) (j := 4) rfl sc83.nd rfl rfl (by decide) rfl rfl (pa_cons (pe_op op_add pe_int (C8.pe_c c__law_draw hr (by decide) (by rfl) (pa_cons (pv 2) (pa_cons pe_int pa_nil)))) (pa_cons (pe_op op_add pe_int (C8.pe_c c__law_draw hr (by decide) (by rfl) (pa_cons (pv 2) (pa_cons pe_int pa_nil)))) pa_nil)) (by rfl)) (pss_cons (ps_asg (pe_tupZ (pa_cons (C8.pe_c c__law_mixed hr (by decide) (by rfl) (pa_cons (pv 2) (pa_cons (pe_listRg rfl (by rfl) m_list (prg_1 (by rfl) m_range (pv 3))) pa_nil))) (pa_cons (C8.pe_c c__law_mixed hr (by decide) (by rfl) (pa_cons (pv 2) (pa_cons (pe_listRg rfl (by rfl) m_list (prg_1 (by rfl) m_range (pv 4))) pa_nil))) pa_nil))) (k_tuple K (n := 2) (pgs_cons (pg_name (i := 5) sc83.nd rfl (by first | exact Or.inl rfl | exact Or.inr rfl)) (pgs_cons (pg_name (i := 6) sc83.nd rfl (by first | exact Or.inl rfl | exact Or.inr rfl)) pgs_nil)))) (pss_cons (ps_set (i := 7) sc83.nd rfl (by first | exact Or.inl rfl | exact Or.inr rfl) (C8.pe_c c__law_placed hr (by decide) (by rfl) (pa_cons (C8.pe_c c__law_sized hr (by decide) (by rfl) (pa_cons (pv 2) (pa_cons (pv 3) (pa_cons (pv 4) pa_nil)))) (pa_cons (pv 5) (pa_cons (pv 6) pa_nil))))) (pss_cons (ps_set (i := 8) sc83.nd rfl (by first | exact Or.inl rfl | exact Or.inr rfl) (C8.pe_c c_first_order hr (by decide) (by rfl) (pa_cons (pv 7) pa_nil))) (pss_cons (ps_if (PW.pt (pw_or (pt_cmpR op_isN (pv 8) pe_non (nomark _)) (pw_or (pt_not (pt_val (C8.pe_c c__law_straight hr (by decide) (by rfl) (pa_cons (C8.pe_c c__law_placed hr (by decide) (by rfl) (pa_cons (pv 7) (pa_cons (pe_ix (k_ixT K) (pv 8) pe_int (fun _ _ => rfl)) (pa_cons (pe_ix (k_ixT K) (pv 8) pe_int (fun _ _ => rfl)) pa_nil)))) pa_nil)))) (pw_or1 (pt_cmpR op_notBl (C8.pe_c c_is_straight hr (by decide) (by rfl) (pa_cons (C8.pe_c c_reordered hr (by decide) (by rfl) (pa_cons (pv 7) (pa_cons (pe_ix (k_ixT K) (pv 8) pe_int (fun _ _ => rfl)) (pa_cons (pe_ix (k_ixT K) (pv 8) pe_int (fun _ _ => rfl)) pa_nil)))) pa_nil)) pe_bl (nomark _)))))) (pss_one (ps_ret pe_bl)) pss_nil) (pss_cons (ps_set (i := 9) sc83.nd rfl (by first | exact Or.inl rfl | exact Or.inr rfl) (pe_tupZ (pa_cons (pe_callTy (k_tupZ K) (by rfl) m_tuple (by decide +kernel) (pa_cons (pe_lc (own := [("_law_at", 16)]) rfl sc83.nd (pi_range1 (by rfl) m_range (pa_cons (pv 3) pa_nil)) (blkOk_by (by rfl)) (fun _ _ _ _ _ => (pg_name (i := 16) sc83.nd rfl (by first | exact Or.inl rfl | exact Or.inr rfl))) (fun _ _ _ _ _ => pts_nil) (fun _ _ _ _ _ => (k_bm K PySem.F.plainAttrs_list PySem.F.slot_list_index PySem.F.type_list_index (k_index K) (pv 5) (pa_cons (pv 16) pa_nil)))) pa_nil)) (pa_cons (pe_callTy (k_tupZ K) (by rfl) m_tuple (by decide +kernel) (pa_cons (pe_lc (own := [("_law_to", 17)]) rfl sc83.nd (pi_range1 (by rfl) m_range (pa_cons (pv 4) pa_nil)) (blkOk_by (by rfl)) (fun _ _ _ _ _ => (pg_name (i := 17) sc83.nd rfl (by first | exact Or.inl rfl | exact Or.inr rfl))) (fun _ _ _ _ _ => pts_nil) (fun _ _ _ _ _ => (k_bm K PySem.F.plainAttrs_list PySem.F.slot_list_index PySem.F.type_list_index (k_index K) (pv 6) (pa_cons (pv 17) pa_nil)))) pa_nil)) pa_nil)))) (pss_cons (ps_if (PW.pt (pw_or (pt_cmpR op_notBl (C8.pe_c c_is_order_for hr (by decide) (by rfl) (pa_cons (pv 7) (pa_cons (pe_ix (k_ixT K) (pv 9) pe_int (fun _ _ => rfl)) (pa_cons (pe_ix (k_ixT K) (pv 9) pe_int (fun _ _ => rfl)) pa_nil)))) pe_bl (nomark _)) (pw_or1 (pt_cmpR (k_gtD K (u64 hr)) (pv 8) (pv 9) (nomark _))))) (pss_one (ps_ret pe_bl)) pss_nil) (pss_cons (ps_par (i := 10) (j := 11) rfl sc83.nd rfl rfl (by decide) rfl rfl (pa_cons (pe_callTy (k_tupZ K) (by rfl) m_tuple (by decide +kernel) (pa_cons (pe_lc (own := [("_law_row", 18)]) rfl sc83.nd (k_piT K (pv 7)) (blkOk_by (by rfl)) (fun _ _ _ _ _ => (pg_name (i := 18) sc83.nd rfl (by first | exact Or.inl rfl | exact Or.inr rfl))) (fun _ _ _ _ _ => pts_nil) (fun _ _ _ _ _ => (C8.pe_c c__law_draw hr (by decide) (by rfl) (pa_cons (pv 2) (pa_cons pe_int pa_nil))))) pa_nil)) (pa_cons (pe_callTy (k_tupZ K) (by rfl) m_tuple (by decide +kernel) (pa_cons (pe_lc (own := [("_law_entry", 19)]) rfl sc83.nd (k_piT K (pe_ix (k_ixT K) (pv 7) pe_int (fun _ _ => rfl))) (blkOk_by (by rfl)) (fun _ _ _ _ _ => (pg_name (i := 19) sc83.nd rfl (by first | exact Or.inl rfl | exact Or.inr rfl))) (fun _ _ _ _ _ => pts_nil) (fun _ _ _ _ _ => (pe_op op_sub pe_int (C8.pe_c c__law_draw hr (by decide) (by rfl) (pa_cons (pv 2) (pa_cons (pe_op op_pow pe_int pe_int) pa_nil)))))) pa_nil)) pa_nil)) (by rfl)) (pss_cons (ps_if (PW.pt (pw_or (pt_cmpR (k_neD K (u64 hr)) (C8.pe_c c_first_order hr (by decide) (by rfl) (pa_cons (C8.pe_c c_lifted hr (by decide) (by rfl) (pa_cons (pv 7) (pa_cons (pv 10) (pa_cons (pv 11) pa_nil)))) pa_nil)) (pv 8) (nomark _)) (pw_or1 (pt_cmpR op_notBl (C8.pe_c c_is_order_for hr (by decide) (by rfl) (pa_cons (C8.pe_c c_turned hr (by decide) (by rfl) (pa_cons (pv 7) pa_nil)) (pa_cons (pe_ix (k_ixT K) (pv 8) pe_int (fun _ _ => rfl)) (pa_cons (pe_ix (k_ixT K) (pv 8) pe_int (fun _ _ => rfl)) pa_nil)))) pe_bl (nomark _))))) (pss_one (ps_ret pe_bl)) pss_nil) (pss_cons (ps_if (pt_cmpR op_isN (C8.pe_c c_first_order hr (by decide) (by rfl) (pa_cons (C8.pe_c c_thinned hr (by decide) (by rfl) (pa_cons (pv 7) (pa_cons (C8.pe_c c__law_some hr (by decide) (by rfl) (pa_cons (pv 2) (pa_cons (pv 3) pa_nil))) (pa_cons (C8.pe_c c__law_some hr (by decide) (by rfl) (pa_cons (pv 2) (pa_cons (pv 4) pa_nil))) pa_nil)))) pa_nil)) pe_non (nomark _)) (pss_one (ps_ret pe_bl)) pss_nil) (pss_cons (ps_set (i := 12) sc83.nd rfl (by first | exact Or.inl rfl | exact Or.inr rfl) (C8.pe_c c_firsts hr (by decide) (by rfl) (pa_cons (C8.pe_c c_reordered hr (by decide) (by rfl) (pa_cons (pv 7) (pa_cons (pe_ix (k_ixT K) (pv 8) pe_int (fun _ _ => rfl)) (pa_cons (pe_ix (k_ixT K) (pv 8) pe_int (fun _ _ => rfl)) pa_nil)))) pa_nil))) (pss_cons (ps_if (pt_cmpR (k_neD K (u64 hr)) (pe_lc (own := [("_law_one_here", 14), ("_law_other", 15)]) rfl sc83.nd (k_zip K (by rfl) m_zip (pa_cons (pv 12) (pa_cons (pe_slice (k_slT K) (pv 12) (po_some pe_int) po_none) pa_nil))) (blkOk_by (by rfl)) (fun _ _ _ _ _ => (k_tuple K (n := 2) (pgs_cons (pg_name (i := 14) sc83.nd rfl (by first | exact Or.inl rfl | exact Or.inr rfl)) (pgs_cons (pg_name (i := 15) sc83.nd rfl (by first | exact Or.inl rfl | exact Or.inr rfl)) pgs_nil)))) (fun _ _ _ _ _ => pts_one (pt_cmpR op_gt (pv 14) (pv 15) (nomark _))) (fun _ _ _ _ _ => pe_int)) (pe_lst pa_nil) (nomark _)) (pss_one (ps_ret pe_bl)) pss_nil) (pss_cons (ps_set (i := 13) sc83.nd rfl (by first | exact Or.inl rfl | exact Or.inr rfl) (C8.pe_c c_thinned hr (by decide) (by rfl) (pa_cons (pv 7) (pa_cons (k_tupRgZ rfl (by rfl) m_tuple (prg_1 (by rfl) m_range (pe_callB (call_min2 rfl) (by rfl) m_min (by decide +kernel) (pa_cons (pv 3) (pa_cons pe_int pa_nil))))) (pa_cons (k_tupRgZ rfl (by rfl) m_tuple (prg_1 (by rfl) m_range (pe_callB (call_min2 rfl) (by rfl) m_min (by decide +kernel) (pa_cons (pv 4) (pa_cons pe_int pa_nil))))) pa_nil))))) (pss_one (ps_if (pt_not (pt_val (C8.pe_c c__law_blocks_right hr (by decide) (by rfl) (pa_cons (pv 13) pa_nil)))) (pss_one (ps_ret pe_bl)) pss_nil))))))))))))))))) (pss_one (ps_ret pe_bl)))) (fun vs H Q E h => ?_)
  · obtain ⟨a, ns, rfl, _⟩ := h
    rfl
  obtain ⟨a, ns, rfl, hl, hs, hQ⟩ := h
  have d0 : DrAll K (onlyAt H a) [V.ref a] [.list (ns.map .int)] := .cons (.lst (sqL_only hs) dpAll_ofInts) .nil
  have s0 : SlOk K (onlyAt H a) (L2.start ["_law_script", "_law_k", "_law_feed_here", "_law_many", "_law_wide", "_law_rows", "_law_columns", "_law_table", "_law_told", "_law_back", "_law_more", "_law_less", "_law_least", "_law_small", "_law_one_here", "_law_other", "_law_at", "_law_to", "_law_row", "_law_entry"] [V.ref a]) (startD [.list (ns.map .int)] 19) := SlOk.start d0 19
  have e0 : Evl.Ex (onlyAt H a) H := only_ex
  generalize onlyAt H a = G at d0 s0 e0
  refine (?_ : Sd K _ (startD [.list (ns.map .int)] 19) (fun _ => False) fun d => d = .bool true) _ G H _ s0 e0 (fun _ _ _ _ _ _ z => z.elim) (fun v G2 H2 d x2 d2 hd => by
    subst hd
    cases d2
    exact hQ H2)
  refine sd_for (List.range (max 1 (min ns.length 3))) iD (fun _ => True) (w_rangeN (E1.is (e_cb (a_cons (e_int 1) (a_cons (e_cb (a_cons (e_lenL (n := ns.length) (e_var rfl) (by simp)) (a_cons (e_int 3) a_nil)) cd_min2) a_nil)) cd_max2) ?_) (by omega)) (fun a => g_name 1) trivial (fun i k hk _ => ?_) (fun _ => sd_ret (e_bl true) rfl)
  · congr 1
    split <;> split at * <;> omega
  have hk : k ≤ 1000 := by have := List.mem_of_getElem? hk; simp at this; omega
  refine sd_feed (ns, k) (a_cons (e_var rfl) (a_cons (e_var rfl) a_nil)) ⟨by dsimp only; omega, hk⟩ fun f => ?_
  have six : ∀ {δ : Sl} {E : _} {n : Nat}, δ[2]? = some (some (.r (.ref f))) → n + 1 ≤ 100000 → EF K f (tOp (rI0 fun i j => .int (i + j)) (tC (.int 1)) (tCall (sp_law_draw K) [] E (tCons (tVar 2) (tCons (tC (.int 6)) tNil)))) δ n (n + 1) fun d => ∃ k : Nat, d = iD k ∧ 1 ≤ k ∧ k ≤ 6 := fun h2 hn =>
    ef_op (E1.ef (P := fun d => d = .int 1) (e_int 1) rfl) (ef_callF (k := 2) (c := 1) (P := fun ds => ds = [.int 6]) h2 (A1.af (a_cons (e_int 6) a_nil) rfl) (fun ds h => ⟨_, h, by decide, Nat.le_refl _, fun d h => h⟩) hn) (by
      rintro x y rfl ⟨r, rfl, r0, r1⟩
      refine ⟨_, rd_add, (1 + r).toNat, ?_, by omega, by omega⟩
      unfold iD
      rw [Int.toNat_of_nonneg (by omega)])
  refine sf_par (M := 2) (P := fun x y => ∃ n m : Nat, x = iD n ∧ y = iD m ∧ (1 ≤ n ∧ n ≤ 6) ∧ 1 ≤ m ∧ m ≤ 6) (af_cons (six rfl (by omega)) (af_cons (P2 := fun ds => ds = []) (P3 := fun ds => ∃ m : Nat, ds = [iD m] ∧ 1 ≤ m ∧ m ≤ 6) (six rfl (by omega)) (af_nil rfl) ?_) ?_) ?_
  · rintro d ds ⟨m, rfl, h⟩ rfl
    exact ⟨m, rfl, h⟩
  · rintro d ds ⟨n, rfl, h⟩ ⟨m, rfl, h2⟩
    exact ⟨_, _, rfl, n, m, rfl, rfl, h, h2⟩
  rintro x y ⟨n, m, rfl, rfl, ⟨n1, n6⟩, m1, m6⟩
  refine sf_pair (M := 20) (P := fun x y => ∃ r0 c0 : List Nat, x = .list (r0.map iD) ∧ y = .list (c0.map iD) ∧ r0.Perm (List.range n) ∧ c0.Perm (List.range m)) (EF.mono (ef_tupZ (M := 2 + 6 + 6) (P := fun ds => ∃ r0 c0 : List Nat, ds = [.list (r0.map iD), .list (c0.map iD)] ∧ r0.Perm (List.range n) ∧ c0.Perm (List.range m)) (af_cons (P1 := fun d => ∃ p : List Nat, p.Perm (List.range n) ∧ d = .list (p.map iD)) (P2 := fun ds => ∃ p : List Nat, ds = [.list (p.map iD)] ∧ p.Perm (List.range m))
    (ef_callF (k := 2) (c := 6) (P := fun ds => ds = [.list ((List.range n).map iD)]) rfl (A1.af (a_cons (e_listRg (e_var rfl) (by omega)) a_nil) rfl) (fun ds h => ⟨_, h, n6, n6, fun d h => h⟩) (by omega))
    (af_cons (P1 := fun d => ∃ p : List Nat, p.Perm (List.range m) ∧ d = .list (p.map iD)) (P2 := fun ds => ds = []) (ef_callF (k := 2) (c := 6) (P := fun ds => ds = [.list ((List.range m).map iD)]) rfl (A1.af (a_cons (e_listRg (e_var rfl) (by omega)) a_nil) rfl) (fun ds h => ⟨_, h, m6, m6, fun d h => h⟩) (by omega)) (af_nil rfl) ?_) ?_) ?_) ?_ (by omega)) ?_
  · rintro d ds ⟨p, h, rfl⟩ rfl
    exact ⟨p, rfl, h⟩
  · rintro d ds ⟨p, h, rfl⟩ ⟨p2, rfl, h2⟩
    exact ⟨p, p2, rfl, h, h2⟩
  · rintro ds ⟨p, p2, rfl, _⟩
    simp
  · rintro d ⟨ds, rfl, p, p2, rfl, h⟩
    exact ⟨_, _, rfl, p, p2, rfl, rfl, h⟩
  rintro x y ⟨r0, c0, rfl, rfl, rp, cp⟩
  have lr0 : r0.length = n := by have := rp.length_eq; simpa using this
  have lc0 : c0.length = m := by have := cp.length_eq; simpa using this
  refine sf_set (M := 120) (P := fun d => ∃ T0, Mixed n m T0 r0 c0 ∧ d = tab (place T0 r0 c0)) (ef_call (P := fun ds => ∃ T0, (Tb n m T0 ∧ PW n m T0) ∧ ds = [tab T0, .list (r0.map iD), .list (c0.map iD)]) (af_cons (P1 := fun d => ∃ T, Tb n m T ∧ PW n m T ∧ d = tab T) (P2 := fun ds => ds = [.list (r0.map iD), .list (c0.map iD)])
    (ef_callF (k := 2) (c := 100) (P := fun ds => ds = [iD n, iD m]) rfl (A1.af (a_cons (e_var rfl) (a_cons (e_var rfl) a_nil)) rfl) (fun ds h => ⟨(n, m), h, ⟨n1, n6, m1, m6⟩, Nat.le_refl _, fun d h => h⟩) (by omega)) (A1.af (a_cons (e_var rfl) (a_cons (e_var rfl) a_nil)) rfl) ?_) ?_) ?_
  · rintro d ds ⟨T0, h1, h2, rfl⟩ rfl
    exact ⟨T0, ⟨h1, h2⟩, rfl⟩
  · rintro ds ⟨T0, ⟨h1, h2⟩, rfl⟩
    refine ⟨(T0, r0, c0, .list (r0.map iD), .list (c0.map iD)), rfl, ⟨⟨n, m, h1.toRect, fun x hx => by simpa using rp.mem_iff.mp hx, fun x hx => by simpa using cp.mem_iff.mp hx, by dsimp only; omega, by dsimp only; omega⟩, .inl rfl, .inl rfl⟩, ?_⟩
    rintro d rfl
    exact ⟨T0, ⟨n1, n6, m1, m6, h1, h2, rp, cp⟩, rfl⟩
  rintro d ⟨T0, M, rfl⟩
  have W := mx_tb M
  obtain ⟨r, c, hfo, gd, hlt⟩ := mx_first M
  obtain ⟨b1, b2, b3⟩ := mx_back M
  have hpart : ∀ {s t : List Nat}, Part n s → Part m t → firstOf s.length t.length (place (place T0 r0 c0) s t) ≠ none := fun hs ht => mx_part M hs ht
  have hsmall := mx_small M rfl
  generalize place T0 r0 c0 = T at W hfo gd b3 hpart hsmall ⊢
  clear M
  have gtb := gd_tb W gd
  have lr : r.length = n := by have := gd.rp.length_eq; simpa using this
  have lc : c.length = m := by have := gd.cp.length_eq; simpa using this
  -- told
  refine sf_set (P := fun d => d = pairD (r, c)) (E1.ef (E1.is (e_call (res := fun i : Nat × Nat × List (List Int) => oP (firstOf i.1 i.2.1 i.2.2)) (n, m, T) (a_cons (e_var rfl) a_nil) ⟨W, n6, m6⟩) (by dsimp only; rw [hfo]; rfl)) rfl) ?_
  rintro d rfl
  have told0 : ∀ {δ : Sl}, δ[8]? = some (some (.d (pairD (r, c)))) → E1 K (tOp (rIxT K) (tVar 8) (tC (.int 0))) δ (nT r) := fun h => e_op (e_var h) (e_int 0) (rd_ixT rfl)
  have told1 : ∀ {δ : Sl}, δ[8]? = some (some (.d (pairD (r, c)))) → E1 K (tOp (rIxT K) (tVar 8) (tC (.int 1))) δ (nT c) := fun h => e_op (e_var h) (e_int 1) (rd_ixT rfl)
  have cre : ∀ {δ : Sl} {E : _}, δ[7]? = some (some (.d (tab T))) → δ[8]? = some (some (.d (pairD (r, c)))) → E1 K (tCall (sp_reordered K) [] E (tCons (tVar 7) (tCons (tOp (rIxT K) (tVar 8) (tC (.int 0))) (tCons (tOp (rIxT K) (tVar 8) (tC (.int 1))) tNil)))) δ (tab (place T r c)) := fun h7 h8 =>
    e_call (res := fun i : Nat × Nat × List (List Int) × List Nat × List Nat => tab (place i.2.2.1 i.2.2.2.1 i.2.2.2.2)) (n, m, T, r, c) (a_cons (e_var h7) (a_cons (told0 h8) (a_cons (told1 h8) a_nil))) ⟨W, gd.rp, gd.cp⟩
  refine sf_skip (tf_no (t_or (a := false) (b := false) (t_test (e_op (e_var rfl) e_non (rd_isN (x := pairD (r, c))))) fun _ => t_or (a := false) (b := false) (T1.is (t_not (t_B (e_call (res := fun _ : Nat × Nat × List (List Int) => .bool true) (n, m, place T r c) (a_cons (e_call (res := fun i : List (List Int) × List Nat × List Nat × Dat × Dat => tab (place i.1 i.2.1 i.2.2.1)) (T, r, c, nT r, nT c) (a_cons (e_var rfl) (a_cons (told0 rfl) (a_cons (told1 rfl) a_nil))) ⟨⟨n, m, W.toRect, fun x hx => by simpa using gd.rp.mem_iff.mp hx, fun x hx => by simpa using gd.cp.mem_iff.mp hx, by dsimp only; omega, by dsimp only; omega⟩, .inr rfl, .inr rfl⟩) a_nil) ⟨gtb, gd.pw⟩))) rfl) fun _ => T1.is (t_test (e_op (e_call (res := fun _ : Nat × Nat × List (List Int) => .bool true) (n, m, place T r c) (a_cons (cre rfl rfl) a_nil) ⟨gtb, pw_gains gtb gd.pw⟩) (e_bl true) rd_notB)) rfl)) ?_
  -- back
  have hinv : ∀ {δ : Sl} {q : List Nat} {k j : Nat} {i : Nat}, q.Perm (List.range k) → k ≤ 6 → δ[i]? = some (some (.d (.list (q.map iD)))) → ∀ kk, (wipeD δ [j])[i]? = δ[i]? → ((wipeD δ [j]).set j (some (.d (iD kk))))[i]? = δ[i]? → ((wipeD δ [j]).set j (some (.d (iD kk))))[j]? = some (some (.d (iD kk))) → kk < k → E1 K (tBM K "list" (rIndex K) (tVar i) (tCons (tVar j) tNil)) ((wipeD δ [j]).set j (some (.d (iD kk)))) (iD (q.idxOf kk)) := fun hq hk6 h1 kk h2 h3 h4 hlt => by
    refine E1.is (e_idxL (ns := _) (k := (kk : Int)) (E1.is (e_var (h3.trans h1)) (by rw [map_iD])) (a_cons (e_var h4) a_nil) (List.mem_map.mpr ⟨kk, hq.mem_iff.mpr (by simpa using hlt), rfl⟩)) ?_
    rw [idxOf_cast]
    rfl
  refine sf_set (P := fun d => d = pairD (inv n r0, inv m c0)) (E1.ef (e_tupZ (a_cons (E1.is (x := nT (inv n r0)) (e_cb (a_cons (e_lcm (List.range n) iD (w_rangeN (e_var rfl) (by omega)) (fun a => g_name 16) (by simp) (f := fun k => iD (r0.idxOf k)) (fun k hk => hinv rp n6 rfl k rfl rfl rfl (by simpa using hk)) (by simp; omega)) a_nil) cd_tupZ) (by simp [nT, inv])) (a_cons (E1.is (x := nT (inv m c0)) (e_cb (a_cons (e_lcm (List.range m) iD (w_rangeN (e_var rfl) (by omega)) (fun a => g_name 17) (by simp) (f := fun k => iD (c0.idxOf k)) (fun k hk => hinv cp m6 rfl k rfl rfl rfl (by simpa using hk)) (by simp; omega)) a_nil) cd_tupZ) (by simp [nT, inv])) a_nil))) rfl) ?_
  rintro d rfl
  have back0 : ∀ {δ : Sl}, δ[9]? = some (some (.d (pairD (inv n r0, inv m c0)))) → E1 K (tOp (rIxT K) (tVar 9) (tC (.int 0))) δ (nT (inv n r0)) := fun h => e_op (e_var h) (e_int 0) (rd_ixT rfl)
  have back1 : ∀ {δ : Sl}, δ[9]? = some (some (.d (pairD (inv n r0, inv m c0)))) → E1 K (tOp (rIxT K) (tVar 9) (tC (.int 1))) δ (nT (inv m c0)) := fun h => e_op (e_var h) (e_int 1) (rd_ixT rfl)
  refine sf_skip (tf_no (t_or (a := false) (b := false) (T1.is (t_test (e_op (E1.is (x := .bool true) (e_call (res := fun i : Nat × Nat × List (List Int) × List Nat × List Nat => .bool (plainB i.1 i.2.1 (place i.2.2.1 i.2.2.2.1 i.2.2.2.2))) (n, m, T, inv n r0, inv m c0) (a_cons (e_var rfl) (a_cons (back0 rfl) (a_cons (back1 rfl) a_nil))) ⟨W, b1, b2⟩) (by dsimp only; rw [b3])) (e_bl true) rd_notB)) rfl) fun _ => T1.is (t_test (e_op (e_var rfl) (e_var rfl) (rd_gtD (x := pairD (r, c)) (y := pairD (inv n r0, inv m c0)) (alike_pair _ _) (pair_nn _) (depth_pair _)))) hlt)) ?_
  -- more, less
  have hT0 : (T.getD 0 []).length = m := row_len W.toRect W.n1
  refine sf_par (M := 140) (P := fun x y => ∃ more less : List Int, x = zT more ∧ y = zT less ∧ more.length = n ∧ less.length = m) (af_cons (M := 130) (P1 := fun d => ∃ l : List Int, d = zT l ∧ l.length = n) (P2 := fun ds => ∃ l : List Int, ds = [zT l] ∧ l.length = m)
    (ef_cb (P := fun ds => ∃ l : List Int, ds = [.list (l.map .int)] ∧ l.length = n) (af_cons (P1 := fun d => ∃ l : List Int, d = .list (l.map .int) ∧ l.length = n) (P2 := fun ds => ds = []) (EF.mono (ef_lcm 1 T zT (fun _ d => ∃ b : Int, d = .int b ∧ True) (w_tup (e_var rfl)) (fun a => g_name 18) (by simp) (fun a _ k2 hk2 => EF.mono (ef_callF (k := 2) (c := 1) (P := fun ds => ds = [.int 99]) rfl (A1.af (a_cons (e_int 99) a_nil) rfl) (fun ds h => ⟨_, h, by decide, Nat.le_refl _, fun d h => h⟩) hk2) (by rintro d ⟨b, rfl, _⟩; exact ⟨b, rfl, trivial⟩) (Nat.le_refl _)) (by rw [W.rows]; omega) (by rw [W.rows]; omega)) ?_ (by rw [W.rows]; omega)) (af_nil rfl) ?_) ?_)
    (af_cons (P1 := fun d => ∃ l : List Int, d = zT l ∧ l.length = m) (P2 := fun ds => ds = []) (ef_cb (P := fun ds => ∃ l : List Int, ds = [.list (l.map .int)] ∧ l.length = m) (af_cons (P1 := fun d => ∃ l : List Int, d = .list (l.map .int) ∧ l.length = m) (P2 := fun ds => ds = []) (EF.mono (ef_lcm 1 (T.getD 0 []) Dat.int (fun _ d => ∃ b : Int, d = .int b ∧ True) (w_tup (e_op (e_var rfl) (e_int 0) (rd_ixT (at_tab W.toRect (r := 0) W.n1)))) (fun a => g_name 19) (by simp) (fun a _ k2 hk2 => ef_op (E1.ef (P := fun d => d = .int 0) (e_int 0) rfl) (ef_callF (k := 2) (c := 1) (P := fun ds => ds = [.int (10 ^ 9)]) rfl (A1.af (a_cons (e_op (e_int 10) (e_int 9) (rd_pow (cpow (by decide)))) a_nil) rfl) (fun ds h => ⟨_, h, by decide, Nat.le_refl _, fun d h => h⟩) hk2) ?_) (by rw [hT0]; omega) (by rw [hT0]; omega)) ?_ (by rw [hT0]; omega)) (af_nil rfl) ?_) ?_) (af_nil rfl) ?_) ?_) ?_
  · rintro d ⟨ds, rfl, ea⟩
    obtain ⟨l, rfl, hl, _⟩ := each_of ea
    exact ⟨l, rfl, by rw [hl, W.rows]⟩
  · rintro d ds ⟨l, rfl, h⟩ rfl
    exact ⟨l, rfl, h⟩
  · rintro ds ⟨l, rfl, h⟩
    exact cd_tupZ.cr ⟨l, rfl, h⟩
  · rintro x y rfl ⟨b, rfl, _⟩
    exact ⟨_, rd_sub, _, rfl, trivial⟩
  · rintro d ⟨ds, rfl, ea⟩
    obtain ⟨l, rfl, hl, _⟩ := each_of ea
    exact ⟨l, rfl, by rw [hl, hT0]⟩
  · rintro d ds ⟨l, rfl, h⟩ rfl
    exact ⟨l, rfl, h⟩
  · rintro ds ⟨l, rfl, h⟩
    exact cd_tupZ.cr ⟨l, rfl, h⟩
  · rintro d ds ⟨l, rfl, h⟩ rfl
    exact ⟨l, rfl, h⟩
  · rintro d ds ⟨l, rfl, h⟩ ⟨l2, rfl, h2⟩
    exact ⟨_, _, rfl, l, l2, rfl, rfl, h, h2⟩
  rintro x y ⟨more, less, rfl, rfl, lmore, lless⟩
  have ltb := lift_tb W lmore lless
  have lfo := lift_first W n6 lmore lless
  refine sf_skip (tf_no (t_or (a := false) (b := false) (T1.is (t_test (e_op (E1.is (x := pairD (r, c)) (e_call (res := fun i : Nat × Nat × List (List Int) => oP (firstOf i.1 i.2.1 i.2.2)) (n, m, liftT T more less) (a_cons (e_call (res := fun i : Nat × Nat × List (List Int) × List Int × List Int => tab (liftT i.2.2.1 i.2.2.2.1 i.2.2.2.2)) (n, m, T, more, less) (a_cons (e_var rfl) (a_cons (e_var rfl) (a_cons (e_var rfl) a_nil))) ⟨W, lmore, lless⟩) a_nil) ⟨ltb, n6, m6⟩) (by dsimp only; rw [lfo, hfo]; rfl)) (e_var rfl) (rd_neD (shaped_pair _) (shaped_pair _)))) (by rw [eqv_self_pair]; rfl)) fun _ =>
    T1.is (t_test (e_op (E1.is (x := .bool true) (e_call (res := fun i : Nat × Nat × List (List Int) × List Nat × List Nat => .bool (plainB i.1 i.2.1 (place i.2.2.1 i.2.2.2.1 i.2.2.2.2))) (m, n, turnT m T, c, r) (a_cons (e_call (res := fun i : Nat × Nat × List (List Int) => tab (turnT i.2.1 i.2.2)) (n, m, T) (a_cons (e_var rfl) a_nil) W) (a_cons (told1 rfl) (a_cons (told0 rfl) a_nil))) ⟨turn_tb W, gd.cp, gd.rp⟩) (by dsimp only; rw [gd_turn W gd])) (e_bl true) rd_notB)) rfl)) ?_
  -- parts
  refine sf_skip (M := 160) (tf_test (EF.mono (ef_op (P := fun d => ∃ p, d = pairD p) (P'' := fun d => ∃ b, d = .bool b ∧ b = false) (ef_call (P := fun ds => ∃ s t, Part n s ∧ Part m t ∧ ds = [tab (place T s t)]) (af_cons (P1 := fun d => ∃ s t, Part n s ∧ Part m t ∧ d = tab (place T s t)) (P2 := fun ds => ds = []) (ef_call (P := fun ds => ∃ s t, Part n s ∧ Part m t ∧ ds = [tab T, nT s, nT t]) (af_cons (P1 := fun d => d = tab T) (P2 := fun ds => ∃ s t, Part n s ∧ Part m t ∧ ds = [nT s, nT t]) (E1.ef (e_var rfl) rfl)
    (af_cons (P1 := fun d => ∃ s, Part n s ∧ d = nT s) (P2 := fun ds => ∃ t, Part m t ∧ ds = [nT t]) (ef_callF (k := 2) (c := 7) (P := fun ds => ds = [iD n]) rfl (A1.af (a_cons (e_var rfl) a_nil) rfl) (fun ds h => ⟨n, h, ⟨n1, by omega⟩, show n + 1 ≤ 7 by omega, ?_⟩) (by omega)) (af_cons (P1 := fun d => ∃ t, Part m t ∧ d = nT t) (P2 := fun ds => ds = []) (ef_callF (k := 2) (c := 7) (P := fun ds => ds = [iD m]) rfl (A1.af (a_cons (e_var rfl) a_nil) rfl) (fun ds h => ⟨m, h, ⟨m1, by omega⟩, show m + 1 ≤ 7 by omega, ?_⟩) (by omega)) (af_nil rfl) ?_) ?_) ?_) ?_) (af_nil rfl) ?_) ?_) (E1.ef (P := fun d => d = .none) e_non rfl) ?_) (fun _ h => h) (by omega))) ?_
  · rintro d ⟨s, rfl, h1, h2, h3, h4⟩
    exact ⟨s, ⟨h1, h2, h3, h4⟩, rfl⟩
  · rintro d ⟨s, rfl, h1, h2, h3, h4⟩
    exact ⟨s, ⟨h1, h2, h3, h4⟩, rfl⟩
  · rintro d ds ⟨t, h, rfl⟩ rfl
    exact ⟨t, h, rfl⟩
  · rintro d ds ⟨s, h, rfl⟩ ⟨t, h2, rfl⟩
    exact ⟨s, t, h, h2, rfl⟩
  · rintro d ds rfl ⟨s, t, h, h2, rfl⟩
    exact ⟨s, t, h, h2, rfl⟩
  · rintro ds ⟨s, t, hs, ht, rfl⟩
    refine ⟨(n, m, T, s, t), rfl, ⟨W, ⟨List.length_pos_iff.mpr hs.1, hs.2.2.2, hs.2.2.1, hs.2.1⟩, ⟨List.length_pos_iff.mpr ht.1, ht.2.2.2, ht.2.2.1, ht.2.1⟩⟩, ?_⟩
    rintro d rfl
    exact ⟨s, t, hs, ht, rfl⟩
  · rintro d ds ⟨s, t, hs, ht, rfl⟩ rfl
    exact ⟨s, t, hs, ht, rfl⟩
  · rintro ds ⟨s, t, hs, ht, rfl⟩
    have q1 := hs.2.2.2
    have q2 := ht.2.2.2
    refine ⟨(s.length, t.length, place T s t), rfl, ⟨⟨place_rect, List.length_pos_iff.mpr hs.1, by dsimp only; omega, List.length_pos_iff.mpr ht.1, by dsimp only; omega⟩, by dsimp only; omega, by dsimp only; omega⟩, ?_⟩
    rintro d rfl
    dsimp only
    cases hf : firstOf s.length t.length (place T s t) with
    | none => exact absurd hf (hpart hs ht)
    | some p => exact ⟨p, rfl⟩
  · rintro x y ⟨p, rfl⟩ rfl
    exact ⟨_, rd_isN, _, rfl, rfl⟩
  -- firsts
  refine sf_set (P := fun d => d = nT (leastL (place T r c))) (E1.ef (e_call (res := fun i : Nat × Nat × List (List Int) => nT (i.2.2.map fun row => row.idxOf (minL row))) (n, m, place T r c) (a_cons (cre rfl rfl) a_nil) gtb) rfl) ?_
  rintro d rfl
  have hle := pw_least gtb gd.pw
  have lle : (leastL (place T r c)).length ≤ 8 := by
    unfold leastL
    rw [List.length_map, gtb.rows]
    omega
  generalize leastL (place T r c) = least at hle lle ⊢
  have ef : (least.zip (least.drop 1)).filter (fun _ => false) = [] := by simp
  refine sf_skip (tf_no (T1.is (t_test (e_op (E1.is (x := .list []) (e_lcG (least.zip (least.drop 1)) (fun p => .tuple .p [iD p.1, iD p.2]) _ (fun _ => false) (fun _ => .int 1) (zip_tail least iD ▸ w_zipT (a_cons (e_var rfl) (a_cons (e_sl (e_var rfl) (o_some (e_int 1)) o_no sl_t) a_nil))) (fun a => g_tup2) (by simp)
    (fun p hp => T1.is (t_test (e_op (e_var rfl) (e_var rfl) rd_gt)) (decide_eq_false (by have := hle p hp; omega))) (fun p hp z => nomatch z) (Nat.le_trans (zip_len_le _) (by omega))) (by rw [ef]; rfl)) (e_lst a_nil) (rd_neD (x := .list []) (y := .list []) rfl rfl))) rfl)) ?_
  -- small
  have emin : ∀ (a b : Nat), Dat.int (if ((b : Nat) : Int) < ((a : Nat) : Int) then ((b : Nat) : Int) else ((a : Nat) : Int)) = .int ((min a b : Nat) : Int) := fun a b => by
    congr 1
    split <;> omega
  have prt : ∀ a b : Nat, 1 ≤ a → 1 ≤ b → 1 ≤ (List.range (min a b)).length ∧ (List.range (min a b)).length ≤ a ∧ (∀ x ∈ List.range (min a b), x < a) ∧ (List.range (min a b)).Pairwise (· < ·) := fun a b h1 h2 => by
    rw [List.length_range]
    refine ⟨by omega, by omega, fun x hx => ?_, List.pairwise_lt_range⟩
    have : x < min a b := by simpa using hx
    omega
  refine sf_set (P := fun d => d = tab (place T (List.range (min n 4)) (List.range (min m 5)))) (E1.ef (e_call (res := fun i : Nat × Nat × List (List Int) × List Nat × List Nat => tab (place i.2.2.1 i.2.2.2.1 i.2.2.2.2)) (n, m, T, List.range (min n 4), List.range (min m 5)) (a_cons (e_var rfl) (a_cons (e_tupRg (n := min n 4) (E1.is (e_cb (a_cons (e_var rfl) (a_cons (e_int 4) a_nil)) cd_min2) (emin n 4)) (by omega)) (a_cons (e_tupRg (n := min m 5) (E1.is (e_cb (a_cons (e_var rfl) (a_cons (e_int 5) a_nil)) cd_min2) (emin m 5)) (by omega)) a_nil)))
    ⟨W, prt n 4 n1 (by decide), prt m 5 m1 (by decide)⟩) rfl) ?_
  rintro d rfl
  obtain ⟨sm1, sm2, sm3⟩ := hsmall
  exact sf_need (tf_no (T1.is (t_not (t_B (e_call (res := fun _ : Nat × Nat × List (List Int) => .bool true) (min n 4, min m 5, place T (List.range (min n 4)) (List.range (min m 5))) (a_cons (e_var rfl) a_nil) ⟨sm1, by dsimp only; omega, by dsimp only; omega, sm2, sm3⟩))) rfl)) ⟨trivial, .cons _ (weak_none rfl)⟩

end
end Mix

namespace Mix
open PySem PySem.Spec PyProof.Rows L2 DL
theorem facts {P : Program} {w : World} {K : PySem.W.Frag} {h : Heap} {mg : Str → Option Value} {f : Addr} (X : K.In h) (G : h.Ns mainGlobals mg) (hfa : mg ("law" : Str) = some (.ref f)) (c : He.SaysD fa fn K) :
    ∃ fd : FuncData, (∀ (s : Shared) (v : Value), BindsTo s fd ⟨[v], []⟩ [("_law_script", v)]) ∧ ∀ base : Heap, K.In base → base.Ns mainGlobals mg → FnOk P w K mg base CX0 7 f fd ["_law_script"] (spLaw K) := by
  have T : Top K mg h := ⟨X, G, c⟩
  obtain ⟨fd, F⟩ := c.def_ 62 (d := dd83) rfl
  have e := hfa.symm.trans (He.glo_ok X G (c.fact 62 (f := .glo "law") rfl))
  cases e
  have b := FunD.bindsA (ps := ["_law_script"]) F fun _ _ _ _ _ _ us hl => match us, hl with | [_], _ => rfl
  exact ⟨fd, fun s v => b s [v] rfl, fun base _ _ => ok_lawF T F⟩
end Mix
open PySem PySem.W PySem.Calls PyProof.Rows
theorem PySem.Challenge.cw_straightleast_k45_whole_mixed_tables_str_holds : PySem.Challenge.rw_straightleast_k45_whole_mixed_tables_str.Holds := by
  w_on; o_law
  refine HandSHeadRun.head_any (r := OpenLaw.row PySem.Challenge.rw_straightleast_k45_whole_mixed_tables_str) (q := view (OpenLaw.row PySem.Challenge.rw_straightleast_k45_whole_mixed_tables_str).prog [83]) (H := Mix.hk) (ob := Mix.ob) (M := 6000) (loose := Mix.lo) (d := HandSHeadRun.topDef (OpenLaw.row PySem.Challenge.rw_straightleast_k45_whole_mixed_tables_str).prog 83) (kwd := []) Mix.ob_eq
    (by kernel_rfl) (fun s => by kernel_rfl) Mix.run (by kernel_rfl) (by kernel_rfl) (by kernel_rfl) (by rfl) (by first | assumption | decide +kernel) (by decide +kernel) ⟨rfl, rfl, rfl, rfl, rfl, by decide +kernel⟩ ?hw ?hc
  case hw => w_witness2
  case hc =>
    refine L2.walk_ofE (l := PySem.Challenge.rw_straightleast_k45_whole_mixed_tables_str) (n := 63) (k := 7) (x := "_law_script") (CX := L2.CX0) rfl (by decide) (by kernel_rfl) ⟨rfl, by decide, by decide⟩ ?F (fun _ _ _ _ z => z)
    intro w mg fa h Y G hmg0
    obtain ⟨K, KX, c⟩ := Y
    have hmg : mg ("law" : PySem.Str) = some (.ref fa) := by
      have e : (HandSHeadRun.topDef (OpenLaw.row PySem.Challenge.rw_straightleast_k45_whole_mixed_tables_str).prog 83).name = ("law" : PySem.Str) := by kernel_rfl
      rw [← e]
      exact hmg0
    obtain ⟨fd, hb, hF⟩ := Mix.facts (P := (PySem.Challenge.rw_straightleast_k45_whole_mixed_tables_str).prog) (w := w) KX G hmg c
    exact ⟨K, fd, Mix.spLaw K, KX, hb, fun H a ns hl _ hS => ⟨a, ns, rfl, hl, hS, fun _ => rfl⟩, hF⟩

