import PyProof.Rows.All
import Wide.All
import OpenK.AllK
import Wide.FinOn
import HandS.ForMost
import HandS.Exc
import HandS.ExcOwn
import HandS.WordsExc
import HandS.Walk
import HandS.Flow
import HandS.IsInst
import HandS.TupAny
import HandS.TupMul
import HandS.Wide
import HandS.Lambda
import HandS.ExcCtx
import HandS.ExcValue
import HandS.Hot
import HandS.HotCalls
import HandS.ExcIs
import HandS.Deep
import HandS.HeadHook4
import HandS.HeadWalk
import HandS.Head0
import HandS.Head1
import HandS.Head2
import HandS.HeadEnd
import PyProof.SumWalkG
import PyProof.CompFree
import KE.KDictKeyed
import HandS.TupLe
import KE.DataMinMax
import HandS.Replace
import HandS.RaiseMore
import HandS.SetFor
import HandS.Strs
import HandS.Dict
import HandS.Zip
import KE.SortData
import HandS.Style
import KE.KDictDisplayH
import PyProof.DictTable
import HandS.More
import HandS.DeepEq
import HandS.SetTxt0
import HandS.DictEq
import PySem.Challenge.RW_makeranges_k92_houses_refused
set_option Elab.async false
set_option linter.all false
set_option maxRecDepth 100000
set_option maxHeartbeats 2000000
set_option maxHeartbeats 4000000
namespace Mk
open PySem PySem.Spec PyProof.Rows L2 HotX L2H LamX
def topS (i : Nat) : Stmt := PySem.Challenge.pw_makeranges_k92_houses_refused.main.body.getD i (.Pass ⟨0, 0, 0, 0⟩)
def fa0 : List He.Fa := [.free "ValueError", .free "all", .free "any", .free "bool", .free "dict", .free "enumerate", .free "int", .free "isinstance", .free "len", .free "list", .free "max", .free "min", .free "range", .free "set", .free "sorted", .free "str", .free "sum", .free "tuple", .free "zip", .str "DRAFTS" "abc", .int "FINAL" 300, .glo "LEAST", .int "MANY" 301000000000, .int "MOST" 999, .int "MOST_DRAFT" 99, .int "MOST_MAKES" 4, .int "MOST_NAME" 4, .int "MOST_NAMES" 4, .int "MOST_ROWS" 20, .int "MOST_WORDS" 6, .glo "SIGNS", .str "SMALL" "abcdefghijklmnopqrstuvwxyz", .glo "BadRange", .exc "BadRange", .glo "BadShelf", .exc "BadShelf", .glo "Barred", .exc "Barred", .glo "Nothing", .exc "Nothing"]
def fa1 : List He.Fa := [.glo "is_count", .glo "is_draft", .glo "is_make", .glo "rank_of", .glo "make_of", .glo "is_span", .glo "is_range", .glo "need_range", .glo "ranked", .glo "tidied", .glo "every", .glo "need_two", .glo "met_of", .glo "met", .glo "turned_out_of", .glo "turned_out", .glo "has", .glo "is_word", .glo "is_wish", .glo "ends_of", .glo "kept", .glo "last_of", .glo "word_range", .glo "row_range", .glo "drafts_named", .glo "does", .glo "is_name", .glo "are_wants", .glo "is_row", .glo "need_shelf", .glo "look", .glo "needs_of", .glo "holds", .glo "is_set", .glo "sets", .glo "with_one", .glo "chosen", .glo "need_lock", .glo "changes_of", .glo "relocked"]
def fa2 : List He.Fa := [.glo "raised_to", .glo "copied", .glo "_law_cell", .glo "_law_drawn", .glo "_law_word", .glo "_law_small", .glo "_law_full_right", .glo "law", .cls "House", .noat "House" "drafts", .noat "House" "now", .noat "House" "past", .noat "House" "ahead", .glo "House", .mkr "House", .meth "House" "become", .meth "House" "locked_by", .meth "House" "want", .meth "House" "unwant", .meth "House" "bring", .meth "House" "take", .meth "House" "raise_one", .meth "House" "raise_all", .meth "House" "undo", .meth "House" "redo", .meth "House" "shelf", .meth "House" "wants", .meth "House" "lock", .meth "House" "is_best", .glo "_law_told", .glo "MakeError", .glo "BadKind", .glo "BadMake", .glo "BadNumber", .glo "BadText", .glo "BadWish", .glo "NoMake"]
def faL : List He.Fa := fa0 ++ fa1 ++ fa2
def fn0 : List He.DefD := [⟨("is_count", none), "is_count", "is_count", defArgs (topS 18), defBody (topS 18), defScope (topS 18), [], []⟩,
  ⟨("is_draft", none), "is_draft", "is_draft", defArgs (topS 19), defBody (topS 19), defScope (topS 19), [], []⟩,
  ⟨("is_make", none), "is_make", "is_make", defArgs (topS 20), defBody (topS 20), defScope (topS 20), [], []⟩,
  ⟨("rank_of", none), "rank_of", "rank_of", defArgs (topS 21), defBody (topS 21), defScope (topS 21), [], []⟩,
  ⟨("make_of", none), "make_of", "make_of", defArgs (topS 22), defBody (topS 22), defScope (topS 22), [], []⟩,
  ⟨("is_span", none), "is_span", "is_span", defArgs (topS 24), defBody (topS 24), defScope (topS 24), [], []⟩,
  ⟨("is_range", none), "is_range", "is_range", defArgs (topS 25), defBody (topS 25), defScope (topS 25), [], []⟩,
  ⟨("need_range", none), "need_range", "need_range", defArgs (topS 26), defBody (topS 26), defScope (topS 26), [], []⟩,
  ⟨("ranked", none), "ranked", "ranked", defArgs (topS 27), defBody (topS 27), defScope (topS 27), [], []⟩,
  ⟨("tidied", none), "tidied", "tidied", defArgs (topS 28), defBody (topS 28), defScope (topS 28), [], []⟩,
  ⟨("every", none), "every", "every", defArgs (topS 29), defBody (topS 29), defScope (topS 29), [], []⟩,
  ⟨("need_two", none), "need_two", "need_two", defArgs (topS 30), defBody (topS 30), defScope (topS 30), [], []⟩,
  ⟨("met_of", none), "met_of", "met_of", defArgs (topS 31), defBody (topS 31), defScope (topS 31), [], []⟩,
  ⟨("met", none), "met", "met", defArgs (topS 32), defBody (topS 32), defScope (topS 32), [], []⟩,
  ⟨("turned_out_of", none), "turned_out_of", "turned_out_of", defArgs (topS 33), defBody (topS 33), defScope (topS 33), [], []⟩,
  ⟨("turned_out", none), "turned_out", "turned_out", defArgs (topS 34), defBody (topS 34), defScope (topS 34), [], []⟩,
  ⟨("has", none), "has", "has", defArgs (topS 35), defBody (topS 35), defScope (topS 35), [], []⟩,
  ⟨("is_word", none), "is_word", "is_word", defArgs (topS 41), defBody (topS 41), defScope (topS 41), [], []⟩,
  ⟨("is_wish", none), "is_wish", "is_wish", defArgs (topS 42), defBody (topS 42), defScope (topS 42), [], []⟩,
  ⟨("ends_of", none), "ends_of", "ends_of", defArgs (topS 43), defBody (topS 43), defScope (topS 43), [], []⟩,
  ⟨("kept", none), "kept", "kept", defArgs (topS 44), defBody (topS 44), defScope (topS 44), [], []⟩,
  ⟨("last_of", none), "last_of", "last_of", defArgs (topS 45), defBody (topS 45), defScope (topS 45), [], []⟩,
  ⟨("word_range", none), "word_range", "word_range", defArgs (topS 46), defBody (topS 46), defScope (topS 46), [], []⟩,
  ⟨("row_range", none), "row_range", "row_range", defArgs (topS 47), defBody (topS 47), defScope (topS 47), [], []⟩,
  ⟨("drafts_named", none), "drafts_named", "drafts_named", defArgs (topS 48), defBody (topS 48), defScope (topS 48), [], []⟩,
  ⟨("does", none), "does", "does", defArgs (topS 50), defBody (topS 50), defScope (topS 50), [], []⟩,
  ⟨("is_name", none), "is_name", "is_name", defArgs (topS 56), defBody (topS 56), defScope (topS 56), [], []⟩,
  ⟨("are_wants", none), "are_wants", "are_wants", defArgs (topS 57), defBody (topS 57), defScope (topS 57), [], []⟩,
  ⟨("is_row", none), "is_row", "is_row", defArgs (topS 58), defBody (topS 58), defScope (topS 58), [], []⟩,
  ⟨("need_shelf", none), "need_shelf", "need_shelf", defArgs (topS 59), defBody (topS 59), defScope (topS 59), [], []⟩,
  ⟨("look", none), "look", "look", defArgs (topS 60), defBody (topS 60), defScope (topS 60), [], []⟩,
  ⟨("needs_of", none), "needs_of", "needs_of", defArgs (topS 61), defBody (topS 61), defScope (topS 61), [], []⟩,
  ⟨("holds", none), "holds", "holds", defArgs (topS 62), defBody (topS 62), defScope (topS 62), [], []⟩,
  ⟨("is_set", none), "is_set", "is_set", defArgs (topS 63), defBody (topS 63), defScope (topS 63), [], []⟩,
  ⟨("sets", none), "sets", "sets", defArgs (topS 64), defBody (topS 64), defScope (topS 64), [], []⟩,
  ⟨("with_one", none), "with_one", "with_one", defArgs (topS 65), defBody (topS 65), defScope (topS 65), [], []⟩,
  ⟨("chosen", none), "chosen", "chosen", defArgs (topS 66), defBody (topS 66), defScope (topS 66), [], []⟩,
  ⟨("need_lock", none), "need_lock", "need_lock", defArgs (topS 68), defBody (topS 68), defScope (topS 68), [], []⟩,
  ⟨("changes_of", none), "changes_of", "changes_of", defArgs (topS 69), defBody (topS 69), defScope (topS 69), [], []⟩,
  ⟨("relocked", none), "relocked", "relocked", defArgs (topS 70), defBody (topS 70), defScope (topS 70), [], []⟩]
def fn1 : List He.DefD := [⟨("raised_to", none), "raised_to", "raised_to", defArgs (topS 71), defBody (topS 71), defScope (topS 71), [], []⟩,
  ⟨("copied", none), "copied", "copied", defArgs (topS 73), defBody (topS 73), defScope (topS 73), [], []⟩,
  ⟨("_law_cell", none), "_law_cell", "_law_cell", defArgs (topS 76), defBody (topS 76), defScope (topS 76), [], []⟩,
  ⟨("_law_drawn", none), "_law_drawn", "_law_drawn", defArgs (topS 77), defBody (topS 77), defScope (topS 77), [], []⟩,
  ⟨("_law_word", none), "_law_word", "_law_word", defArgs (topS 78), defBody (topS 78), defScope (topS 78), [], []⟩,
  ⟨("_law_small", none), "_law_small", "_law_small", defArgs (topS 80), defBody (topS 80), defScope (topS 80), [], []⟩,
  ⟨("_law_full_right", none), "_law_full_right", "_law_full_right", defArgs (topS 81), defBody (topS 81), defScope (topS 81), [], []⟩,
  ⟨("law", none), "law", "law", defArgs (topS 82), defBody (topS 82), defScope (topS 82), [], []⟩,
  ⟨("House", some "__init__"), "__init__", "House.__init__", defArgs (inClass (topS 74) 0), defBody (inClass (topS 74) 0), defScope (inClass (topS 74) 0), [], []⟩,
  ⟨("House", some "become"), "become", "House.become", defArgs (inClass (topS 74) 1), defBody (inClass (topS 74) 1), defScope (inClass (topS 74) 1), [], []⟩,
  ⟨("House", some "locked_by"), "locked_by", "House.locked_by", defArgs (inClass (topS 74) 2), defBody (inClass (topS 74) 2), defScope (inClass (topS 74) 2), [], []⟩,
  ⟨("House", some "want"), "want", "House.want", defArgs (inClass (topS 74) 3), defBody (inClass (topS 74) 3), defScope (inClass (topS 74) 3), [], []⟩,
  ⟨("House", some "unwant"), "unwant", "House.unwant", defArgs (inClass (topS 74) 4), defBody (inClass (topS 74) 4), defScope (inClass (topS 74) 4), [], []⟩,
  ⟨("House", some "bring"), "bring", "House.bring", defArgs (inClass (topS 74) 5), defBody (inClass (topS 74) 5), defScope (inClass (topS 74) 5), [], []⟩,
  ⟨("House", some "take"), "take", "House.take", defArgs (inClass (topS 74) 6), defBody (inClass (topS 74) 6), defScope (inClass (topS 74) 6), [], []⟩,
  ⟨("House", some "raise_one"), "raise_one", "House.raise_one", defArgs (inClass (topS 74) 7), defBody (inClass (topS 74) 7), defScope (inClass (topS 74) 7), [], []⟩,
  ⟨("House", some "raise_all"), "raise_all", "House.raise_all", defArgs (inClass (topS 74) 8), defBody (inClass (topS 74) 8), defScope (inClass (topS 74) 8), [], []⟩,
  ⟨("House", some "undo"), "undo", "House.undo", defArgs (inClass (topS 74) 9), defBody (inClass (topS 74) 9), defScope (inClass (topS 74) 9), [], []⟩,
  ⟨("House", some "redo"), "redo", "House.redo", defArgs (inClass (topS 74) 10), defBody (inClass (topS 74) 10), defScope (inClass (topS 74) 10), [], []⟩,
  ⟨("House", some "shelf"), "shelf", "House.shelf", defArgs (inClass (topS 74) 11), defBody (inClass (topS 74) 11), defScope (inClass (topS 74) 11), [], []⟩,
  ⟨("House", some "wants"), "wants", "House.wants", defArgs (inClass (topS 74) 12), defBody (inClass (topS 74) 12), defScope (inClass (topS 74) 12), [], []⟩,
  ⟨("House", some "lock"), "lock", "House.lock", defArgs (inClass (topS 74) 13), defBody (inClass (topS 74) 13), defScope (inClass (topS 74) 13), [], []⟩,
  ⟨("House", some "is_best"), "is_best", "House.is_best", defArgs (inClass (topS 74) 14), defBody (inClass (topS 74) 14), defScope (inClass (topS 74) 14), [], []⟩,
  ⟨("_law_told", none), "_law_told", "_law_told", defArgs (topS 79), defBody (topS 79), defScope (topS 79), [], []⟩]
def fnL : List He.DefD := fn0 ++ fn1
def tfL : List He.Defn := [("_law_full_right", none), ("law", none)]
abbrev rowR : PySem.W.OpenRow := PySem.W.OpenLaw.row PySem.Challenge.rw_makeranges_k92_houses_refused
def looseL : List PySem.Str := [("MakeError" : PySem.Str), ("BadMake" : PySem.Str), ("BadKind" : PySem.Str), ("BadNumber" : PySem.Str), ("BadRange" : PySem.Str), ("BadWish" : PySem.Str), ("BadShelf" : PySem.Str), ("BadText" : PySem.Str), ("NoMake" : PySem.Str), ("Barred" : PySem.Str), ("Nothing" : PySem.Str), ("MOST" : PySem.Str), ("MOST_DRAFT" : PySem.Str), ("DRAFTS" : PySem.Str), ("FINAL" : PySem.Str), ("MANY" : PySem.Str), ("is_count" : PySem.Str), ("is_draft" : PySem.Str), ("is_make" : PySem.Str), ("rank_of" : PySem.Str), ("make_of" : PySem.Str), ("is_span" : PySem.Str), ("is_range" : PySem.Str), ("need_range" : PySem.Str), ("ranked" : PySem.Str), ("tidied" : PySem.Str), ("every" : PySem.Str), ("need_two" : PySem.Str), ("met_of" : PySem.Str), ("met" : PySem.Str)] ++ [("turned_out_of" : PySem.Str), ("turned_out" : PySem.Str), ("has" : PySem.Str), ("SIGNS" : PySem.Str), ("LEAST" : PySem.Str), ("MOST_ROWS" : PySem.Str), ("MOST_WORDS" : PySem.Str), ("is_word" : PySem.Str), ("is_wish" : PySem.Str), ("ends_of" : PySem.Str), ("kept" : PySem.Str), ("last_of" : PySem.Str), ("word_range" : PySem.Str), ("row_range" : PySem.Str), ("drafts_named" : PySem.Str), ("does" : PySem.Str), ("SMALL" : PySem.Str), ("MOST_NAME" : PySem.Str), ("MOST_NAMES" : PySem.Str), ("MOST_MAKES" : PySem.Str), ("is_name" : PySem.Str), ("are_wants" : PySem.Str), ("is_row" : PySem.Str), ("need_shelf" : PySem.Str), ("look" : PySem.Str), ("needs_of" : PySem.Str), ("holds" : PySem.Str), ("is_set" : PySem.Str), ("sets" : PySem.Str), ("with_one" : PySem.Str)] ++ [("chosen" : PySem.Str), ("need_lock" : PySem.Str), ("changes_of" : PySem.Str), ("relocked" : PySem.Str), ("raised_to" : PySem.Str), ("copied" : PySem.Str), ("House" : PySem.Str), ("_law_cell" : PySem.Str), ("_law_drawn" : PySem.Str), ("_law_word" : PySem.Str), ("_law_told" : PySem.Str), ("_law_small" : PySem.Str), ("_law_full_right" : PySem.Str)]
def stepsM : Nat := 10300
open PySem.W PySem.Calls PyProof.Rows HandSHeadRun in
noncomputable def endX (w : World) (os : OsState) : Option SharedT := endF (stepQ (denQ tabQ) rowR.prog w) stepsM rowR.prog w os
def fragX (s : PySem.W.SharedT) : PySem.W.Frag := He.frT (HandSHeadRun.getT s) (He.asD (HandSHeadRun.getT s) 4)
open PySem.W PySem.Calls PyProof.Rows HandSHeadRun in
theorem run1 (w : World) (os : OsState) : (endX w os).map (fun s => looksF rowR.prog (boot_heap w.params) s.abs) = some true := by
  kernel_rfl
open PySem.W PySem.Calls PyProof.Rows HandSHeadRun in
theorem run2 (w : World) (os : OsState) : (endX w os).map (fun s => seenQ (view rowR.prog [82]) looseL (importedModules rowR.prog.main.body) (fun s => xlAt (view rowR.prog [82]) [] s && recOk rowR.toRowW.records s) s.abs) = some (openGood (view rowR.prog [82]) looseL) := by
  kernel_rfl
theorem run3 (w : World) (os : OsState) : (endX w os).map (fun s => (fa0.all (fun f => f.ok (fragX s)) && fa1.all (fun f => f.ok (fragX s)))) = some true := by
  kernel_rfl
theorem run4 (w : World) (os : OsState) : (endX w os).map (fun s => (fa2.all (fun f => f.ok (fragX s)))) = some true := by
  kernel_rfl
theorem run5 (w : World) (os : OsState) : (endX w os).map (fun s => (fnL.all (fun d => d.ok (fragX s)) && He.tabsB (HandSHeadRun.getT s) tfL (fragX s))) = some true := by
  kernel_rfl
theorem run6 (w : World) (os : OsState) : (endX w os).map (fun s => fn0.map (fun d => He.fnW (fragX s) d.at_)) = some (fn0.map He.DefD.val) := by
  kernel_rfl
theorem run7 (w : World) (os : OsState) : (endX w os).map (fun s => fn1.map (fun d => He.fnW (fragX s) d.at_)) = some (fn1.map He.DefD.val) := by
  kernel_rfl
end Mk
namespace Mk
open PySem PySem.Spec PyProof.Rows L2
/-- plain data; scr: the law's own script; obj: an object that nothing is told of -/
inductive D where
  | non
  | bl (b : Bool)
  | int (i : Int)
  | str (s : Str)
  | tup (l : List D)
  | lst (l : List D)
  | dic (l : List (Key × D))
  | scr (l : List Int)
  | obj (a : Addr)
/-- an outcome: a value, an exception's class, or nothing is said -/
inductive R (α : Type) where
  | ok (a : α)
  | exc (c : String)
  | bad
namespace R
def bind {α β : Type} : R α → (α → R β) → R β
  | .ok a, f => f a
  | .exc c, _ => .exc c
  | .bad, _ => .bad
def map {α β : Type} (f : α → β) : R α → R β
  | .ok a => .ok (f a)
  | .exc c => .exc c
  | .bad => .bad
end R
def SOk (x : Str) : Prop := PySem.PyData.strOk x = true ∧ x.length ≤ sizeLine
mutual
inductive Rep (K : PySem.W.Frag) (F : Hp) : V → D → Prop
  | non : Rep K F .non .non
  | bl (b : Bool) : Rep K F (.bl b) (.bl b)
  | int (i : Int) : Rep K F (.int i) (.int i)
  | str (x : Str) : SOk x → Rep K F (.str x) (.str x)
  | tup {a : Addr} {xs : List V} {ds : List D} : SqT K F a xs → RepL K F xs ds → ds.length ≤ sizeLine → Rep K F (.ref a) (.tup ds)
  | lst {a : Addr} {xs : List V} {ds : List D} : F a = some (.lst xs) → RepL K F xs ds → ds.length ≤ sizeLine → Rep K F (.ref a) (.lst ds)
  | dic {a : Addr} {ob : Obj} {xs : List (Key × V)} {ds : List (Key × D)} : F a = some (.frz ob (.dK xs)) → RepK K F xs ds → ds.length ≤ sizeLine → Rep K F (.ref a) (.dic ds)
  | scr {a : Addr} {ns : List Int} : SqL K F a (ns.map V.int) → Rep K F (.ref a) (.scr ns)
  | obj (a : Addr) : Rep K F (.ref a) (.obj a)
inductive RepL (K : PySem.W.Frag) (F : Hp) : List V → List D → Prop
  | nil : RepL K F [] []
  | cons {v : V} {vs : List V} {d : D} {ds : List D} : Rep K F v d → RepL K F vs ds → RepL K F (v :: vs) (d :: ds)
inductive RepK (K : PySem.W.Frag) (F : Hp) : List (Key × V) → List (Key × D) → Prop
  | nil : RepK K F [] []
  | cons {k : Key} {v : V} {vs : List (Key × V)} {d : D} {ds : List (Key × D)} : Rep K F v d → RepK K F vs ds → RepK K F ((k, v) :: vs) ((k, d) :: ds)
end
theorem sqL_mono {K : PySem.W.Frag} {F F' : Hp} (e : Same F F') {a : Addr} {xs : List V} (h : SqL K F a xs) : SqL K F' a xs := by
  rcases h with (h | ⟨o, h⟩) | h
  · exact .inl (.inl (e _ _ h))
  · exact .inl (.inr ⟨o, e _ _ h⟩)
  · exact .inr h
theorem sqT_mono {K : PySem.W.Frag} {F F' : Hp} (e : Same F F') {a : Addr} {xs : List V} (h : SqT K F a xs) : SqT K F' a xs := by
  rcases h with (h | ⟨o, h⟩) | h
  · exact .inl (.inl (e _ _ h))
  · exact .inl (.inr ⟨o, e _ _ h⟩)
  · exact .inr h
mutual
theorem Rep.mono {K : PySem.W.Frag} {F F' : Hp} (e : Same F F') : ∀ {v : V} {d : D}, Rep K F v d → Rep K F' v d
  | _, _, .non => .non
  | _, _, .bl b => .bl b
  | _, _, .int i => .int i
  | _, _, .str x h => .str x h
  | _, _, .tup h r z => .tup (sqT_mono e h) (r.mono e) z
  | _, _, .lst h r z => .lst (e _ _ h) (r.mono e) z
  | _, _, .dic h r z => .dic (e _ _ h) (r.mono e) z
  | _, _, .scr h => .scr (sqL_mono e h)
  | _, _, .obj a => .obj a
theorem RepL.mono {K : PySem.W.Frag} {F F' : Hp} (e : Same F F') : ∀ {v : List V} {d : List D}, RepL K F v d → RepL K F' v d
  | _, _, .nil => .nil
  | _, _, .cons h r => .cons (h.mono e) (r.mono e)
theorem RepK.mono {K : PySem.W.Frag} {F F' : Hp} (e : Same F F') : ∀ {v : List (Key × V)} {d : List (Key × D)}, RepK K F v d → RepK K F' v d
  | _, _, .nil => .nil
  | _, _, .cons h r => .cons (h.mono e) (r.mono e)
end
section
variable {K : PySem.W.Frag} {F : Hp}
theorem RepL.length : ∀ {vs : List V} {ds : List D}, RepL K F vs ds → vs.length = ds.length
  | _, _, .nil => rfl
  | _, _, .cons _ r => by rw [List.length_cons, List.length_cons, r.length]
theorem RepL.append : ∀ {vs ws : List V} {ds es : List D}, RepL K F vs ds → RepL K F ws es → RepL K F (vs ++ ws) (ds ++ es)
  | _, _, _, _, .nil, s => s
  | _, _, _, _, .cons h r, s => .cons h (r.append s)
theorem RepL.get : ∀ {vs : List V} {ds : List D} {i : Nat} {v : V}, RepL K F vs ds → vs[i]? = some v → ∃ d, ds[i]? = some d ∧ Rep K F v d
  | _, _, _, _, .nil, e => by simp at e
  | _, _, 0, _, .cons h r, e => by simp at e; subst e; exact ⟨_, rfl, h⟩
  | _, _, i + 1, v, .cons h r, e => by
    obtain ⟨d, h1, h2⟩ := RepL.get (i := i) (v := v) r (by simpa using e)
    exact ⟨d, by simpa using h1, h2⟩
theorem RepL.getD : ∀ {vs : List V} {ds : List D} {i : Nat} {d : D}, RepL K F vs ds → ds[i]? = some d → ∃ v, vs[i]? = some v ∧ Rep K F v d
  | _, _, _, _, .nil, e => by simp at e
  | _, _, 0, _, .cons h r, e => by simp at e; subst e; exact ⟨_, rfl, h⟩
  | _, _, i + 1, v, .cons h r, e => by
    obtain ⟨d, h1, h2⟩ := RepL.getD (i := i) (d := v) r (by simpa using e)
    exact ⟨d, by simpa using h1, h2⟩
theorem RepL.take : ∀ {vs : List V} {ds : List D} (n : Nat), RepL K F vs ds → RepL K F (vs.take n) (ds.take n)
  | _, _, 0, _ => .nil
  | _, _, _ + 1, .nil => .nil
  | _, _, n + 1, .cons h r => .cons h (r.take n)
theorem RepL.drop : ∀ {vs : List V} {ds : List D} (n : Nat), RepL K F vs ds → RepL K F (vs.drop n) (ds.drop n)
  | _, _, 0, r => r
  | _, _, _ + 1, .nil => .nil
  | _, _, n + 1, .cons _ r => r.drop n
theorem RepL.set : ∀ {vs : List V} {ds : List D} {v : V} {d : D} (n : Nat), RepL K F vs ds → Rep K F v d → RepL K F (vs.set n v) (ds.set n d)
  | _, _, _, _, _, .nil, _ => .nil
  | _, _, _, _, 0, .cons _ r, h => .cons h r
  | _, _, _, _, n + 1, .cons q r, h => .cons q (r.set n h)
theorem RepL.reverse {vs : List V} {ds : List D} (r : RepL K F vs ds) : RepL K F vs.reverse ds.reverse := by
  have : ∀ {vs : List V} {ds : List D}, RepL K F vs ds → RepL K F vs.reverse ds.reverse := by
    intro vs ds r
    induction vs generalizing ds with
    | nil => cases r; exact .nil
    | cons v vs ih =>
      cases r with
      | cons h r =>
        rw [List.reverse_cons, List.reverse_cons]
        exact (ih r).append (.cons h .nil)
  exact this r
theorem RepL.dropLast {vs : List V} {ds : List D} (r : RepL K F vs ds) : RepL K F vs.dropLast ds.dropLast := by
  rw [List.dropLast_eq_take, List.dropLast_eq_take, r.length]
  exact r.take _
end
/-- nothing of data stands there -/
def Free (H : Hp) (a : Addr) : Prop := H a = none ∨ ∃ ps, H a = some (.tbl ps)
/-- from H, F on to H', F' -/
structure Ext (T : List (Addr × Str)) (H F H' F' : Hp) : Prop where
  same : LamX.ExtN H H'
  tabs : LamX.Tabs T H → LamX.Tabs T H'
  fsame : Same F F'
  sub : Same F' H'
  nt : ∀ b ps, F' b ≠ some (.tbl ps)
  new : ∀ a o, F' a = some o → F a = some o ∨ Free H a
/-- .. of H alone -/
structure ExtH (T : List (Addr × Str)) (H H' : Hp) : Prop where
  same : LamX.ExtN H H'
  tabs : LamX.Tabs T H → LamX.Tabs T H'
theorem Ext.h {T : List (Addr × Str)} {H F H' F' : Hp} (e : Ext T H F H' F') : ExtH T H H' := ⟨e.same, e.tabs⟩
theorem ExtH.trans {T : List (Addr × Str)} {H H1 H2 : Hp} (a : ExtH T H H1) (b : ExtH T H1 H2) : ExtH T H H2 := ⟨a.same.trans b.same, fun t => b.tabs (a.tabs t)⟩
theorem ExtH.refl {T : List (Addr × Str)} (H : Hp) : ExtH T H H := ⟨LamX.ExtN.refl H, fun t => t⟩
theorem Free.back {H H' : Hp} (e : LamX.ExtN H H') {a : Addr} (h : Free H' a) : Free H a := by
  cases q : H a with
  | none => exact .inl q
  | some o =>
    by_cases ht : ∃ ps, o = .tbl ps
    · obtain ⟨ps, rfl⟩ := ht
      exact .inr ⟨ps, q⟩
    · have z := e a o q fun ps z => ht ⟨ps, z⟩
      rcases h with h | ⟨ps, h⟩
      · rw [z] at h; cases h
      · rw [z] at h
        exact (ht ⟨ps, Option.some.inj h⟩).elim
theorem Free.lst {H : Hp} {a : Addr} {xs : List V} (h : Free H a) (e : H a = some (.lst xs)) : False := by
  rcases h with h | ⟨ps, h⟩ <;> rw [e] at h <;> cases h
theorem Free.dK {H : Hp} {a : Addr} {xs : List (Key × V)} (h : Free H a) (e : H a = some (.dK xs)) : False := by
  rcases h with h | ⟨ps, h⟩ <;> rw [e] at h <;> cases h
section
variable {T : List (Addr × Str)} {H F H1 F1 H2 F2 : Hp}
theorem Ext.trans (a : Ext T H F H1 F1) (b : Ext T H1 F1 H2 F2) : Ext T H F H2 F2 where
  same := a.same.trans b.same
  tabs := fun t => b.tabs (a.tabs t)
  fsame := a.fsame.trans b.fsame
  sub := b.sub
  nt := b.nt
  new := fun x o h => by
    rcases b.new x o h with q | q
    · exact a.new x o q
    · exact .inr (q.back a.same)
/-- nothing has come -/
theorem Ext.stay (sub : Same F H) (nt : ∀ b ps, F b ≠ some (.tbl ps)) : Ext T H F H F :=
  ⟨LamX.ExtN.refl H, fun t => t, Same.refl F, sub, nt, fun _ _ h => .inl h⟩
theorem Ext.refl (a : Ext T H F H1 F1) : Ext T H1 F1 H1 F1 := .stay a.sub a.nt
theorem tabs_new {p : Addr} {o : HO} (hp : H p = none) (t : LamX.Tabs T H) : LamX.Tabs T (upd H p o) := t.ext fun b u h => by
  rw [upd_ne (ne_of_none h hp)]
  exact h
/-- a new object that never changes -/
theorem Ext.frz {p : Addr} {o : HO} (sub : Same F H) (nt : ∀ b ps, F b ≠ some (.tbl ps)) (hp : H p = none) (ho : ∀ ps, o ≠ .tbl ps) : Ext T H F (upd H p o) (upd F p o) where
  same := fun b u h _ => by rw [upd_ne (ne_of_none h hp)]; exact h
  tabs := tabs_new hp
  fsame := fun b u h => by rw [upd_ne (ne_of_none (sub _ _ h) hp)]; exact h
  sub := fun b u h => by
    by_cases e : b = p
    · subst e; rw [upd_same] at h ⊢; exact h
    · rw [upd_ne e] at h ⊢; exact sub _ _ h
  nt := fun b ps h => by
    by_cases e : b = p
    · subst e; rw [upd_same] at h; exact ho ps (Option.some.inj h)
    · rw [upd_ne e] at h; exact nt b ps h
  new := fun a u h => by
    by_cases e : a = p
    · subst e; exact .inr (.inl hp)
    · rw [upd_ne e] at h; exact .inl h
/-- a new object of one's own -/
theorem Ext.own {p : Addr} {o : HO} (sub : Same F H) (nt : ∀ b ps, F b ≠ some (.tbl ps)) (hp : H p = none) : Ext T H F (upd H p o) F where
  same := fun b u h _ => by rw [upd_ne (ne_of_none h hp)]; exact h
  tabs := tabs_new hp
  fsame := Same.refl F
  sub := fun b u h => by rw [upd_ne (ne_of_none (sub _ _ h) hp)]; exact sub _ _ h
  nt := nt
  new := fun a u h => .inl h
end
mutual
def nk0 : D → Option NestedKey
  | .non => some .none
  | .int i => some (.num i)
  | .str x => some (.text x)
  | .tup l => (nkL l).map .tup
  | _ => none
def nkL : List D → Option (List NestedKey)
  | [] => some []
  | d :: ds => (nk0 d).bind fun k => (nkL ds).map (k :: ·)
end
def nk (d : D) : Option NestedKey := (nk0 d).bind fun k => if k.depth ≤ 8 then some k else none
def entQ (w : World) (x : NestedKey × Addr) : DictEntry := ⟨x.1.hash w, .ref x.2, .bool true⟩
def KQ (w : World) (a : Addr) (xs : List (NestedKey × Addr)) : HO := .ext fun h => xs.length ≤ sizeLine ∧ (a == sysModules) = false ∧ ∃ o es ep, h.get? a = some o ∧ o.ExactDict ∧ o.data = .dict es ep ∧ es.toList = xs.map (entQ w) ∧ (xs.map (·.1)).Nodup
theorem kq_tbl {w : World} {a : Addr} {xs : List (NestedKey × Addr)} {ps : Array Value} (h : KQ w a xs = .tbl ps) : False := by unfold KQ at h; cases h
theorem Free.kq {H : Hp} {a b : Addr} {w : World} {xs : List (NestedKey × Addr)} (h : Free H a) (e : H a = some (KQ w b xs)) : False := by
  rcases h with h | ⟨ps, h⟩ <;> rw [e] at h
  · cases h
  · exact kq_tbl (Option.some.inj h)
/-- a house: whether drafts may be; how it is; how it was; how it is to be again -/
structure HSt where
  dr : D
  now : D
  past : List D
  ahead : List D
def hfs (v1 v2 : V) (a b : Addr) : List (Str × V) := [("drafts", v1), ("now", v2), ("past", .ref a), ("ahead", .ref b)]
/-- a house stands at p -/
structure HsAt (K : PySem.W.Frag) (H F : Hp) (p dx : Addr) (v1 v2 : V) (a b : Addr) (xs ys : List V) (st : HSt) : Prop where
  hp : H p = some (.ins (He.ga K "House") dx (hfs v1 v2 a b))
  ha : Rd H a (.lst xs)
  hb : Rd H b (.lst ys)
  ab : a ≠ b
  fp : F p = none
  fa : F a = none
  fb : F b = none
  r1 : Rep K F v1 st.dr
  r2 : Rep K F v2 st.now
  r3 : RepL K F xs st.past
  r4 : RepL K F ys st.ahead
  l3 : st.past.length ≤ sizeLine
  l4 : st.ahead.length ≤ sizeLine
theorem Free.some {H : Hp} {a : Addr} {o : HO} (h : Free H a) (e : H a = some o) (ht : ∀ ps, o ≠ .tbl ps) : False := by
  rcases h with h | ⟨ps, h⟩
  · rw [e] at h; cases h
  · rw [e] at h; exact ht ps (Option.some.inj h)
theorem Ext.keepN {T : List (Addr × Str)} {H F H' F' : Hp} (e : Ext T H F H' F') {a : Addr} {o : HO} (h : H a = some o) (ht : ∀ ps, o ≠ .tbl ps) (hf : F a = none) : H' a = some o ∧ F' a = none := by
  refine ⟨e.same _ _ h ht, ?_⟩
  cases q : F' a with
  | none => rfl
  | some u =>
    rcases e.new a u q with z | z
    · rw [hf] at z; cases z
    · exact (z.some h ht).elim
theorem Ext.rd {T : List (Addr × Str)} {H F H' F' : Hp} (e : Ext T H F H' F') {a : Addr} {xs : List V} (h : Rd H a (.lst xs)) (hf : F a = none) : Rd H' a (.lst xs) ∧ F' a = none := by
  rcases h with h | ⟨o, h⟩
  · have := e.keepN h (fun ps z => by cases z) hf
    exact ⟨.inl this.1, this.2⟩
  · have := e.keepN h (fun ps z => by cases z) hf
    exact ⟨.inr ⟨o, this.1⟩, this.2⟩
theorem HsAt.mono {T : List (Addr × Str)} {K : PySem.W.Frag} {H F H' F' : Hp} {p dx : Addr} {v1 v2 : V} {a b : Addr} {xs ys : List V} {st : HSt} (h : HsAt K H F p dx v1 v2 a b xs ys st) (e : Ext T H F H' F') : HsAt K H' F' p dx v1 v2 a b xs ys st where
  hp := (e.keepN h.hp (fun ps z => by cases z) h.fp).1
  ha := (e.rd h.ha h.fa).1
  hb := (e.rd h.hb h.fb).1
  ab := h.ab
  fp := (e.keepN h.hp (fun ps z => by cases z) h.fp).2
  fa := (e.rd h.ha h.fa).2
  fb := (e.rd h.hb h.fb).2
  r1 := h.r1.mono e.fsame
  r2 := h.r2.mono e.fsame
  r3 := h.r3.mono e.fsame
  r4 := h.r4.mono e.fsame
  l3 := h.l3
  l4 := h.l4
/-- a slot: data that never changes, or a list, a dict, a house that this slot alone holds; bh: a house of another's -/
inductive SV where
  | fro (d : D)
  | ol (l : List D)
  | od (l : List (Key × D))
  | oq (l : List D)
  | ob (st : HSt)
  | bh (st : HSt)
abbrev En := List (Option SV)
/-- where a body stands: the written part, the tables, the heaps at its entry, what is wanted of an exception -/
structure Bd where
  w : World
  K : PySem.W.Frag
  T : List (Addr × Str)
  H0 : Hp
  F0 : Hp
  wx : String → Hp → Prop
  hs : Addr
def SlotR (B : Bd) (H F : Hp) (v : V) : SV → Prop
  | .fro d => Rep B.K F v d
  | .ol l => ∃ a vs, v = .ref a ∧ H a = some (.lst vs) ∧ Free B.H0 a ∧ F a = none ∧ RepL B.K F vs l ∧ l.length ≤ sizeLine
  | .od l => ∃ a vs, v = .ref a ∧ H a = some (.dK vs) ∧ Free B.H0 a ∧ F a = none ∧ RepK B.K F vs l ∧ l.length ≤ sizeLine
  | .oq l => ∃ a xs, v = .ref a ∧ H a = some (KQ B.w a xs) ∧ Free B.H0 a ∧ F a = none ∧ (RepL B.K F (xs.map fun x => V.ref x.2) l ∧ l.map nk = xs.map fun x => some x.1) ∧ l.length ≤ sizeLine
  | .ob st => ∃ p dx v1 v2 a b xs ys, v = .ref p ∧ HsAt B.K H F p dx v1 v2 a b xs ys st ∧ ((∃ oa, H a = some (.frz oa (.lst xs))) ∧ ∃ ob, H b = some (.frz ob (.lst ys))) ∧ Free B.H0 p ∧ Free B.H0 a ∧ Free B.H0 b
  | .bh st => ∃ dx v1 v2 a b xs ys, v = .ref B.hs ∧ HsAt B.K B.H0 B.F0 B.hs dx v1 v2 a b xs ys st
def SV.isOwn : SV → Bool
  | .fro _ => false
  | .bh _ => false
  | _ => true
structure Rel (B : Bd) (env : En) (σ : L2.St) (H F : Hp) : Prop where
  ext : Ext B.T B.H0 B.F0 H F
  tab : LamX.Tabs B.T H
  len : env.length = σ.length
  slot : ∀ (i : Nat) (s : SV), env[i]? = some (some s) → ∃ v, σ[i]? = some (some v) ∧ SlotR B H F v s
  dist : ∀ (i j : Nat) (s s' : SV), i ≠ j → env[i]? = some (some s) → env[j]? = some (some s') → s.isOwn = true → s'.isOwn = true → σ[i]? ≠ σ[j]?
theorem SlotR.mono {B : Bd} {H F H' F' : Hp} {v : V} {s : SV} (e : Ext B.T H F H' F') (h : SlotR B H F v s) : SlotR B H' F' v s := by
  cases s with
  | fro d => exact Rep.mono e.fsame h
  | ol l =>
    obtain ⟨a, vs, rfl, h1, h2, h3, h4, h5⟩ := h
    refine ⟨a, vs, rfl, e.same _ _ h1 (fun ps z => by cases z), h2, ?_, h4.mono e.fsame, h5⟩
    cases q : F' a with
    | none => rfl
    | some o =>
      rcases e.new a o q with z | z
      · rw [h3] at z; cases z
      · exact (z.lst h1).elim
  | od l =>
    obtain ⟨a, vs, rfl, h1, h2, h3, h4, h5⟩ := h
    refine ⟨a, vs, rfl, e.same _ _ h1 (fun ps z => by cases z), h2, ?_, h4.mono e.fsame, h5⟩
    cases q : F' a with
    | none => rfl
    | some o =>
      rcases e.new a o q with z | z
      · rw [h3] at z; cases z
      · exact (z.dK h1).elim
  | oq l =>
    obtain ⟨a, vs, rfl, h1, h2, h3, h4, h5⟩ := h
    refine ⟨a, vs, rfl, e.same _ _ h1 (fun ps z => kq_tbl z), h2, ?_, ⟨h4.1.mono e.fsame, h4.2⟩, h5⟩
    cases q : F' a with
    | none => rfl
    | some o =>
      rcases e.new a o q with z | z
      · rw [h3] at z; cases z
      · exact (z.kq h1).elim
  | ob st =>
    obtain ⟨p, dx, v1, v2, a, b, xs, ys, rfl, h1, ⟨⟨oa, h2⟩, ob, h3⟩, h4⟩ := h
    exact ⟨p, dx, v1, v2, a, b, xs, ys, rfl, h1.mono e, ⟨⟨oa, e.same _ _ h2 (fun ps z => by cases z)⟩, ob, e.same _ _ h3 (fun ps z => by cases z)⟩, h4⟩
  | bh st => exact h
theorem Rel.mono {B : Bd} {env : En} {σ : L2.St} {H F H' F' : Hp} (r : Rel B env σ H F) (e : Ext B.T H F H' F') : Rel B env σ H' F' :=
  ⟨r.ext.trans e, e.tabs r.tab, r.len, fun i s h => let ⟨v, h1, h2⟩ := r.slot i s h; ⟨v, h1, h2.mono e⟩, r.dist⟩
theorem Rel.stay {B : Bd} {env : En} {σ : L2.St} {H F : Hp} (r : Rel B env σ H F) : Ext B.T H F H F := .stay r.ext.sub r.ext.nt
theorem Rel.frz {B : Bd} {env : En} {σ : L2.St} {H F : Hp} (r : Rel B env σ H F) {p : Addr} {o : HO} (hp : H p = none) (ho : ∀ ps, o ≠ .tbl ps) : Ext B.T H F (upd H p o) (upd F p o) := .frz r.ext.sub r.ext.nt hp ho
def Good (B : Bd) (H F : Hp) (Q : VK) : R D → Prop
  | .ok d => ∀ v H' F', Ext B.T H F H' F' → Rep B.K F' v d → Q v H'
  | .exc c => ∀ H', ExtH B.T B.H0 H' → B.wx c H'
  | .bad => False
def GoodB (B : Bd) (H F : Hp) (Q : Bool → Hp → Prop) : R Bool → Prop
  | .ok d => ∀ H' F', Ext B.T H F H' F' → Q d H'
  | .exc c => ∀ H', ExtH B.T B.H0 H' → B.wx c H'
  | .bad => False
def GoodL (B : Bd) (H F : Hp) (Q : List V → Hp → Prop) : R (List D) → Prop
  | .ok d => ∀ v H' F', Ext B.T H F H' F' → RepL B.K F' v d → Q v H'
  | .exc c => ∀ H', ExtH B.T B.H0 H' → B.wx c H'
  | .bad => False
/-- e is worth f of the slots -/
def tE (B : Bd) (f : En → R D) : TE := fun σ H Q => ∃ env F, Rel B env σ H F ∧ Good B H F Q (f env)
def tQ (B : Bd) (f : En → R Bool) : TT := fun σ H Q => ∃ env F, Rel B env σ H F ∧ GoodB B H F Q (f env)
def tL (B : Bd) (f : En → R (List D)) : TA := fun σ H Q => ∃ env F, Rel B env σ H F ∧ GoodL B H F Q (f env)
theorem PE.imp {X : Cx} {e : Expr} {t t' : TE} (h : PE X e t) (i : ∀ σ H Q, t' σ H Q → t σ H Q) : PE X e t' := ⟨fun pins s σ H Q I q => h.run pins s σ H Q I (i σ H Q q)⟩
theorem PT.imp {X : Cx} {e : Expr} {t t' : TT} (h : PT X e t) (i : ∀ σ H Q, t' σ H Q → t σ H Q) : PT X e t' := ⟨fun pins s σ H Q I q => h.run pins s σ H Q I (i σ H Q q)⟩
theorem PA.imp {X : Cx} {e : List Expr} {t t' : TA} (h : PA X e t) (i : ∀ σ H Q, t' σ H Q → t σ H Q) : PA X e t' := ⟨fun pos pins s σ H Q I q => h.run pos pins s σ H Q I (i σ H Q q)⟩
theorem PS.imp {X : Cx} {e : Stmt} {t t' : TS} (h : PS X e t) (i : ∀ D σ H, t' D σ H → t D σ H) : PS X e t' := ⟨fun pins s σ H D I q => h.run pins s σ H D I (i D σ H q)⟩
theorem PSs.imp {X : Cx} {e : List Stmt} {t t' : TS} (h : PSs X e t) (i : ∀ D σ H, t' D σ H → t D σ H) : PSs X e t' := ⟨fun pins s σ H D I q => h.run pins s σ H D I (i D σ H q)⟩
section
variable {B : Bd} {H F : Hp}
/-- one after the other -/
theorem Good.bind {Q : VK} {α : Type} {r : R α} {f : α → R D} (h : Good B H F Q (r.bind f)) : (∃ a, r = .ok a ∧ Good B H F Q (f a)) ∨ (∃ c, r = .exc c ∧ ∀ H', ExtH B.T B.H0 H' → B.wx c H') := by
  cases r with
  | ok a => exact .inl ⟨a, rfl, h⟩
  | exc c => exact .inr ⟨c, rfl, h⟩
  | bad => exact h.elim
theorem GoodB.bind {Q : Bool → Hp → Prop} {α : Type} {r : R α} {f : α → R Bool} (h : GoodB B H F Q (r.bind f)) : (∃ a, r = .ok a ∧ GoodB B H F Q (f a)) ∨ (∃ c, r = .exc c ∧ ∀ H', ExtH B.T B.H0 H' → B.wx c H') := by
  cases r with
  | ok a => exact .inl ⟨a, rfl, h⟩
  | exc c => exact .inr ⟨c, rfl, h⟩
  | bad => exact h.elim
theorem GoodL.bind {Q : List V → Hp → Prop} {α : Type} {r : R α} {f : α → R (List D)} (h : GoodL B H F Q (r.bind f)) : (∃ a, r = .ok a ∧ GoodL B H F Q (f a)) ∨ (∃ c, r = .exc c ∧ ∀ H', ExtH B.T B.H0 H' → B.wx c H') := by
  cases r with
  | ok a => exact .inl ⟨a, rfl, h⟩
  | exc c => exact .inr ⟨c, rfl, h⟩
  | bad => exact h.elim
theorem Good.mono {Q : VK} {r : R D} {H' F' : Hp} (e : Ext B.T H F H' F') (h : Good B H F Q r) : Good B H' F' Q r := by
  cases r with
  | ok d => exact fun v H2 F2 e2 => h v H2 F2 (e.trans e2)
  | exc c => exact h
  | bad => exact h
theorem GoodB.mono {Q : Bool → Hp → Prop} {r : R Bool} {H' F' : Hp} (e : Ext B.T H F H' F') (h : GoodB B H F Q r) : GoodB B H' F' Q r := by
  cases r with
  | ok d => exact fun H2 F2 e2 => h H2 F2 (e.trans e2)
  | exc c => exact h
  | bad => exact h
theorem GoodL.mono {Q : List V → Hp → Prop} {r : R (List D)} {H' F' : Hp} (e : Ext B.T H F H' F') (h : GoodL B H F Q r) : GoodL B H' F' Q r := by
  cases r with
  | ok d => exact fun v H2 F2 e2 => h v H2 F2 (e.trans e2)
  | exc c => exact h
  | bad => exact h
/-- a value that is there at once -/
theorem Good.now {Q : VK} {d : D} {v : V} {env : En} {σ : L2.St} (r : Rel B env σ H F) (h : Good B H F Q (.ok d)) (hv : Rep B.K F v d) : Q v H := h v H F r.stay hv
end
def RepO (B : Bd) (H F : Hp) (v : V) (d : D) : Prop := Rep B.K F v d ∨ (∃ a vs l, v = .ref a ∧ H a = some (.lst vs) ∧ RepL B.K F vs l ∧ l.length ≤ sizeLine ∧ d = .lst l) ∨
  (∃ a vs l, v = .ref a ∧ H a = some (.dK vs) ∧ RepK B.K F vs l ∧ l.length ≤ sizeLine ∧ d = .dic l)
theorem RepO.mono {B : Bd} {H F H' F' : Hp} {v : V} {d : D} (e : Ext B.T H F H' F') (h : RepO B H F v d) : RepO B H' F' v d := by
  rcases h with h | ⟨a, vs, l, h1, h2, h3, h4, h5⟩ | ⟨a, vs, l, h1, h2, h3, h4, h5⟩
  · exact .inl (h.mono e.fsame)
  · exact .inr (.inl ⟨a, vs, l, h1, e.same _ _ h2 (fun ps z => by cases z), h3.mono e.fsame, h4, h5⟩)
  · exact .inr (.inr ⟨a, vs, l, h1, e.same _ _ h2 (fun ps z => by cases z), h3.mono e.fsame, h4, h5⟩)
def GoodO (B : Bd) (H F : Hp) (Q : VK) : R D → Prop
  | .ok d => ∀ v H' F', Ext B.T H F H' F' → RepO B H' F' v d → Q v H'
  | .exc c => ∀ H', ExtH B.T B.H0 H' → B.wx c H'
  | .bad => False
def tO (B : Bd) (f : En → R D) : TE := fun σ H Q => ∃ env F, Rel B env σ H F ∧ GoodO B H F Q (f env)
theorem PE.o {X : Cx} {e : Expr} {B : Bd} {f : En → R D} (h : PE X e (tE B f)) : PE X e (tO B f) := PE.imp h fun σ H Q ⟨env, F, r, q⟩ => ⟨env, F, r, by
  cases hf : f env with
  | ok d =>
    rw [hf] at q
    exact fun v H' F' x y => q v H' F' x (.inl y)
  | exc c => rw [hf] at q; exact q
  | bad => rw [hf] at q; exact q⟩
theorem GoodO.bind {B : Bd} {H F : Hp} {Q : VK} {α : Type} {r : R α} {f : α → R D} (h : GoodO B H F Q (r.bind f)) : (∃ a, r = .ok a ∧ GoodO B H F Q (f a)) ∨ (∃ c, r = .exc c ∧ ∀ H', ExtH B.T B.H0 H' → B.wx c H') := by
  cases r with
  | ok a => exact .inl ⟨a, rfl, h⟩
  | exc c => exact .inr ⟨c, rfl, h⟩
  | bad => exact h.elim
/-- two operands, then an operation on values -/
def op2 (f g : En → R D) (op : D → D → R D) : En → R D := fun env => (f env).bind fun a => (g env).bind fun b => op a b
def op1 (f : En → R D) (op : D → R D) : En → R D := fun env => (f env).bind op
section
variable {B : Bd} {f g : En → R D} {σ : L2.St} {H : Hp} {Q : VK}
theorem tOp_of {r : R2} {op : D → D → R D}
    (hr : ∀ (x y : V) (a b : D) (H F : Hp) (env : En) (Q : VK), Rel B env σ H F → RepO B H F x a → RepO B H F y b → Good B H F Q (op a b) → r x y H Q)
    (h : tE B (op2 f g op) σ H Q) : tOp r (tO B f) (tO B g) σ H Q := by
  obtain ⟨env, F, rel, q⟩ := h
  refine ⟨env, F, rel, ?_⟩
  rcases q.bind with ⟨a, ea, q⟩ | ⟨c, ea, q⟩
  · rw [ea]
    intro x H1 F1 e1 rx
    refine ⟨env, F1, rel.mono e1, ?_⟩
    rcases q.bind with ⟨b, eb, q⟩ | ⟨c, eb, q⟩
    · rw [eb]
      exact fun y H2 F2 e2 ry => hr x y a b H2 F2 env Q (rel.mono (e1.trans e2)) (rx.mono e2) ry (q.mono (e1.trans e2))
    · rw [eb]
      exact q
  · rw [ea]
    exact q
theorem tUn_of {r : V → Hp → VK → Prop} {op : D → R D}
    (hr : ∀ (x : V) (a : D) (H F : Hp) (env : En) (Q : VK), Rel B env σ H F → RepO B H F x a → Good B H F Q (op a) → r x H Q)
    (h : tE B (op1 f op) σ H Q) : tUn r (tO B f) σ H Q := by
  obtain ⟨env, F, rel, q⟩ := h
  refine ⟨env, F, rel, ?_⟩
  rcases q.bind with ⟨a, ea, q⟩ | ⟨c, ea, q⟩
  · rw [ea]
    exact fun x H1 F1 e1 rx => hr x a H1 F1 env Q (rel.mono e1) rx (q.mono e1)
  · rw [ea]
    exact q
end
/-- arguments, then a call on values -/
def opL (f : En → R (List D)) (op : List D → R D) : En → R D := fun env => (f env).bind op
/-- the law's whole text as it stands -/
structure Gx where
  P : Program
  w : World
  K : PySem.W.Frag
  mg : Str → Option Value
  base : Heap
  T : List (Addr × Str)
  cm : String → Value
  hot : Bool := false
def EB (G : Gx) (B : Bd) : XK := fun cls d H' => ∃ c, cls = G.cm c ∧ d = none ∧ B.wx c H'
structure OkX (G : Gx) (B : Bd) (k : Nat) (X : Cx) : Prop where
  K : B.K = X.K
  prog : X.prog = G.P
  w : X.w = G.w
  GK : X.K = G.K
  mg : X.mg = G.mg
  base : X.base = G.base
  T : B.T = G.T
  calm : G.hot = false → X.calm = true
  nd : X.N.Nodup
  room : L2H.RoomH k X.A
  hd : G.hot = false → X.A.handled = none
  pass : Passes (L2N.CX X.prog X.w) X (EB G B)
  Bw : B.w = X.w
/-- nothing is handled -/
class Calm (G : Gx) : Prop where
  no : G.hot = false
theorem OkX.calmX {G : Gx} [Calm G] {B : Bd} {k : Nat} {X : Cx} (O : OkX G B k X) : X.calm = true := O.calm Calm.no
theorem OkX.roomX {G : Gx} [Calm G] {B : Bd} {k : Nat} {X : Cx} (O : OkX G B k X) : Room k X.A := ⟨O.hd Calm.no, O.room.dp, O.room.un⟩
theorem _root_.L2H.RoomH.units {k : Nat} {A : Around} (r : L2H.RoomH k A) : A.units + 64 < cLine := by have := r.un; omega
theorem _root_.L2H.RoomH.units0 {k : Nat} {A : Around} (r : L2H.RoomH k A) : A.units < cLine := by have := r.un; omega
/-- a def's promise: it hands back what f says -/
def spF (G : Gx) (f : List D → R D) : Sp := fun vs H Q E => ∃ (ds : List D) (F : Hp), RepL G.K F vs ds ∧ Same F H ∧ (∀ b ps, F b ≠ some (.tbl ps)) ∧ LamX.Tabs G.T H ∧
  match f ds with
  | .ok d => ∀ v H' F', Ext G.T H F H' F' → Rep G.K F' v d → Q v H'
  | .exc c => ∀ H', ExtH G.T H H' → E (G.cm c) none H'
  | .bad => False
/-- the def of that name keeps it, at level k -/
def FnSp (G : Gx) (k : Nat) (x : Str) (ps : List Str) (f : List D → R D) : Prop := ∃ (a : Addr) (fd : FuncData), G.mg x = some (.ref a) ∧ PySem.W.keepIn G.K (.ref a) = true ∧ Binds G.K fd ps [] ∧
  FnOk G.P G.w G.K G.mg G.base (L2N.CX G.P G.w) k a fd ps (spF G f) ∧ ∃ oc od osl, G.K.lookup a = some ⟨oc, od, .func fd, osl⟩
def FnS (G : Gx) (k : Nat) (x : Str) (f : List D → R D) : Prop := ∃ ps : List Str, FnSp G k x ps f
section
variable {G : Gx} {B : Bd} {k : Nat} {X : Cx}
def eVar (i : Nat) : En → R D := fun env => match env[i]? with
  | some (some (.fro d)) => .ok d
  | _ => .bad
def eOwn (i : Nat) : En → R D := fun env => match env[i]? with
  | some (some (.fro d)) => .ok d
  | some (some (.ol l)) => .ok (.lst l)
  | some (some (.od l)) => .ok (.dic l)
  | _ => .bad
def eC (d : D) : En → R D := fun _ => .ok d
theorem e_var (i : Nat) {x : Str} {pos : Pos} (hN : X.N[i]? = some x := by rfl) (hv : Vis X.env.scope x := by first | exact Or.inl rfl | exact Or.inr (Or.inl rfl) | exact Or.inr (Or.inr rfl)) (hd : (x == ("__debug__" : Str)) = false := by decide)
    (hcd : (x == ("__classdict__" : Str)) = false := by decide) : PE X (.Name x pos) (tE B (eVar i)) := PE.imp (pe_var hN hv hd hcd) fun σ H Q ⟨env, F, r, q⟩ => by
  cases he : env[i]? with
  | none => simp only [eVar, he] at q; exact q.elim
  | some o =>
    cases o with
    | none => simp only [eVar, he] at q; exact q.elim
    | some s =>
      cases s with
      | fro d =>
        simp only [eVar, he] at q
        obtain ⟨v, h1, h2⟩ := r.slot i _ he
        exact ⟨v, h1, q.now r h2⟩
      | ol l => simp only [eVar, he] at q; exact q.elim
      | od l => simp only [eVar, he] at q; exact q.elim
      | oq l => simp only [eVar, he] at q; exact q.elim
      | ob st => simp only [eVar, he] at q; exact q.elim
      | bh st => simp only [eVar, he] at q; exact q.elim
theorem o_var (i : Nat) {x : Str} {pos : Pos} (hN : X.N[i]? = some x := by rfl) (hv : Vis X.env.scope x := by first | exact Or.inl rfl | exact Or.inr (Or.inl rfl) | exact Or.inr (Or.inr rfl)) (hd : (x == ("__debug__" : Str)) = false := by decide)
    (hcd : (x == ("__classdict__" : Str)) = false := by decide) : PE X (.Name x pos) (tO B (eOwn i)) := PE.imp (pe_var hN hv hd hcd) fun σ H Q ⟨env, F, r, q⟩ => by
  cases he : env[i]? with
  | none => simp only [eOwn, he] at q; exact q.elim
  | some o =>
    cases o with
    | none => simp only [eOwn, he] at q; exact q.elim
    | some s =>
      obtain ⟨v, h1, h2⟩ := r.slot i _ he
      cases s with
      | fro d =>
        simp only [eOwn, he] at q
        exact ⟨v, h1, q v H F r.stay (.inl h2)⟩
      | ol l =>
        simp only [eOwn, he] at q
        obtain ⟨a, vs, e1, e2, e3, e4, e5, e6⟩ := h2
        exact ⟨v, h1, q v H F r.stay (.inr (.inl ⟨a, vs, l, e1, e2, e5, e6, rfl⟩))⟩
      | od l =>
        simp only [eOwn, he] at q
        obtain ⟨a, vs, e1, e2, e3, e4, e5, e6⟩ := h2
        exact ⟨v, h1, q v H F r.stay (.inr (.inr ⟨a, vs, l, e1, e2, e5, e6, rfl⟩))⟩
      | oq l => simp only [eOwn, he] at q; exact q.elim
      | ob st => simp only [eOwn, he] at q; exact q.elim
      | bh st => simp only [eOwn, he] at q; exact q.elim
theorem e_int {i : Int} {j pos} : PE X (.Constant (.int i) j pos) (tE B (eC (.int i))) := PE.imp pe_int fun _ _ _ ⟨_, _, r, q⟩ => q.now r (.int i)
theorem e_bl {b : Bool} {j pos} : PE X (.Constant (.bool b) j pos) (tE B (eC (.bl b))) := PE.imp pe_bl fun _ _ _ ⟨_, _, r, q⟩ => q.now r (.bl b)
theorem e_non {j pos} : PE X (.Constant .none j pos) (tE B (eC .non)) := PE.imp pe_non fun _ _ _ ⟨_, _, r, q⟩ => q.now r .non
theorem e_str {x : Str} {j pos} (h : SOk x := by exact ⟨by decide +kernel, by decide +kernel⟩) : PE X (.Constant (.str x) j pos) (tE B (eC (.str x))) := PE.imp pe_str fun _ _ _ ⟨_, _, r, q⟩ => q.now r (.str x h)
/-- a module's constant -/
theorem e_glob {x : Str} {v : V} {u : Value} {d : D} {pos : Pos} (hg : Gl X x) (hm : X.mg x = some u) (hv : RelV v u) (hd : ∀ F, Rep B.K F v d) (hdb : (x == ("__debug__" : Str)) = false := by decide) : PE X (.Name x pos) (tE B (eC d)) :=
  PE.imp (pe_glob hg hm hv hdb) fun _ _ _ ⟨_, F, r, q⟩ => q.now r (hd F)
def aNil : En → R (List D) := fun _ => .ok []
def aCons (f : En → R D) (g : En → R (List D)) : En → R (List D) := fun env => (f env).bind fun a => (g env).bind fun l => .ok (a :: l)
theorem a_nil : PA X [] (tL B aNil) := PA.imp pa_nil fun _ _ _ ⟨_, F, r, q⟩ => q [] _ F r.stay .nil
theorem a_cons {e : Expr} {es : List Expr} {f : En → R D} {g : En → R (List D)} (h : PE X e (tE B f)) (t : PA X es (tL B g)) (hs : starEach (e :: es) X.env = (false, eval e X.env) :: starEach es X.env := by rfl) : PA X (e :: es) (tL B (aCons f g)) :=
  PA.imp (pa_cons h t hs) fun σ H Q ⟨env, F, rel, q⟩ => by
    refine ⟨env, F, rel, ?_⟩
    rcases q.bind with ⟨a, ea, q⟩ | ⟨c, ea, q⟩
    · rw [ea]
      intro x H1 F1 e1 rx
      refine ⟨env, F1, rel.mono e1, ?_⟩
      rcases q.bind with ⟨b, eb, q⟩ | ⟨c, eb, q⟩
      · rw [eb]
        exact fun y H2 F2 e2 ry => q (x :: y) H2 F2 (e1.trans e2) (.cons (rx.mono e2.fsame) ry)
      · rw [eb]
        exact q
    · rw [ea]
      exact q
theorem e_call [Calm G] {j : Nat} {x : Str} {fn : List D → R D} {e : Expr} {es : List Expr} {f : En → R (List D)} {p pos : Pos} (O : OkX G B k X) (F : FnS G j x fn) (hj : j ≤ k) (ha : PA X (e :: es) (tL B f)) (hg : Gl X x := by rfl)
    (hdb : (x == ("__debug__" : Str)) = false := by decide) (he : starEach (e :: es) X.env = (false, eval e X.env) :: starEach es X.env := by rfl) (hpl : (backTo pos (starEach es X.env)).any (·.1) = false := by rfl) :
    PE X (.Call (.Name x p) (e :: es) [] pos) (tE B (opL f fn)) := by
  obtain ⟨ps, a, fd, h1, h2, h3, h4, _⟩ := F
  have h4' : FnOk X.prog X.w X.K X.mg X.base (L2N.CX X.prog X.w) j a fd ps (spF G fn) := by
    rw [O.prog, O.w, O.GK, O.mg, O.base]
    exact h4
  refine PE.imp (pe_call h4' (O.roomX.mono hj) hg (by rw [O.mg]; exact h1) (by rw [O.GK]; exact h2) (by rw [O.GK]; exact h3) .nil O.pass ha hdb he hpl) fun σ H Q ⟨env, F, rel, q⟩ => ?_
  refine ⟨env, F, rel, ?_⟩
  rcases q.bind with ⟨ds, ea, q⟩ | ⟨c, ea, q⟩
  · rw [ea]
    intro xs H1 F1 e1 rx
    have rel1 := rel.mono e1
    rw [List.append_nil]
    refine ⟨ds, F1, by rw [← O.GK, ← O.K]; exact rx, rel1.ext.sub, rel1.ext.nt, by rw [← O.T]; exact rel1.tab, ?_⟩
    cases hf : fn ds with
    | ok d =>
      rw [hf] at q
      exact fun v H' F' e2 rv => q v H' F' (e1.trans (by rw [O.T]; exact e2)) (by rw [O.K, O.GK]; exact rv)
    | exc c =>
      rw [hf] at q
      exact fun H' e2 => ⟨c, rfl, rfl, q H' (rel1.ext.h.trans (by rw [O.T]; exact e2))⟩
    | bad => rw [hf] at q; exact q
  · rw [ea]
    exact q
end
end Mk
set_option maxHeartbeats 2000000
namespace Mk
open PySem PySem.Spec PyProof.Rows L2
section
variable {B : Bd} {H F : Hp} {x : V}
theorem RepO.int {i : Int} (h : RepO B H F x (.int i)) : x = .int i := by
  rcases h with h | ⟨a, vs, l, _, _, _, _, h5⟩ | ⟨a, vs, l, _, _, _, _, h5⟩
  · cases h; rfl
  · cases h5
  · cases h5
theorem RepO.bl {b : Bool} (h : RepO B H F x (.bl b)) : x = .bl b := by
  rcases h with h | ⟨a, vs, l, _, _, _, _, h5⟩ | ⟨a, vs, l, _, _, _, _, h5⟩
  · cases h; rfl
  · cases h5
  · cases h5
theorem RepO.non (h : RepO B H F x .non) : x = .non := by
  rcases h with h | ⟨a, vs, l, _, _, _, _, h5⟩ | ⟨a, vs, l, _, _, _, _, h5⟩
  · cases h; rfl
  · cases h5
  · cases h5
theorem RepO.str {z : Str} (h : RepO B H F x (.str z)) : x = .str z ∧ SOk z := by
  rcases h with h | ⟨a, vs, l, _, _, _, _, h5⟩ | ⟨a, vs, l, _, _, _, _, h5⟩
  · cases h with
    | str _ h => exact ⟨rfl, h⟩
  · cases h5
  · cases h5
theorem RepO.tup {l : List D} (h : RepO B H F x (.tup l)) : ∃ a xs, x = .ref a ∧ SqT B.K F a xs ∧ RepL B.K F xs l ∧ l.length ≤ sizeLine ∧ Rep B.K F x (.tup l) := by
  rcases h with h | ⟨a, vs, l, _, _, _, _, h5⟩ | ⟨a, vs, l, _, _, _, _, h5⟩
  · cases h with
    | tup h1 h2 h3 => exact ⟨_, _, rfl, h1, h2, h3, .tup h1 h2 h3⟩
  · cases h5
  · cases h5
theorem RepO.lst {l : List D} (sub : Same F H) (h : RepO B H F x (.lst l)) : ∃ a xs, x = .ref a ∧ H a = some (.lst xs) ∧ RepL B.K F xs l ∧ l.length ≤ sizeLine := by
  rcases h with h | ⟨a, vs, l, h1, h2, h3, h4, h5⟩ | ⟨a, vs, l, _, _, _, _, h5⟩
  · cases h with
    | lst h1 h2 h3 => exact ⟨_, _, rfl, sub _ _ h1, h2, h3⟩
  · cases h5; exact ⟨a, vs, h1, h2, h3, h4⟩
  · cases h5
theorem RepO.dic {l : List (Key × D)} (sub : Same F H) (h : RepO B H F x (.dic l)) : ∃ a xs, x = .ref a ∧ Rd H a (.dK xs) ∧ RepK B.K F xs l ∧ l.length ≤ sizeLine := by
  rcases h with h | ⟨a, vs, l, h1, h2, h3, h4, h5⟩ | ⟨a, vs, l, h1, h2, h3, h4, h5⟩
  · cases h with
    | dic h1 h2 h3 => exact ⟨_, _, rfl, .inr ⟨_, sub _ _ h1⟩, h2, h3⟩
  · cases h5
  · cases h5; exact ⟨a, vs, h1, .inl h2, h3, h4⟩
theorem RepO.scr {l : List Int} (sub : Same F H) (h : RepO B H F x (.scr l)) : ∃ a, x = .ref a ∧ SqL B.K H a (l.map V.int) := by
  rcases h with h | ⟨a, vs, l, h1, h2, h3, h4, h5⟩ | ⟨a, vs, l, h1, h2, h3, h4, h5⟩
  · cases h with
    | scr h1 => exact ⟨_, rfl, sqL_mono sub h1⟩
  · cases h5
  · cases h5
end
theorem OkX.lstH {G : Gx} {B : Bd} {k : Nat} {X : Cx} (O : OkX G B k X) {H : Hp} {a : Addr} {xs : List V} (h : SqL B.K H a xs) : SqL X.K H a xs := by
  rw [← O.K]
  exact h
theorem OkX.tupH {G : Gx} {B : Bd} {k : Nat} {X : Cx} (O : OkX G B k X) {F H : Hp} (sub : Same F H) {a : Addr} {xs : List V} (h : SqT B.K F a xs) : SqT X.K H a xs := by
  rw [← O.K]
  exact sqT_mono sub h
def LIM : Nat := 16777216
theorem LIM_eq : LIM = sizeLine := sizeLine_eq.symm
def mulOk (i j : Int) : Bool := decide (i.natAbs < 2 ^ 64) || decide (j.natAbs < 2 ^ 64) || (decide (i.natAbs < 2 ^ 4096) && decide (j.natAbs < 2 ^ 4096))
def addD : D → D → R D
  | .int i, .int j => .ok (.int (i + j))
  | .str x, .str y => if x.length + y.length ≤ LIM then .ok (.str (x ++ y)) else .bad
  | .tup x, .tup y => if x.length + y.length ≤ LIM then .ok (.tup (x ++ y)) else .bad
  | .lst x, .lst y => if x.length + y.length ≤ LIM then .ok (.lst (x ++ y)) else .bad
  | _, _ => .bad
def subD : D → D → R D
  | .int i, .int j => .ok (.int (i - j))
  | _, _ => .bad
def mulD : D → D → R D
  | .int i, .int j => if mulOk i j = true then .ok (.int (i * j)) else .bad
  | .lst x, .int k => if 0 ≤ k ∧ k < 1000 ∧ x.length ≤ 1000 then .ok (.lst (List.replicate k.toNat x).flatten) else .bad
  | _, _ => .bad
def divD : D → D → R D
  | .int i, .int j => if 0 < j ∧ j.natAbs < 2 ^ 4096 then .ok (.int (i / j)) else .bad
  | _, _ => .bad
def modD : D → D → R D
  | .int i, .int j => if 0 < j then .ok (.int (i % j)) else .bad
  | _, _ => .bad
theorem sok_append {x y : Str} (hx : SOk x) (hy : SOk y) (h : x.length + y.length ≤ LIM) : SOk (x ++ y) := by
  refine ⟨?_, ?_⟩
  · have h1 : x.cps.all (· < 0x110000) = true := hx.1
    have h2 : y.cps.all (· < 0x110000) = true := hy.1
    show (x.cps ++ y.cps).all (· < 0x110000) = true
    rw [Array.all_append, h1, h2]
    rfl
  · have e : (x ++ y).length = x.length + y.length := by
      show (x.cps ++ y.cps).size = x.cps.size + y.cps.size
      simp
    rw [e, ← LIM_eq]
    exact h
theorem GoodB.now {B : Bd} {H F : Hp} {Q : Bool → Hp → Prop} {b : Bool} {env : En} {σ : L2.St} (r : Rel B env σ H F) (h : GoodB B H F Q (.ok b)) : Q b H := h H F r.stay
section
variable {G : Gx} {B : Bd} {k : Nat} {X : Cx} {a b : Expr} {f g : En → R D} {pos : Pos}
theorem repL_flatten {K : PySem.W.Frag} {F : Hp} {xs : List V} {l : List D} (r : RepL K F xs l) : ∀ n : Nat, RepL K F (List.replicate n xs).flatten (List.replicate n l).flatten
  | 0 => .nil
  | n + 1 => by
    rw [List.replicate_succ, List.replicate_succ, List.flatten_cons, List.flatten_cons]
    exact r.append (repL_flatten r n)
theorem e_add (O : OkX G B k X) (ha : PE X a (tO B f)) (hb : PE X b (tO B g)) : PE X (.BinOp a .Add b pos) (tE B (op2 f g addD)) := by
  refine PE.imp (pe_op (op_add.or (op_add_str.or (op_catA.or op_cat))) ha hb) fun σ H Q => tOp_of fun x y a b H F env Q r rx ry q => ?_
  have sub := r.ext.sub
  cases a with
  | int i =>
    cases b with
    | int j => exact .inl ⟨i, j, rx.int, ry.int, q.now r (.int _)⟩
    | _ => exact q.elim
  | str i =>
    cases b with
    | str j =>
      obtain ⟨e1, s1⟩ := rx.str
      obtain ⟨e2, s2⟩ := ry.str
      simp only [addD] at q
      split at q
      · rename_i hz
        exact .inr (.inl ⟨i, j, e1, e2, by rw [← LIM_eq]; exact hz, q.now r (.str _ (sok_append s1 s2 hz))⟩)
      · exact q.elim
    | _ => exact q.elim
  | tup l =>
    cases b with
    | tup m =>
      obtain ⟨a1, xs, e1, h1, r1, z1, w1⟩ := rx.tup
      obtain ⟨a2, ys, e2, h2, r2, z2, w2⟩ := ry.tup
      simp only [addD] at q
      split at q
      · rename_i hz
        have hz' : (l ++ m).length ≤ sizeLine := by rw [List.length_append, ← LIM_eq]; exact hz
        refine .inr (.inr (.inl ⟨a1, a2, xs, ys, e1, e2, O.tupH sub h1, O.tupH sub h2, by rw [r1.length, r2.length, ← LIM_eq]; exact hz, fun e => ?_, fun _ e => ?_, fun _ _ p hp => ?_⟩))
        · subst e
          cases r1
          subst e2
          exact q.now r w2
        · subst e
          cases r2
          subst e1
          rw [List.append_nil] at q
          exact q.now r w1
        · have E := r.frz (o := .tup (xs ++ ys)) hp (fun ps z => by cases z)
          exact q _ _ _ E (.tup (.inl (.inl upd_same)) ((r1.append r2).mono E.fsame) hz')
      · exact q.elim
    | _ => exact q.elim
  | lst l =>
    cases b with
    | lst m =>
      obtain ⟨a1, xs, e1, h1, r1, z1⟩ := rx.lst sub
      obtain ⟨a2, ys, e2, h2, r2, z2⟩ := ry.lst sub
      simp only [addD] at q
      split at q
      · rename_i hz
        have hz' : (l ++ m).length ≤ sizeLine := by rw [List.length_append, ← LIM_eq]; exact hz
        refine .inr (.inr (.inr ⟨a1, a2, xs, ys, e1, e2, h1, h2, by rw [r1.length, r2.length, ← LIM_eq]; exact hz, fun p hp => ?_⟩))
        have E := r.frz (o := .lst (xs ++ ys)) hp (fun ps z => by cases z)
        exact q _ _ _ E (.lst upd_same ((r1.append r2).mono E.fsame) hz')
      · exact q.elim
    | _ => exact q.elim
  | _ => exact q.elim
theorem e_sub (ha : PE X a (tO B f)) (hb : PE X b (tO B g)) : PE X (.BinOp a .Sub b pos) (tE B (op2 f g subD)) := by
  refine PE.imp (pe_op op_sub ha hb) fun σ H Q => tOp_of fun x y a b H F env Q r rx ry q => ?_
  cases a with
  | int i =>
    cases b with
    | int j => exact ⟨i, j, rx.int, ry.int, q.now r (.int _)⟩
    | _ => exact q.elim
  | _ => exact q.elim
theorem mulOk_of {i j : Int} (h : mulOk i j = true) : CMul i j ∨ CMulW i j := by
  unfold mulOk at h
  rw [Bool.or_eq_true, Bool.or_eq_true, Bool.and_eq_true, decide_eq_true_eq, decide_eq_true_eq, decide_eq_true_eq, decide_eq_true_eq] at h
  rcases h with (h | h) | ⟨h1, h2⟩
  · exact .inl (.inl (by omega))
  · exact .inl (.inr (by omega))
  · exact .inr (wide_mul h1 h2 (by decide) (by decide) (by decide))
theorem e_mul (ha : PE X a (tO B f)) (hb : PE X b (tO B g)) : PE X (.BinOp a .Mult b pos) (tE B (op2 f g mulD)) := by
  refine PE.imp (pe_op (op_mul.or (op_mulW.or op_rep)) ha hb) fun σ H Q => tOp_of fun x y a b H F env Q r rx ry q => ?_
  have sub := r.ext.sub
  cases a with
  | int i =>
    cases b with
    | int j =>
      simp only [mulD] at q
      split at q
      · rename_i hm
        rcases mulOk_of hm with h | h
        · exact .inl ⟨i, j, rx.int, ry.int, h, q.now r (.int _)⟩
        · exact .inr (.inl ⟨i, j, rx.int, ry.int, h, q.now r (.int _)⟩)
      · exact q.elim
    | _ => exact q.elim
  | lst l =>
    cases b with
    | int j =>
      obtain ⟨a1, xs, e1, h1, r1, z1⟩ := rx.lst sub
      simp only [mulD] at q
      split at q
      · rename_i hm
        obtain ⟨m1, m2, m3⟩ := hm
        have hl : (List.replicate j.toNat l).flatten.length ≤ sizeLine := by
          have h1 : (List.replicate j.toNat l).flatten.length = j.toNat * l.length := by simp
          rw [h1, sizeLine_eq]
          calc j.toNat * l.length ≤ 1000 * 1000 := Nat.mul_le_mul (by omega) m3
            _ ≤ 16777216 := by decide
        refine .inr (.inr ⟨a1, j, xs, e1, ry.int, h1, by omega, by omega, ?_, fun p hp => ?_⟩)
        · rw [r1.length, sizeLine_eq]
          calc l.length * j.toNat ≤ 1000 * 1000 := Nat.mul_le_mul m3 (by omega)
            _ ≤ 16777216 := by decide
        · have E := r.frz (o := .lst (List.replicate j.toNat xs).flatten) hp (fun ps z => by cases z)
          exact q _ _ _ E (.lst upd_same ((repL_flatten r1 _).mono E.fsame) hl)
      · exact q.elim
    | _ => exact q.elim
  | _ => exact q.elim
theorem e_div (ha : PE X a (tO B f)) (hb : PE X b (tO B g)) : PE X (.BinOp a .FloorDiv b pos) (tE B (op2 f g divD)) := by
  refine PE.imp (pe_op op_fdivW ha hb) fun σ H Q => tOp_of fun x y a b H F env Q r rx ry q => ?_
  cases a with
  | int i =>
    cases b with
    | int j =>
      simp only [divD] at q
      split at q
      · rename_i hm
        exact ⟨i, j, rx.int, ry.int, wide_div hm.1 hm.2 (by decide) (by decide), q.now r (.int _)⟩
      · exact q.elim
    | _ => exact q.elim
  | _ => exact q.elim
theorem e_mod (ha : PE X a (tO B f)) (hb : PE X b (tO B g)) : PE X (.BinOp a .Mod b pos) (tE B (op2 f g modD)) := by
  refine PE.imp (pe_op op_mod ha hb) fun σ H Q => tOp_of fun x y a b H F env Q r rx ry q => ?_
  cases a with
  | int i =>
    cases b with
    | int j =>
      simp only [modD] at q
      split at q
      · rename_i hm
        exact ⟨i, j, rx.int, ry.int, hm, q.now r (.int _)⟩
      · exact q.elim
    | _ => exact q.elim
  | _ => exact q.elim
def negD : D → R D
  | .int i => .ok (.int (-i))
  | _ => .bad
theorem e_neg (ha : PE X a (tO B f)) : PE X (.UnaryOp .USub a pos) (tE B (op1 f negD)) := by
  refine PE.imp (pe_un un_neg ha) fun σ H Q => tUn_of fun x a H F env Q r rx q => ?_
  cases a with
  | int i => exact ⟨i, rx.int, q.now r (.int _)⟩
  | _ => exact q.elim
end
mutual
def D.py : D → PyData
  | .non => .none
  | .bl b => .bool b
  | .int i => .int i
  | .str s => .str s
  | .tup l => .tuple (pyL l)
  | .lst l => .list (pyL l)
  | .dic _ => .dict []
  | .scr l => .list (l.map .int)
  | .obj _ => .none
def pyL : List D → List PyData
  | [] => []
  | d :: ds => d.py :: pyL ds
end
mutual
/-- no dict within -/
def D.flat : D → Bool
  | .dic _ => false
  | .obj _ => false
  | .tup l => flatL l
  | .lst l => flatL l
  | _ => true
def flatL : List D → Bool
  | [] => true
  | d :: ds => d.flat && flatL ds
end
theorem dp_ints {K : PySem.W.Frag} {H : Hp} : ∀ ns : List Int, DpAll K H (ns.map V.int) (ns.map PyData.int)
  | [] => .nil
  | n :: ns => .cons (.int n) (dp_ints ns)
theorem lay_ints : ∀ ns : List Int, PyData.canLayAll0 (ns.map PyData.int) = true
  | [] => by simp [PyData.canLayAll0]
  | n :: ns => by simp [PyData.canLayAll0, PyData.canLay0, lay_ints ns]
mutual
theorem rep_dp {K : PySem.W.Frag} {F H : Hp} (sub : Same F H) : ∀ {v : V} {d : D}, Rep K F v d → d.flat = true → Dp K H v d.py
  | _, _, .non, _ => .non
  | _, _, .bl b, _ => .bl b
  | _, _, .int i, _ => .int i
  | _, _, .str x _, _ => .str x
  | _, _, .tup h r _, hf => .tup (sqT_mono sub h) (repL_dp sub r hf)
  | _, _, .lst h r _, hf => .lst (.inl (.inl (sub _ _ h))) (repL_dp sub r hf)
  | _, _, .dic _ _ _, hf => by cases hf
  | _, _, .obj _, hf => by cases hf
  | _, _, .scr h, _ => .lst (sqL_mono sub h) (dp_ints _)
theorem repL_dp {K : PySem.W.Frag} {F H : Hp} (sub : Same F H) : ∀ {v : List V} {d : List D}, RepL K F v d → flatL d = true → DpAll K H v (pyL d)
  | _, _, .nil, _ => .nil
  | _, _, .cons h r, hf => by
    have hf' := Bool.and_eq_true_iff.mp hf
    exact .cons (rep_dp sub h hf'.1) (repL_dp sub r hf'.2)
end
mutual
theorem rep_lay {K : PySem.W.Frag} {F : Hp} : ∀ {v : V} {d : D}, Rep K F v d → d.flat = true → d.py.canLay0 = true
  | _, _, .non, _ => by simp [D.py, PyData.canLay0]
  | _, _, .bl b, _ => by simp [D.py, PyData.canLay0]
  | _, _, .int i, _ => by simp [D.py, PyData.canLay0]
  | _, _, .str x h, _ => by simpa [D.py, PyData.canLay0] using h.1
  | _, _, .tup h r _, hf => by
    have := repL_lay r hf
    simpa [D.py, PyData.canLay0] using this
  | _, _, .lst h r _, hf => by
    have := repL_lay r hf
    simpa [D.py, PyData.canLay0] using this
  | _, _, .dic _ _ _, hf => by cases hf
  | _, _, .obj _, hf => by cases hf
  | _, _, .scr h, _ => by
    simp only [D.py, PyData.canLay0]
    exact lay_ints _
theorem repL_lay {K : PySem.W.Frag} {F : Hp} : ∀ {v : List V} {d : List D}, RepL K F v d → flatL d = true → PyData.canLayAll0 (pyL d) = true
  | _, _, .nil, _ => by simp [pyL, PyData.canLayAll0]
  | _, _, .cons h r, hf => by
    have hf' := Bool.and_eq_true_iff.mp hf
    have h1 := rep_lay h hf'.1
    have h2 := repL_lay r hf'.2
    simp [pyL, PyData.canLayAll0, h1, h2]
end
theorem repO_dp {B : Bd} {H F : Hp} (sub : Same F H) {v : V} {d : D} (h : RepO B H F v d) (hf : d.flat = true) : Dp B.K H v d.py ∧ d.py.canLay0 = true := by
  rcases h with h | ⟨a, vs, l, rfl, h2, h3, h4, rfl⟩ | ⟨a, vs, l, h1, h2, h3, h4, rfl⟩
  · exact ⟨rep_dp sub h hf, rep_lay h hf⟩
  · refine ⟨.lst (.inl (.inl h2)) (repL_dp sub h3 hf), ?_⟩
    have := repL_lay h3 hf
    simpa [D.py, PyData.canLay0] using this
  · cases hf
def eqOk (a b : D) : Bool := a.flat && b.flat && decide (a.py.depth ≤ 64) && decide (b.py.depth ≤ 64)
def eqD (a b : D) : R Bool := if eqOk a b = true then .ok (PyData.eqv a.py b.py) else .bad
def neD (a b : D) : R Bool := if eqOk a b = true then .ok (!PyData.eqv a.py b.py) else .bad
theorem eqOk_of {a b : D} (h : eqOk a b = true) : a.flat = true ∧ b.flat = true ∧ a.py.depth ≤ 64 ∧ b.py.depth ≤ 64 := by
  unfold eqOk at h
  simp only [Bool.and_eq_true, decide_eq_true_eq] at h
  exact ⟨h.1.1.1, h.1.1.2, h.1.2, h.2⟩
section
variable {G : Gx} {B : Bd} {k : Nat} {X : Cx} {a b : Expr} {f g : En → R D} {pos : Pos}
/-- a comparison's operator, by data -/
def CmpS (G : Gx) (B : Bd) (k : Nat) (op : CmpOp) (c : D → D → R Bool) : Prop := ∀ X, OkX G B k X → ∃ r : R2, OpR X (compareOp op) r ∧
  ∀ (x y : V) (a b : D) (H F : Hp) (σ : L2.St) (env : En) (Q : Bool → Hp → Prop), Rel B env σ H F → RepO B H F x a → RepO B H F y b → GoodB B H F Q (c a b) → r x y H fun z H' => ∃ b, z = .bl b ∧ Q b H'
theorem c_eq : CmpS G B k .Eq eqD := fun X O => ⟨_, op_eqD O.room.units, fun x y a b H F σ env Q r rx ry q => by
  unfold eqD at q
  split at q
  · rename_i h
    obtain ⟨h1, h2, h3, h4⟩ := eqOk_of h
    obtain ⟨d1, l1⟩ := repO_dp r.ext.sub rx h1
    obtain ⟨d2, l2⟩ := repO_dp r.ext.sub ry h2
    rw [O.K] at d1 d2
    exact ⟨_, _, d1, d2, by unfold SeqAt.shaped; rw [l1]; simpa using h3, by unfold SeqAt.shaped; rw [l2]; simpa using h4, ⟨_, rfl, q.now r⟩⟩
  · exact q.elim⟩
theorem c_ne : CmpS G B k .NotEq neD := fun X O => ⟨_, op_neD O.room.units, fun x y a b H F σ env Q r rx ry q => by
  unfold neD at q
  split at q
  · rename_i h
    obtain ⟨h1, h2, h3, h4⟩ := eqOk_of h
    obtain ⟨d1, l1⟩ := repO_dp r.ext.sub rx h1
    obtain ⟨d2, l2⟩ := repO_dp r.ext.sub ry h2
    rw [O.K] at d1 d2
    exact ⟨_, _, d1, d2, by unfold SeqAt.shaped; rw [l1]; simpa using h3, by unfold SeqAt.shaped; rw [l2]; simpa using h4, ⟨_, rfl, q.now r⟩⟩
  · exact q.elim⟩
def isND : D → D → R Bool
  | a, .non => .ok (match a with | .non => true | _ => false)
  | .bl a, .bl b => .ok (decide (a = b))
  | _, _ => .bad
def isntD : D → D → R Bool
  | a, .non => .ok (match a with | .non => false | _ => true)
  | .bl a, .bl b => .ok (!decide (a = b))
  | _, _ => .bad
theorem repO_none {H F : Hp} {x : V} {a : D} (h : RepO B H F x a) : decide (x = .non) = (match a with | .non => true | _ => false) := by
  rcases h with h | ⟨a, vs, l, rfl, h2, h3, h4, rfl⟩ | ⟨a, vs, l, rfl, h2, h3, h4, rfl⟩
  · cases h <;> simp
  · simp
  · simp
theorem c_is : CmpS G B k .Is isND := fun X O => ⟨_, op_isN.or op_is_bl, fun x y a b H F σ env Q r rx ry q => by
  cases b with
  | non =>
    refine .inl ⟨ry.non, ?_⟩
    rw [repO_none rx]
    cases a <;> exact ⟨_, rfl, q.now r⟩
  | bl b' =>
    cases a with
    | bl a' => exact .inr ⟨a', b', rx.bl, ry.bl, ⟨_, rfl, q.now r⟩⟩
    | _ => exact q.elim
  | _ => cases a <;> exact q.elim⟩
theorem c_isnt : CmpS G B k .IsNot isntD := fun X O => ⟨_, op_notN.or op_isnot_bl, fun x y a b H F σ env Q r rx ry q => by
  cases b with
  | non =>
    refine .inl ⟨ry.non, ?_⟩
    rw [repO_none rx]
    cases a <;> exact ⟨_, rfl, q.now r⟩
  | bl b' =>
    cases a with
    | bl a' => exact .inr ⟨a', b', rx.bl, ry.bl, ⟨_, rfl, q.now r⟩⟩
    | _ => exact q.elim
  | _ => cases a <;> exact q.elim⟩
def bD (c : D → D → R Bool) : D → D → R D := fun a b => (c a b).map .bl
def op2b (f g : En → R D) (c : D → D → R Bool) : En → R Bool := fun env => (f env).bind fun a => (g env).bind fun b => c a b
theorem Good.bl {H F : Hp} {Q : VK} {r : R Bool} (h : Good B H F Q (r.map .bl)) : GoodB B H F (fun b H' => Q (.bl b) H') r := by
  cases r with
  | ok b => exact fun H' F' e => h _ H' F' e (.bl b)
  | exc c => exact h
  | bad => exact h
theorem e_cmp {op : CmpOp} {c : D → D → R Bool} (O : OkX G B k X) (hc : CmpS G B k op c) (ha : PE X a (tO B f)) (hb : PE X b (tO B g)) (hm : behindInMarks op b = false := by first | rfl | exact nomark _) (mono : True := trivial) : PE X (.Compare a [op] [b] pos) (tE B (op2 f g (bD c))) := by
  obtain ⟨r, h1, h2⟩ := hc X O
  have ho : OpR X (compareOp op) (fun x y H Q => r x y H fun z H' => ∃ b, z = .bl b ∧ Q (.bl b) H') := fun pins s σ H x y v u Q I rx ry q =>
    thn (h1 pins s σ H x y v u _ I rx ry q) fun z s' ⟨w, H', I', rw', b, e, q'⟩ => by subst e; exact ⟨.bl b, H', I', rw', q'⟩
  exact PE.imp (pe_cmpR ho ha hb hm) fun σ H Q => tOp_of fun x y a b H F env Q r rx ry q => h2 x y a b H F σ env _ r rx ry q.bl
theorem t_cmp {op : CmpOp} {c : D → D → R Bool} (O : OkX G B k X) (hc : CmpS G B k op c) (ha : PE X a (tO B f)) (hb : PE X b (tO B g)) (hm : behindInMarks op b = false := by first | rfl | exact nomark _) : PT X (.Compare a [op] [b] pos) (tQ B (op2b f g c)) := by
  obtain ⟨r, h1, h2⟩ := hc X O
  refine PT.imp (pt_cmpR h1 ha hb hm) fun σ H Q ⟨env, F, rel, q⟩ => ?_
  refine ⟨env, F, rel, ?_⟩
  rcases q.bind with ⟨a, ea, q⟩ | ⟨c, ea, q⟩
  · rw [ea]
    intro x H1 F1 e1 rx
    refine ⟨env, F1, rel.mono e1, ?_⟩
    rcases q.bind with ⟨b, eb, q⟩ | ⟨c, eb, q⟩
    · rw [eb]
      exact fun y H2 F2 e2 ry => h2 x y a b H2 F2 σ env _ (rel.mono (e1.trans e2)) (rx.mono e2) ry (q.mono (e1.trans e2))
    · rw [eb]
      exact q
  · rw [ea]
    exact q
end
end Mk
set_option maxHeartbeats 2000000
namespace Mk
open PySem PySem.Spec PyProof.Rows L2
inductive Od where | lt | le | gt | ge
def Od.i : Od → Int → Int → Bool
  | .lt, i, j => decide (i < j)
  | .le, i, j => decide (i ≤ j)
  | .gt, i, j => decide (j < i)
  | .ge, i, j => decide (j ≤ i)
def Od.s : Od → Str → Str → Bool
  | .lt, i, j => decide (i.cps.toList < j.cps.toList)
  | .le, i, j => !decide (j.cps.toList < i.cps.toList)
  | .gt, i, j => decide (j.cps.toList < i.cps.toList)
  | .ge, i, j => !decide (i.cps.toList < j.cps.toList)
def Od.n (o : Od) (i j : Nat) : Bool := o.i i j
/-- two items: are they the same, are they in order -/
def pairO (o : Od) : D → D → Option (Bool × Bool)
  | .int i, .int j => some (decide (i = j), o.i i j)
  | .str x, .str y => some (decide (x = y), o.s x y)
  | _, _ => none
/-- the first items that differ tell; none, if some can't be compared -/
def lexO (o : Od) : List D → List D → Option Bool
  | x :: xs, y :: ys => (pairO o x y).bind fun p => (lexO o xs ys).map fun r => if p.1 = true then r else p.2
  | xs, ys => some (o.n xs.length ys.length)
def ordD (o : Od) : D → D → R Bool
  | .int i, .int j => .ok (o.i i j)
  | .str x, .str y => .ok (o.s x y)
  | .tup x, .tup y => match lexO o x y with
    | some b => .ok b
    | none => .bad
  | _, _ => .bad
/-- .. of values -/
def pairV (o : Od) : V → V → Option (Bool × Bool)
  | .int i, .int j => some (decide (i = j), o.i i j)
  | .str x, .str y => some (decide (x = y), o.s x y)
  | _, _ => none
theorem pair_rep {o : Od} {K : PySem.W.Frag} {F : Hp} {x y : V} {a b : D} {p : Bool × Bool} (hx : Rep K F x a) (hy : Rep K F y b) (h : pairO o a b = some p) : pairV o x y = some p := by
  cases hx <;> cases hy <;> first | exact h | cases h
/-- what lexO says, by places -/
theorem lex_at {o : Od} {K : PySem.W.Frag} {F : Hp} : ∀ {xs ys : List V} {l m : List D} {b : Bool}, RepL K F xs l → RepL K F ys m → lexO o l m = some b →
    (∀ j : Nat, j < min xs.length ys.length → ∃ x y p, xs[j]? = some x ∧ ys[j]? = some y ∧ pairV o x y = some p) ∧
    Ob.lexAt (fun j => ((xs[j]?.bind fun x => ys[j]?.bind fun y => pairV o x y).map (·.1)).getD false) (fun j => ((xs[j]?.bind fun x => ys[j]?.bind fun y => pairV o x y).map (·.2)).getD false) (o.n xs.length ys.length) 0 (min xs.length ys.length) = b := by
  have shift : ∀ (e r : Nat → Bool) (z : Bool) (i k : Nat), Ob.lexAt e r z (i + 1) k = Ob.lexAt (fun j => e (j + 1)) (fun j => r (j + 1)) z i k := by
    intro e r z i k
    induction k generalizing i with
    | zero => rfl
    | succ k ih => rw [Ob.lexAt_succ, Ob.lexAt_succ, ih]
  intro xs
  induction xs with
  | nil =>
    intro ys l m b hx hy h
    cases hx
    have hl := hy.length
    refine ⟨fun j hj => absurd hj (by simp), ?_⟩
    rw [show min ([] : List V).length ys.length = 0 by simp, Ob.lexAt_zero]
    rw [lexO] at h
    · rw [hl]
      exact Option.some.inj h
    · simp
  | cons x xs ih =>
    intro ys l m b hx hy h
    cases hx with
    | cons hx1 hxr =>
      cases hy with
      | nil =>
        refine ⟨fun j hj => absurd hj (by simp), ?_⟩
        rw [show min (x :: xs).length ([] : List V).length = 0 by simp, Ob.lexAt_zero]
        rw [lexO] at h
        · rw [List.length_cons] at h ⊢
          rw [hxr.length]
          exact Option.some.inj h
        · simp
      | cons hy1 hyr =>
        rename_i d ds y ys e es
        simp only [lexO] at h
        cases hp : pairO o d e with
        | none => rw [hp] at h; cases h
        | some p =>
          rw [hp] at h
          simp only [Option.bind_some] at h
          cases hq : lexO o ds es with
          | none => rw [hq] at h; cases h
          | some c =>
            rw [hq] at h
            have hb : (if p.1 = true then c else p.2) = b := Option.some.inj h
            have pv := pair_rep hx1 hy1 hp
            obtain ⟨g1, g2⟩ := ih hxr hyr hq
            refine ⟨fun j hj => ?_, ?_⟩
            · cases j with
              | zero => exact ⟨x, y, p, rfl, rfl, pv⟩
              | succ j =>
                simp only [List.length_cons] at hj
                exact g1 j (by omega)
            · rw [show min (x :: xs).length (y :: ys).length = min xs.length ys.length + 1 by simp only [List.length_cons]; omega, Ob.lexAt_succ, shift]
              simp only [List.getElem?_cons_zero, Option.bind_some, pv, Option.map_some, Option.getD_some, List.getElem?_cons_succ]
              have hn : o.n (x :: xs).length (y :: ys).length = o.n xs.length ys.length := by
                cases o <;> simp [Od.n, Od.i, List.length_cons]
              rw [hn, g2]
              exact hb
def rOd_lt (K : PySem.W.Frag) : R2 := fun x y H Q => ∃ (a b : Addr) (xs ys : List V), x = .ref a ∧ y = .ref b ∧ SqT K H a xs ∧ SqT K H b ys ∧
  (∀ j : Nat, j < min xs.length ys.length → ∃ x y p, xs[j]? = some x ∧ ys[j]? = some y ∧ pairV .lt x y = some p) ∧
  Q (.bl (Ob.lexAt (fun j => ((xs[j]?.bind fun x => ys[j]?.bind fun y => pairV .lt x y).map (·.1)).getD false) (fun j => ((xs[j]?.bind fun x => ys[j]?.bind fun y => pairV .lt x y).map (·.2)).getD false) (Od.n .lt xs.length ys.length) 0 (min xs.length ys.length))) H
theorem op_od_lt {X : Cx} (hu : X.A.units < cLine) : OpR X (compareOp .Lt) (rOd_lt X.K) := by
  intro pins s σ H x y v u Q I rx ry h
  obtain ⟨a, b, xs, ys, rfl, rfl, ha, hb, hp, q⟩ := h
  cases rx
  cases ry
  obtain ⟨its, r1, p1, _⟩ := I.tuple ha
  obtain ⟨its2, r2, p2, _⟩ := I.tuple hb
  have e1 : its.toArray.size = xs.length := by rw [List.size_toArray]; exact r1.length.symm
  have e2 : its2.toArray.size = ys.length := by rw [List.size_toArray]; exact r2.length.symm
  have at1 : ∀ (j : Nat) (h1 : j < its.toArray.size) (x : V), xs[j]? = some x → RelV x its.toArray[j] := fun j h1 x hx => by
    obtain ⟨u, hu, ru⟩ := r1.get hx
    have : its.toArray[j] = u := by
      simp at h1
      rw [List.getElem?_eq_getElem h1] at hu
      simpa using Option.some.inj hu
    rw [this]; exact ru
  have at2 : ∀ (j : Nat) (h1 : j < its2.toArray.size) (x : V), ys[j]? = some x → RelV x its2.toArray[j] := fun j h1 x hx => by
    obtain ⟨u, hu, ru⟩ := r2.get hx
    have : its2.toArray[j] = u := by
      simp at h1
      rw [List.getElem?_eq_getElem h1] at hu
      simpa using Option.some.inj hu
    rw [this]; exact ru
  have R := Ob.RcOp.tuples_lt (A := X.A) (s := s) (e := fun j => ((xs[j]?.bind fun x => ys[j]?.bind fun y => pairV .lt x y).map (·.1)).getD false) (r := fun j => ((xs[j]?.bind fun x => ys[j]?.bind fun y => pairV .lt x y).map (·.2)).getD false) p1 p2 hu (fun j h1 h2 => by
    obtain ⟨x, y, p, hx, hy, hpv⟩ := hp j (by omega)
    have z1 := at1 j h1 x hx
    have z2 := at2 j h2 y hy
    simp only [hx, hy, Option.bind_some, hpv, Option.map_some, Option.getD_some]
    generalize its.toArray[j] = ua at z1 ⊢
    generalize its2.toArray[j] = ub at z2 ⊢
    cases x with
    | int i =>
      cases y with
      | int j =>
        obtain ⟨t, rfl⟩ := z1
        obtain ⟨t', rfl⟩ := z2
        have hp' : p = (decide (i = j), Od.i .lt i j) := (Option.some.inj hpv).symm
        rw [hp']
        have z : (i == j) = decide (i = j) := by
          by_cases q : i = j
          · rw [decide_eq_true q]; exact beq_iff_eq.mpr q
          · rw [decide_eq_false q]; exact beq_eq_false_iff_ne.mpr q
        show SeqAt.EqAt X.A.in1 s _ _ (decide (i = j))
        rw [← z]
        exact SeqAt.EqAt.int_int _ _ _ _
      | _ => cases hpv
    | str i =>
      cases y with
      | str j =>
        obtain ⟨t, rfl⟩ := z1
        obtain ⟨t', rfl⟩ := z2
        have hp' : p = (decide (i = j), Od.s .lt i j) := (Option.some.inj hpv).symm
        rw [hp']
        have z : (i == j) = decide (i = j) := by
          by_cases q : i = j
          · rw [decide_eq_true q]; exact beq_iff_eq.mpr q
          · rw [decide_eq_false q]; exact beq_eq_false_iff_ne.mpr q
        show SeqAt.EqAt X.A.in1 s _ _ (decide (i = j))
        rw [← z]
        exact SeqAt.EqAt.str_str _ _ _ _
      | _ => cases hpv
    | _ => cases hpv) (fun j h1 h2 _ => by
    obtain ⟨x, y, p, hx, hy, hpv⟩ := hp j (by omega)
    have z1 := at1 j h1 x hx
    have z2 := at2 j h2 y hy
    simp only [hx, hy, Option.bind_some, hpv, Option.map_some, Option.getD_some]
    generalize its.toArray[j] = ua at z1 ⊢
    generalize its2.toArray[j] = ub at z2 ⊢
    cases x with
    | int i =>
      cases y with
      | int j =>
        obtain ⟨t, rfl⟩ := z1
        obtain ⟨t', rfl⟩ := z2
        have hp' : p = (decide (i = j), Od.i .lt i j) := (Option.some.inj hpv).symm
        rw [hp']
        exact Ob.RcOp.lt_int _ _ _ _
      | _ => cases hpv
    | str i =>
      cases y with
      | str j =>
        obtain ⟨t, rfl⟩ := z1
        obtain ⟨t', rfl⟩ := z2
        have hp' : p = (decide (i = j), Od.s .lt i j) := (Option.some.inj hpv).symm
        rw [hp']
        exact fun _ _ _ _ h => PyProof.Rows.lt_str h
      | _ => cases hpv
    | _ => cases hpv)
  rw [e1, e2] at R
  have hn : Od.n .lt xs.length ys.length = decide (xs.length < ys.length) := by
    simp [Od.n, Od.i]
  rw [hn] at q
  have z : wpAny (model X.prog X.w) X.A (compareOp .Lt (.ref a) (.ref b)) (EP X pins σ Q) X.xe s := R X.prog X.w X.xe (EP X pins σ Q) ⟨.bl _, H, I, rfl, q⟩
  exact z
section
variable {G : Gx} {B : Bd} {k : Nat}
theorem c_lt : CmpS G B k .Lt (ordD .lt) := fun X O => ⟨_, op_lt.or (op_lt_str.or (op_od_lt O.room.units0)), fun x y a b H F σ env Q r rx ry q => by
  cases a with
  | int i =>
    cases b with
    | int j => exact .inl ⟨i, j, rx.int, ry.int, ⟨_, rfl, q.now r⟩⟩
    | _ => exact q.elim
  | str i =>
    cases b with
    | str j => exact .inr (.inl ⟨i, j, rx.str.1, ry.str.1, ⟨_, rfl, q.now r⟩⟩)
    | _ => exact q.elim
  | tup l =>
    cases b with
    | tup m =>
      obtain ⟨a1, xs, e1, h1, r1, z1, w1⟩ := rx.tup
      obtain ⟨a2, ys, e2, h2, r2, z2, w2⟩ := ry.tup
      simp only [ordD] at q
      cases hb : lexO .lt l m with
      | none => rw [hb] at q; exact q.elim
      | some c =>
        rw [hb] at q
        obtain ⟨g1, g2⟩ := lex_at r1 r2 hb
        refine .inr (.inr ⟨a1, a2, xs, ys, e1, e2, O.tupH r.ext.sub h1, O.tupH r.ext.sub h2, g1, ?_⟩)
        rw [g2]
        exact ⟨_, rfl, q.now r⟩
    | _ => exact q.elim
  | _ => exact q.elim⟩
end
def rOd_le (K : PySem.W.Frag) : R2 := fun x y H Q => ∃ (a b : Addr) (xs ys : List V), x = .ref a ∧ y = .ref b ∧ SqT K H a xs ∧ SqT K H b ys ∧
  (∀ j : Nat, j < min xs.length ys.length → ∃ x y p, xs[j]? = some x ∧ ys[j]? = some y ∧ pairV .le x y = some p) ∧
  Q (.bl (Ob.lexAt (fun j => ((xs[j]?.bind fun x => ys[j]?.bind fun y => pairV .le x y).map (·.1)).getD false) (fun j => ((xs[j]?.bind fun x => ys[j]?.bind fun y => pairV .le x y).map (·.2)).getD false) (Od.n .le xs.length ys.length) 0 (min xs.length ys.length))) H
theorem op_od_le {X : Cx} (hu : X.A.units < cLine) : OpR X (compareOp .LtE) (rOd_le X.K) := by
  intro pins s σ H x y v u Q I rx ry h
  obtain ⟨a, b, xs, ys, rfl, rfl, ha, hb, hp, q⟩ := h
  cases rx
  cases ry
  obtain ⟨its, r1, p1, _⟩ := I.tuple ha
  obtain ⟨its2, r2, p2, _⟩ := I.tuple hb
  have e1 : its.toArray.size = xs.length := by rw [List.size_toArray]; exact r1.length.symm
  have e2 : its2.toArray.size = ys.length := by rw [List.size_toArray]; exact r2.length.symm
  have at1 : ∀ (j : Nat) (h1 : j < its.toArray.size) (x : V), xs[j]? = some x → RelV x its.toArray[j] := fun j h1 x hx => by
    obtain ⟨u, hu, ru⟩ := r1.get hx
    have : its.toArray[j] = u := by
      simp at h1
      rw [List.getElem?_eq_getElem h1] at hu
      simpa using Option.some.inj hu
    rw [this]; exact ru
  have at2 : ∀ (j : Nat) (h1 : j < its2.toArray.size) (x : V), ys[j]? = some x → RelV x its2.toArray[j] := fun j h1 x hx => by
    obtain ⟨u, hu, ru⟩ := r2.get hx
    have : its2.toArray[j] = u := by
      simp at h1
      rw [List.getElem?_eq_getElem h1] at hu
      simpa using Option.some.inj hu
    rw [this]; exact ru
  have R := Ob.RcOp.tuples_le (A := X.A) (s := s) (e := fun j => ((xs[j]?.bind fun x => ys[j]?.bind fun y => pairV .le x y).map (·.1)).getD false) (r := fun j => ((xs[j]?.bind fun x => ys[j]?.bind fun y => pairV .le x y).map (·.2)).getD false) p1 p2 hu (fun j h1 h2 => by
    obtain ⟨x, y, p, hx, hy, hpv⟩ := hp j (by omega)
    have z1 := at1 j h1 x hx
    have z2 := at2 j h2 y hy
    simp only [hx, hy, Option.bind_some, hpv, Option.map_some, Option.getD_some]
    generalize its.toArray[j] = ua at z1 ⊢
    generalize its2.toArray[j] = ub at z2 ⊢
    cases x with
    | int i =>
      cases y with
      | int j =>
        obtain ⟨t, rfl⟩ := z1
        obtain ⟨t', rfl⟩ := z2
        have hp' : p = (decide (i = j), Od.i .le i j) := (Option.some.inj hpv).symm
        rw [hp']
        have z : (i == j) = decide (i = j) := by
          by_cases q : i = j
          · rw [decide_eq_true q]; exact beq_iff_eq.mpr q
          · rw [decide_eq_false q]; exact beq_eq_false_iff_ne.mpr q
        show SeqAt.EqAt X.A.in1 s _ _ (decide (i = j))
        rw [← z]
        exact SeqAt.EqAt.int_int _ _ _ _
      | _ => cases hpv
    | str i =>
      cases y with
      | str j =>
        obtain ⟨t, rfl⟩ := z1
        obtain ⟨t', rfl⟩ := z2
        have hp' : p = (decide (i = j), Od.s .le i j) := (Option.some.inj hpv).symm
        rw [hp']
        have z : (i == j) = decide (i = j) := by
          by_cases q : i = j
          · rw [decide_eq_true q]; exact beq_iff_eq.mpr q
          · rw [decide_eq_false q]; exact beq_eq_false_iff_ne.mpr q
        show SeqAt.EqAt X.A.in1 s _ _ (decide (i = j))
        rw [← z]
        exact SeqAt.EqAt.str_str _ _ _ _
      | _ => cases hpv
    | _ => cases hpv) (fun j h1 h2 _ => by
    obtain ⟨x, y, p, hx, hy, hpv⟩ := hp j (by omega)
    have z1 := at1 j h1 x hx
    have z2 := at2 j h2 y hy
    simp only [hx, hy, Option.bind_some, hpv, Option.map_some, Option.getD_some]
    generalize its.toArray[j] = ua at z1 ⊢
    generalize its2.toArray[j] = ub at z2 ⊢
    cases x with
    | int i =>
      cases y with
      | int j =>
        obtain ⟨t, rfl⟩ := z1
        obtain ⟨t', rfl⟩ := z2
        have hp' : p = (decide (i = j), Od.i .le i j) := (Option.some.inj hpv).symm
        rw [hp']
        exact Ob.RcOp.le_int _ _ _ _
      | _ => cases hpv
    | str i =>
      cases y with
      | str j =>
        obtain ⟨t, rfl⟩ := z1
        obtain ⟨t', rfl⟩ := z2
        have hp' : p = (decide (i = j), Od.s .le i j) := (Option.some.inj hpv).symm
        rw [hp']
        exact fun _ _ _ _ h => PySem.P.le_str h
      | _ => cases hpv
    | _ => cases hpv)
  rw [e1, e2] at R
  have hn : Od.n .le xs.length ys.length = decide (xs.length ≤ ys.length) := by
    simp [Od.n, Od.i]
  rw [hn] at q
  have z : wpAny (model X.prog X.w) X.A (compareOp .LtE (.ref a) (.ref b)) (EP X pins σ Q) X.xe s := R X.prog X.w X.xe (EP X pins σ Q) ⟨.bl _, H, I, rfl, q⟩
  exact z
section
variable {G : Gx} {B : Bd} {k : Nat}
theorem c_le : CmpS G B k .LtE (ordD .le) := fun X O => ⟨_, op_le.or (op_le_str.or (op_od_le O.room.units0)), fun x y a b H F σ env Q r rx ry q => by
  cases a with
  | int i =>
    cases b with
    | int j => exact .inl ⟨i, j, rx.int, ry.int, ⟨_, rfl, q.now r⟩⟩
    | _ => exact q.elim
  | str i =>
    cases b with
    | str j => exact .inr (.inl ⟨i, j, rx.str.1, ry.str.1, ⟨_, rfl, q.now r⟩⟩)
    | _ => exact q.elim
  | tup l =>
    cases b with
    | tup m =>
      obtain ⟨a1, xs, e1, h1, r1, z1, w1⟩ := rx.tup
      obtain ⟨a2, ys, e2, h2, r2, z2, w2⟩ := ry.tup
      simp only [ordD] at q
      cases hb : lexO .le l m with
      | none => rw [hb] at q; exact q.elim
      | some c =>
        rw [hb] at q
        obtain ⟨g1, g2⟩ := lex_at r1 r2 hb
        refine .inr (.inr ⟨a1, a2, xs, ys, e1, e2, O.tupH r.ext.sub h1, O.tupH r.ext.sub h2, g1, ?_⟩)
        rw [g2]
        exact ⟨_, rfl, q.now r⟩
    | _ => exact q.elim
  | _ => exact q.elim⟩
end
def rOd_gt (K : PySem.W.Frag) : R2 := fun x y H Q => ∃ (a b : Addr) (xs ys : List V), x = .ref a ∧ y = .ref b ∧ SqT K H a xs ∧ SqT K H b ys ∧
  (∀ j : Nat, j < min xs.length ys.length → ∃ x y p, xs[j]? = some x ∧ ys[j]? = some y ∧ pairV .gt x y = some p) ∧
  Q (.bl (Ob.lexAt (fun j => ((xs[j]?.bind fun x => ys[j]?.bind fun y => pairV .gt x y).map (·.1)).getD false) (fun j => ((xs[j]?.bind fun x => ys[j]?.bind fun y => pairV .gt x y).map (·.2)).getD false) (Od.n .gt xs.length ys.length) 0 (min xs.length ys.length))) H
theorem op_od_gt {X : Cx} (hu : X.A.units < cLine) : OpR X (compareOp .Gt) (rOd_gt X.K) := by
  intro pins s σ H x y v u Q I rx ry h
  obtain ⟨a, b, xs, ys, rfl, rfl, ha, hb, hp, q⟩ := h
  cases rx
  cases ry
  obtain ⟨its, r1, p1, _⟩ := I.tuple ha
  obtain ⟨its2, r2, p2, _⟩ := I.tuple hb
  have e1 : its.toArray.size = xs.length := by rw [List.size_toArray]; exact r1.length.symm
  have e2 : its2.toArray.size = ys.length := by rw [List.size_toArray]; exact r2.length.symm
  have at1 : ∀ (j : Nat) (h1 : j < its.toArray.size) (x : V), xs[j]? = some x → RelV x its.toArray[j] := fun j h1 x hx => by
    obtain ⟨u, hu, ru⟩ := r1.get hx
    have : its.toArray[j] = u := by
      simp at h1
      rw [List.getElem?_eq_getElem h1] at hu
      simpa using Option.some.inj hu
    rw [this]; exact ru
  have at2 : ∀ (j : Nat) (h1 : j < its2.toArray.size) (x : V), ys[j]? = some x → RelV x its2.toArray[j] := fun j h1 x hx => by
    obtain ⟨u, hu, ru⟩ := r2.get hx
    have : its2.toArray[j] = u := by
      simp at h1
      rw [List.getElem?_eq_getElem h1] at hu
      simpa using Option.some.inj hu
    rw [this]; exact ru
  have R := Ob.RcOp.tuples_gt (A := X.A) (s := s) (e := fun j => ((xs[j]?.bind fun x => ys[j]?.bind fun y => pairV .gt x y).map (·.1)).getD false) (r := fun j => ((xs[j]?.bind fun x => ys[j]?.bind fun y => pairV .gt x y).map (·.2)).getD false) p1 p2 hu (fun j h1 h2 => by
    obtain ⟨x, y, p, hx, hy, hpv⟩ := hp j (by omega)
    have z1 := at1 j h1 x hx
    have z2 := at2 j h2 y hy
    simp only [hx, hy, Option.bind_some, hpv, Option.map_some, Option.getD_some]
    generalize its.toArray[j] = ua at z1 ⊢
    generalize its2.toArray[j] = ub at z2 ⊢
    cases x with
    | int i =>
      cases y with
      | int j =>
        obtain ⟨t, rfl⟩ := z1
        obtain ⟨t', rfl⟩ := z2
        have hp' : p = (decide (i = j), Od.i .gt i j) := (Option.some.inj hpv).symm
        rw [hp']
        have z : (i == j) = decide (i = j) := by
          by_cases q : i = j
          · rw [decide_eq_true q]; exact beq_iff_eq.mpr q
          · rw [decide_eq_false q]; exact beq_eq_false_iff_ne.mpr q
        show SeqAt.EqAt X.A.in1 s _ _ (decide (i = j))
        rw [← z]
        exact SeqAt.EqAt.int_int _ _ _ _
      | _ => cases hpv
    | str i =>
      cases y with
      | str j =>
        obtain ⟨t, rfl⟩ := z1
        obtain ⟨t', rfl⟩ := z2
        have hp' : p = (decide (i = j), Od.s .gt i j) := (Option.some.inj hpv).symm
        rw [hp']
        have z : (i == j) = decide (i = j) := by
          by_cases q : i = j
          · rw [decide_eq_true q]; exact beq_iff_eq.mpr q
          · rw [decide_eq_false q]; exact beq_eq_false_iff_ne.mpr q
        show SeqAt.EqAt X.A.in1 s _ _ (decide (i = j))
        rw [← z]
        exact SeqAt.EqAt.str_str _ _ _ _
      | _ => cases hpv
    | _ => cases hpv) (fun j h1 h2 _ => by
    obtain ⟨x, y, p, hx, hy, hpv⟩ := hp j (by omega)
    have z1 := at1 j h1 x hx
    have z2 := at2 j h2 y hy
    simp only [hx, hy, Option.bind_some, hpv, Option.map_some, Option.getD_some]
    generalize its.toArray[j] = ua at z1 ⊢
    generalize its2.toArray[j] = ub at z2 ⊢
    cases x with
    | int i =>
      cases y with
      | int j =>
        obtain ⟨t, rfl⟩ := z1
        obtain ⟨t', rfl⟩ := z2
        have hp' : p = (decide (i = j), Od.i .gt i j) := (Option.some.inj hpv).symm
        rw [hp']
        exact Ob.RcOp.gt_int _ _ _ _
      | _ => cases hpv
    | str i =>
      cases y with
      | str j =>
        obtain ⟨t, rfl⟩ := z1
        obtain ⟨t', rfl⟩ := z2
        have hp' : p = (decide (i = j), Od.s .gt i j) := (Option.some.inj hpv).symm
        rw [hp']
        exact fun _ _ _ _ h => PySem.P.gt_str h
      | _ => cases hpv
    | _ => cases hpv)
  rw [e1, e2] at R
  have hn : Od.n .gt xs.length ys.length = decide (xs.length > ys.length) := by
    simp [Od.n, Od.i]
  rw [hn] at q
  have z : wpAny (model X.prog X.w) X.A (compareOp .Gt (.ref a) (.ref b)) (EP X pins σ Q) X.xe s := R X.prog X.w X.xe (EP X pins σ Q) ⟨.bl _, H, I, rfl, q⟩
  exact z
section
variable {G : Gx} {B : Bd} {k : Nat}
theorem c_gt : CmpS G B k .Gt (ordD .gt) := fun X O => ⟨_, op_gt.or (op_gt_str.or (op_od_gt O.room.units0)), fun x y a b H F σ env Q r rx ry q => by
  cases a with
  | int i =>
    cases b with
    | int j => exact .inl ⟨i, j, rx.int, ry.int, ⟨_, rfl, q.now r⟩⟩
    | _ => exact q.elim
  | str i =>
    cases b with
    | str j => exact .inr (.inl ⟨i, j, rx.str.1, ry.str.1, ⟨_, rfl, q.now r⟩⟩)
    | _ => exact q.elim
  | tup l =>
    cases b with
    | tup m =>
      obtain ⟨a1, xs, e1, h1, r1, z1, w1⟩ := rx.tup
      obtain ⟨a2, ys, e2, h2, r2, z2, w2⟩ := ry.tup
      simp only [ordD] at q
      cases hb : lexO .gt l m with
      | none => rw [hb] at q; exact q.elim
      | some c =>
        rw [hb] at q
        obtain ⟨g1, g2⟩ := lex_at r1 r2 hb
        refine .inr (.inr ⟨a1, a2, xs, ys, e1, e2, O.tupH r.ext.sub h1, O.tupH r.ext.sub h2, g1, ?_⟩)
        rw [g2]
        exact ⟨_, rfl, q.now r⟩
    | _ => exact q.elim
  | _ => exact q.elim⟩
end
def rOd_ge (K : PySem.W.Frag) : R2 := fun x y H Q => ∃ (a b : Addr) (xs ys : List V), x = .ref a ∧ y = .ref b ∧ SqT K H a xs ∧ SqT K H b ys ∧
  (∀ j : Nat, j < min xs.length ys.length → ∃ x y p, xs[j]? = some x ∧ ys[j]? = some y ∧ pairV .ge x y = some p) ∧
  Q (.bl (Ob.lexAt (fun j => ((xs[j]?.bind fun x => ys[j]?.bind fun y => pairV .ge x y).map (·.1)).getD false) (fun j => ((xs[j]?.bind fun x => ys[j]?.bind fun y => pairV .ge x y).map (·.2)).getD false) (Od.n .ge xs.length ys.length) 0 (min xs.length ys.length))) H
theorem op_od_ge {X : Cx} (hu : X.A.units < cLine) : OpR X (compareOp .GtE) (rOd_ge X.K) := by
  intro pins s σ H x y v u Q I rx ry h
  obtain ⟨a, b, xs, ys, rfl, rfl, ha, hb, hp, q⟩ := h
  cases rx
  cases ry
  obtain ⟨its, r1, p1, _⟩ := I.tuple ha
  obtain ⟨its2, r2, p2, _⟩ := I.tuple hb
  have e1 : its.toArray.size = xs.length := by rw [List.size_toArray]; exact r1.length.symm
  have e2 : its2.toArray.size = ys.length := by rw [List.size_toArray]; exact r2.length.symm
  have at1 : ∀ (j : Nat) (h1 : j < its.toArray.size) (x : V), xs[j]? = some x → RelV x its.toArray[j] := fun j h1 x hx => by
    obtain ⟨u, hu, ru⟩ := r1.get hx
    have : its.toArray[j] = u := by
      simp at h1
      rw [List.getElem?_eq_getElem h1] at hu
      simpa using Option.some.inj hu
    rw [this]; exact ru
  have at2 : ∀ (j : Nat) (h1 : j < its2.toArray.size) (x : V), ys[j]? = some x → RelV x its2.toArray[j] := fun j h1 x hx => by
    obtain ⟨u, hu, ru⟩ := r2.get hx
    have : its2.toArray[j] = u := by
      simp at h1
      rw [List.getElem?_eq_getElem h1] at hu
      simpa using Option.some.inj hu
    rw [this]; exact ru
  have R := Ob.RcOp.tuples_ge (A := X.A) (s := s) (e := fun j => ((xs[j]?.bind fun x => ys[j]?.bind fun y => pairV .ge x y).map (·.1)).getD false) (r := fun j => ((xs[j]?.bind fun x => ys[j]?.bind fun y => pairV .ge x y).map (·.2)).getD false) p1 p2 hu (fun j h1 h2 => by
    obtain ⟨x, y, p, hx, hy, hpv⟩ := hp j (by omega)
    have z1 := at1 j h1 x hx
    have z2 := at2 j h2 y hy
    simp only [hx, hy, Option.bind_some, hpv, Option.map_some, Option.getD_some]
    generalize its.toArray[j] = ua at z1 ⊢
    generalize its2.toArray[j] = ub at z2 ⊢
    cases x with
    | int i =>
      cases y with
      | int j =>
        obtain ⟨t, rfl⟩ := z1
        obtain ⟨t', rfl⟩ := z2
        have hp' : p = (decide (i = j), Od.i .ge i j) := (Option.some.inj hpv).symm
        rw [hp']
        have z : (i == j) = decide (i = j) := by
          by_cases q : i = j
          · rw [decide_eq_true q]; exact beq_iff_eq.mpr q
          · rw [decide_eq_false q]; exact beq_eq_false_iff_ne.mpr q
        show SeqAt.EqAt X.A.in1 s _ _ (decide (i = j))
        rw [← z]
        exact SeqAt.EqAt.int_int _ _ _ _
      | _ => cases hpv
    | str i =>
      cases y with
      | str j =>
        obtain ⟨t, rfl⟩ := z1
        obtain ⟨t', rfl⟩ := z2
        have hp' : p = (decide (i = j), Od.s .ge i j) := (Option.some.inj hpv).symm
        rw [hp']
        have z : (i == j) = decide (i = j) := by
          by_cases q : i = j
          · rw [decide_eq_true q]; exact beq_iff_eq.mpr q
          · rw [decide_eq_false q]; exact beq_eq_false_iff_ne.mpr q
        show SeqAt.EqAt X.A.in1 s _ _ (decide (i = j))
        rw [← z]
        exact SeqAt.EqAt.str_str _ _ _ _
      | _ => cases hpv
    | _ => cases hpv) (fun j h1 h2 _ => by
    obtain ⟨x, y, p, hx, hy, hpv⟩ := hp j (by omega)
    have z1 := at1 j h1 x hx
    have z2 := at2 j h2 y hy
    simp only [hx, hy, Option.bind_some, hpv, Option.map_some, Option.getD_some]
    generalize its.toArray[j] = ua at z1 ⊢
    generalize its2.toArray[j] = ub at z2 ⊢
    cases x with
    | int i =>
      cases y with
      | int j =>
        obtain ⟨t, rfl⟩ := z1
        obtain ⟨t', rfl⟩ := z2
        have hp' : p = (decide (i = j), Od.i .ge i j) := (Option.some.inj hpv).symm
        rw [hp']
        exact Ob.RcOp.ge_int _ _ _ _
      | _ => cases hpv
    | str i =>
      cases y with
      | str j =>
        obtain ⟨t, rfl⟩ := z1
        obtain ⟨t', rfl⟩ := z2
        have hp' : p = (decide (i = j), Od.s .ge i j) := (Option.some.inj hpv).symm
        rw [hp']
        exact fun _ _ _ _ h => PySem.P.ge_str h
      | _ => cases hpv
    | _ => cases hpv)
  rw [e1, e2] at R
  have hn : Od.n .ge xs.length ys.length = decide (xs.length ≥ ys.length) := by
    simp [Od.n, Od.i]
  rw [hn] at q
  have z : wpAny (model X.prog X.w) X.A (compareOp .GtE (.ref a) (.ref b)) (EP X pins σ Q) X.xe s := R X.prog X.w X.xe (EP X pins σ Q) ⟨.bl _, H, I, rfl, q⟩
  exact z
section
variable {G : Gx} {B : Bd} {k : Nat}
theorem c_ge : CmpS G B k .GtE (ordD .ge) := fun X O => ⟨_, op_ge.or (op_ge_str.or (op_od_ge O.room.units0)), fun x y a b H F σ env Q r rx ry q => by
  cases a with
  | int i =>
    cases b with
    | int j => exact .inl ⟨i, j, rx.int, ry.int, ⟨_, rfl, q.now r⟩⟩
    | _ => exact q.elim
  | str i =>
    cases b with
    | str j => exact .inr (.inl ⟨i, j, rx.str.1, ry.str.1, ⟨_, rfl, q.now r⟩⟩)
    | _ => exact q.elim
  | tup l =>
    cases b with
    | tup m =>
      obtain ⟨a1, xs, e1, h1, r1, z1, w1⟩ := rx.tup
      obtain ⟨a2, ys, e2, h2, r2, z2, w2⟩ := ry.tup
      simp only [ordD] at q
      cases hb : lexO .ge l m with
      | none => rw [hb] at q; exact q.elim
      | some c =>
        rw [hb] at q
        obtain ⟨g1, g2⟩ := lex_at r1 r2 hb
        refine .inr (.inr ⟨a1, a2, xs, ys, e1, e2, O.tupH r.ext.sub h1, O.tupH r.ext.sub h2, g1, ?_⟩)
        rw [g2]
        exact ⟨_, rfl, q.now r⟩
    | _ => exact q.elim
  | _ => exact q.elim⟩
end
end Mk
set_option maxHeartbeats 2000000
namespace Mk
open PySem PySem.Spec PyProof.Rows L2
def D.scal : D → Bool
  | .non => true
  | .bl _ => true
  | .int _ => true
  | .str _ => true
  | _ => false
def inS (x y : Str) : Bool := !(Builtin.Str.occurrences y x 0 y.length 1).isEmpty
def kOf : D → Option Key
  | .int i => some (.inl i)
  | .str s => some (.inr s)
  | _ => none
def lookK {α : Type} (l : List (Key × α)) (k : Key) : Option α := (l.find? fun kv => decide (kv.1 = k)).map (·.2)
def inD : D → D → R Bool
  | .str x, .str y => .ok (inS x y)
  | x, .lst l => if eqOk x (.lst l) = true then .ok ((pyL l).any fun z => PyData.eqv z x.py) else .bad
  | x, .tup l => if (x.scal && l.all D.scal) = true then .ok ((pyL l).any fun z => PyData.eqv z x.py) else .bad
  | x, .dic l => match kOf x with
    | some k => .ok (lookK l k).isSome
    | none => .bad
  | _, _ => .bad
def ninD (a b : D) : R Bool := (inD a b).map fun b => !b
theorem scal_flat {B : Bd} {H F : Hp} {x : V} {d : D} (h : RepO B H F x d) (hs : d.scal = true) : flatV x = true ∧ Rep B.K F x d := by
  rcases h with h | ⟨a, vs, l, rfl, h2, h3, h4, rfl⟩ | ⟨a, vs, l, rfl, h2, h3, h4, rfl⟩
  · refine ⟨?_, h⟩
    cases h <;> first | rfl | cases hs
  · cases hs
  · cases hs
theorem eqV_rep {K : PySem.W.Frag} {F : Hp} {x y : V} {a b : D} (hx : Rep K F x a) (hy : Rep K F y b) (sa : a.scal = true) (sb : b.scal = true) : eqV x y = PyData.eqv a.py b.py := by
  cases hx <;> cases hy <;> simp [eqV, PyData.eqv, D.py, D.scal] at sa sb ⊢
theorem flat_repL {K : PySem.W.Frag} {F : Hp} : ∀ {xs : List V} {l : List D}, RepL K F xs l → l.all D.scal = true → xs.all flatV = true
  | _, _, .nil, _ => rfl
  | _, _, .cons h r, hs => by
    rw [List.all_cons, Bool.and_eq_true] at hs
    rw [List.all_cons, flat_repL r hs.2, Bool.and_true]
    cases h <;> first | rfl | cases hs.1
theorem inV_rep {K : PySem.W.Frag} {F : Hp} {x : V} {a : D} (hx : Rep K F x a) (sa : a.scal = true) : ∀ {xs : List V} {l : List D}, RepL K F xs l → l.all D.scal = true → inV x xs = (pyL l).any fun z => PyData.eqv z a.py
  | _, _, .nil, _ => rfl
  | _, _, .cons h r, hs => by
    rw [List.all_cons, Bool.and_eq_true] at hs
    have e := inV_rep hx sa r hs.2
    unfold inV at e ⊢
    rw [List.any_cons, e, eqV_rep h hx hs.1 sa]
    simp [pyL]
theorem repK_look {K : PySem.W.Frag} {F : Hp} {k : Key} : ∀ {xs : List (Key × V)} {l : List (Key × D)}, RepK K F xs l → (∀ v, valV xs k = some v → ∃ d, lookK l k = some d ∧ Rep K F v d) ∧ (valV xs k = none → lookK l k = none)
  | _, _, .nil => ⟨(fun v h => by cases h), fun _ => rfl⟩
  | _, _, .cons (k := k') (v := v) (d := d) (ds := ds) h r => by
    obtain ⟨g1, g2⟩ := repK_look (k := k) r
    by_cases e : k' = k
    · refine ⟨fun v' h' => ⟨d, ?_, ?_⟩, fun h' => ?_⟩
      · simp [lookK, List.find?_cons, e]
      · rw [valV_pos (p := (k', v)) e] at h'
        cases h'
        exact h
      · rw [valV_pos (p := (k', v)) e] at h'
        cases h'
    · rw [valV_neg (p := (k', v)) e]
      have q : lookK ((k', d) :: ds) k = lookK ds k := by simp only [lookK, List.find?_cons, decide_eq_false e]
      exact ⟨fun v' h' => by rw [q]; exact g1 v' h', fun h' => by rw [q]; exact g2 h'⟩
theorem kOf_rep {B : Bd} {H F : Hp} {x : V} {d : D} {k : Key} (h : RepO B H F x d) (e : kOf d = some k) : x = kV k := by
  rcases h with h | ⟨a, vs, l, rfl, h2, h3, h4, rfl⟩ | ⟨a, vs, l, rfl, h2, h3, h4, rfl⟩
  · cases h <;> cases e <;> rfl
  · cases e
  · cases e
section
variable {G : Gx} {B : Bd} {k : Nat}
theorem or_dIn {X : Cx} (hu : X.A.units + 1 < cLine) : OpR X (compareOp .In) (fun x y H Q => ∃ a o, y = .ref a ∧ DGet H a x o ∧ Q (.bl o.isSome) H) := by
  intro pins s σ H x y v u Q I rx ry h
  obtain ⟨a, o, rfl, g, q⟩ := h
  obtain rfl : u = Value.ref a := ry
  exact d_in hu I g rx fun s' I' => ⟨.bl _, H, I', rfl, q⟩
theorem or_dNotIn {X : Cx} (hu : X.A.units + 1 < cLine) : OpR X (compareOp .NotIn) (fun x y H Q => ∃ a o, y = .ref a ∧ DGet H a x o ∧ Q (.bl (!o.isSome)) H) := by
  intro pins s σ H x y v u Q I rx ry h
  obtain ⟨a, o, rfl, g, q⟩ := h
  obtain rfl : u = Value.ref a := ry
  exact d_notIn hu I g rx fun s' I' => ⟨.bl _, H, I', rfl, q⟩
theorem in_units {X : Cx} {k : Nat} (r : L2H.RoomH k X.A) : X.A.units + 65 < cLine := by have := r.un; omega
theorem in_units1 {X : Cx} {k : Nat} (r : L2H.RoomH k X.A) : X.A.units + 1 < cLine := by have := r.un; omega
theorem look_some {K : PySem.W.Frag} {F : Hp} {kk : Key} {xs : List (Key × V)} {l : List (Key × D)} (r : RepK K F xs l) : (valV xs kk).isSome = (lookK l kk).isSome := by
  obtain ⟨g1, g2⟩ := repK_look (k := kk) r
  cases e : valV xs kk with
  | none => rw [g2 e]; rfl
  | some v => obtain ⟨d, e', _⟩ := g1 v e; rw [e']; rfl
theorem c_in : CmpS G B k .In inD := fun X O => ⟨_, op_in_str.or ((op_inD (in_units O.room)).or (op_in_seq.or (or_dIn (in_units1 O.room)))), fun x y a b H F σ env Q r rx ry q => by
  have sub := r.ext.sub
  cases b with
  | str j =>
    cases a with
    | str i => exact .inl ⟨i, j, rx.str.1, ry.str.1, ⟨_, rfl, q.now r⟩⟩
    | _ => exact q.elim
  | lst l =>
    have q' : GoodB B H F Q (if eqOk a (.lst l) = true then .ok ((pyL l).any fun z => PyData.eqv z a.py) else .bad) := by cases a <;> exact q
    split at q'
    · rename_i h
      obtain ⟨h1, h2, h3, h4⟩ := eqOk_of h
      obtain ⟨d1, l1⟩ := repO_dp sub rx h1
      obtain ⟨d2, l2⟩ := repO_dp sub ry h2
      rw [O.K] at d1 d2
      exact .inr (.inl ⟨a.py, pyL l, d1, d2, by unfold SeqAt.shaped; rw [l1]; simpa using h3, by unfold SeqAt.shaped; rw [show PyData.canLay0 (.list (pyL l)) = true from l2]; simpa [D.py] using h4, ⟨_, rfl, q'.now r⟩⟩)
    · exact q'.elim
  | tup l =>
    have q' : GoodB B H F Q (if (a.scal && l.all D.scal) = true then .ok ((pyL l).any fun z => PyData.eqv z a.py) else .bad) := by cases a <;> exact q
    split at q'
    · rename_i h
      rw [Bool.and_eq_true] at h
      obtain ⟨f1, w1⟩ := scal_flat rx h.1
      obtain ⟨a2, ys, e2, h2, r2, z2, w2⟩ := ry.tup
      refine .inr (.inr (.inl ⟨a2, ys, e2, .inr (O.tupH sub h2), f1, flat_repL r2 h.2, ⟨_, rfl, ?_⟩⟩))
      show Q (inV x ys) H
      rw [inV_rep w1 h.1 r2 h.2]
      exact q'.now r
    · exact q'.elim
  | dic l =>
    have q' : GoodB B H F Q (match kOf a with | some kk => .ok (lookK l kk).isSome | none => .bad) := by cases a <;> exact q
    obtain ⟨a2, ys, e2, h2, r2, z2⟩ := ry.dic sub
    cases e : kOf a with
    | none => rw [e] at q'; exact q'.elim
    | some kk =>
      rw [e] at q'
      refine .inr (.inr (.inr ⟨a2, valV ys kk, e2, .inl ⟨ys, kk, h2, kOf_rep rx e, rfl⟩, _, rfl, ?_⟩))
      rw [look_some r2]
      exact q'.now r
  | _ => cases a <;> exact q.elim⟩
theorem GoodB.not {H F : Hp} {Q : Bool → Hp → Prop} {r : R Bool} (h : GoodB B H F Q (r.map fun b => !b)) : GoodB B H F (fun b H' => Q (!b) H') r := by
  cases r with
  | ok b => exact h
  | exc c => exact h
  | bad => exact h
theorem c_notin : CmpS G B k .NotIn ninD := fun X O => ⟨_, op_notin_str.or ((op_notInD (in_units O.room)).or (op_notIn_seq.or (or_dNotIn (in_units1 O.room)))), fun x y a b H F σ env Q r rx ry q => by
  have sub := r.ext.sub
  have q := GoodB.not (r := inD a b) q
  cases b with
  | str j =>
    cases a with
    | str i => exact .inl ⟨i, j, rx.str.1, ry.str.1, ⟨_, rfl, q.now r⟩⟩
    | _ => exact q.elim
  | lst l =>
    have q' : GoodB B H F (fun b H' => Q (!b) H') (if eqOk a (.lst l) = true then .ok ((pyL l).any fun z => PyData.eqv z a.py) else .bad) := by cases a <;> exact q
    split at q'
    · rename_i h
      obtain ⟨h1, h2, h3, h4⟩ := eqOk_of h
      obtain ⟨d1, l1⟩ := repO_dp sub rx h1
      obtain ⟨d2, l2⟩ := repO_dp sub ry h2
      rw [O.K] at d1 d2
      exact .inr (.inl ⟨a.py, pyL l, d1, d2, by unfold SeqAt.shaped; rw [l1]; simpa using h3, by unfold SeqAt.shaped; rw [show PyData.canLay0 (.list (pyL l)) = true from l2]; simpa [D.py] using h4, ⟨_, rfl, q'.now r⟩⟩)
    · exact q'.elim
  | tup l =>
    have q' : GoodB B H F (fun b H' => Q (!b) H') (if (a.scal && l.all D.scal) = true then .ok ((pyL l).any fun z => PyData.eqv z a.py) else .bad) := by cases a <;> exact q
    split at q'
    · rename_i h
      rw [Bool.and_eq_true] at h
      obtain ⟨f1, w1⟩ := scal_flat rx h.1
      obtain ⟨a2, ys, e2, h2, r2, z2, w2⟩ := ry.tup
      refine .inr (.inr (.inl ⟨a2, ys, e2, .inr (O.tupH sub h2), f1, flat_repL r2 h.2, ⟨_, rfl, ?_⟩⟩))
      show Q (!inV x ys) H
      rw [inV_rep w1 h.1 r2 h.2]
      exact q'.now r
    · exact q'.elim
  | dic l =>
    have q' : GoodB B H F (fun b H' => Q (!b) H') (match kOf a with | some kk => .ok (lookK l kk).isSome | none => .bad) := by cases a <;> exact q
    obtain ⟨a2, ys, e2, h2, r2, z2⟩ := ry.dic sub
    cases e : kOf a with
    | none => rw [e] at q'; exact q'.elim
    | some kk =>
      rw [e] at q'
      refine .inr (.inr (.inr ⟨a2, valV ys kk, e2, .inl ⟨ys, kk, h2, kOf_rep rx e, rfl⟩, _, rfl, ?_⟩))
      rw [look_some r2]
      exact q'.now r
  | _ => cases a <;> exact q.elim⟩
end
def truthD : D → R Bool
  | .non => .ok false
  | .bl b => .ok b
  | .int i => .ok (i != 0)
  | .str s => .ok ((s.length : Int) != 0)
  | .tup l => .ok (!l.isEmpty)
  | .lst l => .ok (!l.isEmpty)
  | .dic _ => .bad
  | .scr l => .ok (!l.isEmpty)
  | .obj _ => .bad
theorem repL_empty {K : PySem.W.Frag} {F : Hp} {xs : List V} {l : List D} (r : RepL K F xs l) : xs.isEmpty = l.isEmpty := by
  cases r <;> rfl
theorem truth_rep {G : Gx} {B : Bd} {k : Nat} {X : Cx} (O : OkX G B k X) {H F : Hp} {x : V} {d : D} (sub : Same F H) (h : RepO B H F x d) (hb : truthD d ≠ .bad) : ∃ b, truthD d = .ok b ∧ TruV X.K x H b := by
  cases d with
  | obj a => exact (hb rfl).elim
  | non => rw [h.non]; exact ⟨_, rfl, rfl⟩
  | bl b => rw [h.bl]; exact ⟨_, rfl, rfl⟩
  | int i => rw [h.int]; exact ⟨_, rfl, rfl⟩
  | str s => obtain ⟨e, s1⟩ := h.str; rw [e]; exact ⟨_, rfl, s1.2, rfl⟩
  | tup l =>
    obtain ⟨a, xs, e, h1, r1, _, _⟩ := h.tup
    rw [e]
    exact ⟨_, rfl, .inr (.inl ⟨xs, O.tupH sub h1, by rw [repL_empty r1]⟩)⟩
  | lst l =>
    obtain ⟨a, xs, e, h1, r1, _⟩ := h.lst sub
    rw [e]
    exact ⟨_, rfl, .inl ⟨xs, .inl (.inl h1), by rw [repL_empty r1]⟩⟩
  | dic l => exact (hb rfl).elim
  | scr l =>
    obtain ⟨a, e, h1⟩ := h.scr sub
    rw [e]
    exact ⟨_, rfl, .inl ⟨_, O.lstH h1, by cases l <;> rfl⟩⟩
def opT (f : En → R D) : En → R Bool := fun env => (f env).bind truthD
def qAnd (f g : En → R Bool) : En → R Bool := fun env => (f env).bind fun b => if b = true then g env else .ok false
def qOr (f g : En → R Bool) : En → R Bool := fun env => (f env).bind fun b => if b = true then .ok true else g env
def qNot (f : En → R Bool) : En → R Bool := fun env => (f env).bind fun b => .ok (!b)
def eIf (c : En → R Bool) (f g : En → R D) : En → R D := fun env => (c env).bind fun b => if b = true then f env else g env
def eAnd (f g : En → R D) : En → R D := fun env => (f env).bind fun d => (truthD d).bind fun b => if b = true then g env else .ok d
def eOr (f g : En → R D) : En → R D := fun env => (f env).bind fun d => (truthD d).bind fun b => if b = true then .ok d else g env
def eNot (f : En → R D) : En → R D := fun env => (f env).bind fun d => (truthD d).bind fun b => .ok (.bl (!b))
section
variable {G : Gx} {B : Bd} {k : Nat} {X : Cx} {a b c : Expr} {f g : En → R D} {p q : En → R Bool} {pos : Pos} {rest : List Expr}
/-- an expression as a test -/
theorem t_val (O : OkX G B k X) (ha : PE X a (tO B f)) (he : ∀ whole, isTrue a X.env whole = (do let v ← whole; standAt a.pos; holding [v] (truthy v)) := by intro _; rfl) : PT X a (tQ B (opT f)) := by
  refine PT.imp (pt_truth ha he) fun σ H Q ⟨env, F, rel, q⟩ => ⟨env, F, rel, ?_⟩
  rcases q.bind with ⟨d, ea, q⟩ | ⟨c, ea, q⟩
  · rw [ea]
    intro x H1 F1 e1 rx
    obtain ⟨b, e, tv⟩ := truth_rep O (rel.mono e1).ext.sub rx (fun z => by rw [z] at q; exact q)
    rw [e] at q
    exact ⟨b, tv, (q.mono e1).now (rel.mono e1)⟩
  · rw [ea]
    exact q
theorem t_not (ha : PT X a (tQ B p)) : PT X (.UnaryOp .Not a pos) (tQ B (qNot p)) := PT.imp (pt_not ha) fun σ H Q ⟨env, F, rel, q⟩ => ⟨env, F, rel, by
  rcases q.bind with ⟨d, ea, q⟩ | ⟨c, ea, q⟩
  · rw [ea]
    exact fun H1 F1 e1 => q H1 F1 e1
  · rw [ea]
    exact q⟩
theorem w_and1 (ha : PT X a (tQ B p)) : PW X (.BoolOp .And [a] pos) (tQ B p) := pw_and1 ha
theorem w_or1 (ha : PT X a (tQ B p)) : PW X (.BoolOp .Or [a] pos) (tQ B p) := pw_or1 ha
theorem PW.imp {X : Cx} {e : Expr} {t t' : TT} (h : PW X e t) (i : ∀ σ H Q, t' σ H Q → t σ H Q) : PW X e t' := ⟨fun wh pins s σ H Q I q => h.run wh pins s σ H Q I (i σ H Q q)⟩
theorem w_and (ha : PT X a (tQ B p)) (hb : PW X (.BoolOp .And (b :: rest) pos) (tQ B q)) : PW X (.BoolOp .And (a :: b :: rest) pos) (tQ B (qAnd p q)) := PW.imp (pw_and ha hb) fun σ H Q ⟨env, F, rel, q⟩ => ⟨env, F, rel, by
  rcases q.bind with ⟨d, ea, q⟩ | ⟨c, ea, q⟩
  · rw [ea]
    intro H1 F1 e1
    cases d with
    | true => exact ⟨env, F1, rel.mono e1, q.mono e1⟩
    | false => exact q H1 F1 e1
  · rw [ea]
    exact q⟩
theorem w_or (ha : PT X a (tQ B p)) (hb : PW X (.BoolOp .Or (b :: rest) pos) (tQ B q)) : PW X (.BoolOp .Or (a :: b :: rest) pos) (tQ B (qOr p q)) := PW.imp (pw_or ha hb) fun σ H Q ⟨env, F, rel, q⟩ => ⟨env, F, rel, by
  rcases q.bind with ⟨d, ea, q⟩ | ⟨c, ea, q⟩
  · rw [ea]
    intro H1 F1 e1
    cases d with
    | true => exact q H1 F1 e1
    | false => exact ⟨env, F1, rel.mono e1, q.mono e1⟩
  · rw [ea]
    exact q⟩
theorem t_w (h : PW X a (tQ B p)) : PT X a (tQ B p) := h.pt
theorem e_if (hc : PT X c (tQ B p)) (ha : PE X a (tE B f)) (hb : PE X b (tE B g)) : PE X (.IfExp c a b pos) (tE B (eIf p f g)) := PE.imp (pe_ifExp hc ha hb) fun σ H Q ⟨env, F, rel, q⟩ => ⟨env, F, rel, by
  rcases q.bind with ⟨d, ea, q⟩ | ⟨c, ea, q⟩
  · rw [ea]
    intro H1 F1 e1
    cases d with
    | true => exact ⟨env, F1, rel.mono e1, q.mono e1⟩
    | false => exact ⟨env, F1, rel.mono e1, q.mono e1⟩
  · rw [ea]
    exact q⟩
/-- and, or, not as values -/
theorem e_one {op} (h : PE X a (tE B f)) : PE X (.BoolOp op [a] pos) (tE B f) := pe_one h
theorem e_and (O : OkX G B k X) (ha : PE X a (tE B f)) (hb : PE X (.BoolOp .And (b :: rest) pos) (tE B g)) : PE X (.BoolOp .And (a :: b :: rest) pos) (tE B (eAnd f g)) := PE.imp (pe_andT ha hb) fun σ H Q ⟨env, F, rel, q⟩ => ⟨env, F, rel, by
  rcases q.bind with ⟨d, ea, q⟩ | ⟨c, ea, q⟩
  · rw [ea]
    intro x H1 F1 e1 rx
    have rel1 := rel.mono e1
    obtain ⟨b, e, tv⟩ := truth_rep O rel1.ext.sub (.inl rx) (fun z => by rw [z] at q; exact q)
    rw [e] at q
    refine ⟨b, tv, ?_⟩
    cases b with
    | true => exact ⟨env, F1, rel1, q.mono e1⟩
    | false => exact (q.mono e1).now rel1 rx
  · rw [ea]
    exact q⟩
theorem e_or (O : OkX G B k X) (ha : PE X a (tE B f)) (hb : PE X (.BoolOp .Or (b :: rest) pos) (tE B g)) : PE X (.BoolOp .Or (a :: b :: rest) pos) (tE B (eOr f g)) := PE.imp (pe_orT ha hb) fun σ H Q ⟨env, F, rel, q⟩ => ⟨env, F, rel, by
  rcases q.bind with ⟨d, ea, q⟩ | ⟨c, ea, q⟩
  · rw [ea]
    intro x H1 F1 e1 rx
    have rel1 := rel.mono e1
    obtain ⟨b, e, tv⟩ := truth_rep O rel1.ext.sub (.inl rx) (fun z => by rw [z] at q; exact q)
    rw [e] at q
    refine ⟨b, tv, ?_⟩
    cases b with
    | true => exact (q.mono e1).now rel1 rx
    | false => exact ⟨env, F1, rel1, q.mono e1⟩
  · rw [ea]
    exact q⟩
theorem e_not (O : OkX G B k X) (ha : PE X a (tE B f)) : PE X (.UnaryOp .Not a pos) (tE B (eNot f)) := PE.imp (pe_notT ha) fun σ H Q ⟨env, F, rel, q⟩ => ⟨env, F, rel, by
  rcases q.bind with ⟨d, ea, q⟩ | ⟨c, ea, q⟩
  · rw [ea]
    intro x H1 F1 e1 rx
    have rel1 := rel.mono e1
    obtain ⟨b, e, tv⟩ := truth_rep O rel1.ext.sub (.inl rx) (fun z => by rw [z] at q; exact q)
    rw [e] at q
    exact ⟨b, tv, (q.mono e1).now rel1 (.bl _)⟩
  · rw [ea]
    exact q⟩
/-- a < b < c -/
def opCh (f g h : En → R D) (c1 c2 : D → D → R Bool) : En → R Bool := fun env => (f env).bind fun a => (g env).bind fun b => (c1 a b).bind fun r => if r = true then (h env).bind fun c => c2 b c else .ok false
theorem e_chain {op op' : CmpOp} {c1 c2 : D → D → R Bool} {h : En → R D} (O : OkX G B k X) (h1 : CmpS G B k op c1) (h2 : CmpS G B k op' c2) (ha : PE X a (tO B f)) (hb : PE X b (tO B g)) (hc : PE X c (tO B h))
    (hm : lastMarks [op, op'] [b, c] = false := by with_unfolding_all rfl) : PE X (.Compare a [op, op'] [b, c] pos) (tE B (fun env => (opCh f g h c1 c2 env).map .bl)) := by
  obtain ⟨r1, o1, k1⟩ := h1 X O
  obtain ⟨r2, o2, k2⟩ := h2 X O
  have ho : OpR X (compareOp op') (fun x y H Q => r2 x y H fun z H' => ∃ b, z = .bl b ∧ Q (.bl b) H') := fun pins s σ H x y v u Q I rx ry q =>
    thn (o2 pins s σ H x y v u _ I rx ry q) fun z s' ⟨w, H', I', rw', b, e, q'⟩ => by subst e; exact ⟨.bl b, H', I', rw', q'⟩
  refine PE.imp (pe_chain o1 ho ha hb hc hm) fun σ H Q ⟨env, F, rel, q⟩ => ⟨env, F, rel, ?_⟩
  have q := q.bl
  rcases q.bind with ⟨da, ea, q⟩ | ⟨c, ea, q⟩
  · rw [ea]
    intro x H1 F1 e1 rx
    refine ⟨env, F1, rel.mono e1, ?_⟩
    rcases q.bind with ⟨db, eb, q⟩ | ⟨c, eb, q⟩
    · rw [eb]
      intro y H2 F2 e2 ry
      have rel2 := rel.mono (e1.trans e2)
      refine k1 x y da db H2 F2 σ env _ rel2 (rx.mono e2) ry ?_
      rcases (q.mono (e1.trans e2)).bind with ⟨t, et, q⟩ | ⟨c, et, q⟩
      · rw [et]
        intro H3 F3 e3
        cases t with
        | false => exact q H3 F3 e3
        | true =>
          refine ⟨env, F3, rel2.mono e3, ?_⟩
          have q' := (q.mono e3)
          rcases q'.bind with ⟨dc, ec, q⟩ | ⟨c, ec, q⟩
          · rw [ec]
            exact fun w' H4 F4 e4 rw' => k2 y w' db dc H4 F4 σ env _ ((rel2.mono e3).mono e4) (ry.mono (e3.trans e4)) rw' (q.mono e4)
          · rw [ec]
            exact q
      · rw [et]
        exact q
    · rw [eb]
      exact q
  · rw [ea]
    exact q
theorem t_chain {op op' : CmpOp} {c1 c2 : D → D → R Bool} {h : En → R D} (O : OkX G B k X) (h1 : CmpS G B k op c1) (h2 : CmpS G B k op' c2) (ha : PE X a (tO B f)) (hb : PE X b (tO B g)) (hc : PE X c (tO B h))
    (hm : lastMarks [op, op'] [b, c] = false := by with_unfolding_all rfl) : PT X (.Compare a [op, op'] [b, c] pos) (tQ B (opCh f g h c1 c2)) := by
  obtain ⟨r1, o1, k1⟩ := h1 X O
  obtain ⟨r2, o2, k2⟩ := h2 X O
  refine PT.imp (pt_chain o1 o2 ha hb hc hm) fun σ H Q ⟨env, F, rel, q⟩ => ⟨env, F, rel, ?_⟩
  rcases q.bind with ⟨da, ea, q⟩ | ⟨c, ea, q⟩
  · rw [ea]
    intro x H1 F1 e1 rx
    refine ⟨env, F1, rel.mono e1, ?_⟩
    rcases q.bind with ⟨db, eb, q⟩ | ⟨c, eb, q⟩
    · rw [eb]
      intro y H2 F2 e2 ry
      have rel2 := rel.mono (e1.trans e2)
      refine k1 x y da db H2 F2 σ env _ rel2 (rx.mono e2) ry ?_
      rcases (q.mono (e1.trans e2)).bind with ⟨t, et, q⟩ | ⟨c, et, q⟩
      · rw [et]
        intro H3 F3 e3
        cases t with
        | false => exact ⟨_, rfl, q H3 F3 e3⟩
        | true =>
          refine ⟨env, F3, rel2.mono e3, ?_⟩
          have q' := (q.mono e3)
          rcases q'.bind with ⟨dc, ec, q⟩ | ⟨c, ec, q⟩
          · rw [ec]
            exact fun w' H4 F4 e4 rw' => k2 y w' db dc H4 F4 σ env _ ((rel2.mono e3).mono e4) (ry.mono (e3.trans e4)) rw' (q.mono e4)
          · rw [ec]
            exact q
      · rw [et]
        exact q
    · rw [eb]
      exact q
  · rw [ea]
    exact q
end
end Mk
set_option maxHeartbeats 2000000
namespace Mk
open PySem PySem.Spec PyProof.Rows L2
theorem RepK.length {K : PySem.W.Frag} {F : Hp} : ∀ {vs : List (Key × V)} {ds : List (Key × D)}, RepK K F vs ds → vs.length = ds.length
  | _, _, .nil => rfl
  | _, _, .cons _ r => by rw [List.length_cons, List.length_cons, r.length]
def tupD (ds : List D) : R D := if ds.length ≤ LIM then .ok (.tup ds) else .bad
def lstL (ds : List D) : R (List D) := if ds.length ≤ LIM then .ok ds else .bad
/-- a new list: nobody else holds it -/
def tF (B : Bd) (f : En → R (List D)) : TE := fun σ H Q => ∃ env F, Rel B env σ H F ∧ match f env with
  | .ok l => ∀ p vs H' F', Ext B.T H F H' F' → Free H p → H' p = some (.lst vs) → F' p = none → RepL B.K F' vs l → l.length ≤ sizeLine → Q (.ref p) H'
  | .exc c => ∀ H', ExtH B.T B.H0 H' → B.wx c H'
  | .bad => False
def fzL (f : En → R (List D)) : En → R D := fun env => (f env).map .lst
def frL (f : En → R (List D)) (g : List D → R (List D)) : En → R (List D) := fun env => (f env).bind g
/-- what one holds alone may be held for good -/
theorem Ext.fz {T : List (Addr × Str)} {H F H' F' : Hp} {p : Addr} {o : HO} (e : Ext T H F H' F') (hf : Free H p) (hp : H' p = some o) (hn : F' p = none) (ho : ∀ ps, o ≠ .tbl ps) : Ext T H F H' (upd F' p o) where
  same := e.same
  tabs := e.tabs
  fsame := fun b u h => by
    have z := e.fsame b u h
    rw [upd_ne (ne_of_none z hn)]
    exact z
  sub := fun b u h => by
    by_cases q : b = p
    · subst q; rw [upd_same] at h; cases h; exact hp
    · rw [upd_ne q] at h; exact e.sub b u h
  nt := fun b ps h => by
    by_cases q : b = p
    · subst q; rw [upd_same] at h; exact ho ps (Option.some.inj h)
    · rw [upd_ne q] at h; exact e.nt b ps h
  new := fun a u h => by
    by_cases q : a = p
    · subst q; exact .inr hf
    · rw [upd_ne q] at h; exact e.new a u h
theorem same_upd' {F : Hp} {p : Addr} {o : HO} (h : F p = none) : Same F (upd F p o) := fun b x e => by
  rw [upd_ne (ne_of_none e h)]
  exact e
theorem PE.fz {X : Cx} {e : Expr} {B : Bd} {f : En → R (List D)} (h : PE X e (tF B f)) : PE X e (tE B (fzL f)) := PE.imp h fun σ H Q ⟨env, F, r, q⟩ => ⟨env, F, r, by
  unfold fzL at q
  cases hf : f env with
  | ok l =>
    rw [hf] at q
    intro p vs H' F' e1 h1 h2 h3 h4 h5
    exact q _ H' _ (e1.fz h1 h2 h3 (fun ps z => by cases z)) (.lst upd_same (h4.mono (same_upd' h3)) h5)
  | exc c => rw [hf] at q; exact q
  | bad => rw [hf] at q; exact q⟩
section
variable {G : Gx} {B : Bd} {k : Nat} {X : Cx} {a b c : Expr} {es : List Expr} {f g : En → R D} {fs : En → R (List D)} {pos : Pos}
theorem e_tup {x1} (h : PA X es (tL B fs)) : PE X (.Tuple es x1 pos) (tE B (opL fs tupD)) := PE.imp (pe_tup h) fun σ H Q ⟨env, F, rel, q⟩ => ⟨env, F, rel, by
  rcases q.bind with ⟨d, ea, q⟩ | ⟨c, ea, q⟩
  · rw [ea]
    intro xs H1 F1 e1 rx
    unfold tupD at q
    split at q
    · rename_i hz
      rw [LIM_eq] at hz
      refine ⟨by rw [rx.length]; exact hz, fun p hp => ?_⟩
      have E := (rel.mono e1).frz (o := .tup xs) hp (fun ps z => by cases z)
      exact q _ _ _ (e1.trans E) (.tup (.inl (.inl upd_same)) (rx.mono E.fsame) hz)
    · exact q.elim
  · rw [ea]
    exact q⟩
theorem f_lst (h : PA X es (tL B fs)) : PE X (.List es pos) (tF B (frL fs lstL)) := PE.imp (pe_lst h) fun σ H Q ⟨env, F, rel, q⟩ => ⟨env, F, rel, by
  unfold frL at q
  cases hf : fs env with
  | ok d =>
    rw [hf] at q
    intro xs H1 F1 e1 rx
    simp only [R.bind, lstL] at q
    by_cases hz : d.length ≤ LIM
    · rw [if_pos hz] at q
      have hz' := hz
      rw [LIM_eq] at hz'
      refine ⟨by rw [rx.length]; exact hz', fun p hp => ?_⟩
      have r1 := rel.mono e1
      have E := Ext.own (T := B.T) (o := .lst xs) r1.ext.sub r1.ext.nt hp
      have hn : F1 p = none := by
        cases q : F1 p with
        | none => rfl
        | some o => rw [r1.ext.sub _ _ q] at hp; cases hp
      exact q p xs _ _ (e1.trans E) (Free.back e1.same (.inl hp)) upd_same hn rx hz'
    · rw [if_neg hz] at q; exact q.elim
  | exc c => rw [hf] at q; exact q
  | bad => rw [hf] at q; exact q⟩
def ofO {α : Type} : Option α → R α
  | some d => .ok d
  | none => .bad
def ixD : D → D → R D
  | .tup l, .int i => ofO (atI l i)
  | .lst l, .int i => ofO (atI l i)
  | .scr l, .int i => (ofO (atI l i)).map .int
  | .str s, .int i => (ofO (atI s.cps.toList i)).map fun c => .str ⟨#[c]⟩
  | .dic l, y => ofO ((kOf y).bind fun kk => lookK l kk)
  | _, _ => .bad
theorem atI_rep {K : PySem.W.Frag} {F : Hp} {xs : List V} {l : List D} {i : Int} {d : D} (r : RepL K F xs l) (h : atI l i = some d) : ∃ v, atI xs i = some v ∧ Rep K F v d := by
  unfold atI at h ⊢
  rw [r.length]
  cases e : ixN l.length i with
  | none => rw [e] at h; cases h
  | some j =>
    rw [e] at h
    exact r.getD h
theorem ix_dic (hu : X.A.units + 1 < cLine) : IxR X (fun x y H Q => ∃ a v, x = .ref a ∧ DGet H a y (some v) ∧ Q v H) := by
  intro value slice pins s σ H x y v u Q I rx ry h hs
  obtain ⟨a, w, rfl, g, q⟩ := h
  obtain rfl : v = Value.ref a := rx
  have hT := dict_typeIs I g
  unfold subscriptTail
  refine wpAny_bind ?_
  rw [getitemInPython_of_ne hT.not_modules]
  refine wpAny_bind (wpAny_specialOf hT PySem.F.slot_dict_getitem.lookup ?_)
  have fin : wpAny (model X.prog X.w) X.A (subscripted slice false (.ref a) u) (fun r s₃ => wpAny (model X.prog X.w) X.A (letTemporaryGo value (.ref a) r >>= fun _ => pure r) (EP X pins σ Q) X.xe s₃) X.xe s := by
    rw [hs]
    exact wpAny_operating (wpAny_mono (d_getItem hu I g ry fun w' s' I' rw' => (⟨w, H, I', rw', q⟩ : EP X pins σ Q w' s')) (fun r s₃ h₃ => wpAny_bind (wpAny_letTemporaryGo (wpAny_pure h₃))) fun _ _ x => x)
  first
    | exact wpAny_pure (wpAny_bind fin)
    | exact wpAny_bind (wpAny_pure (wpAny_bind fin))
    | exact wpAny_bind fin
theorem sok_one {z : Str} {c : Nat} (h : SOk z) (hc : c ∈ z.cps.toList) : SOk ⟨#[c]⟩ := by
  refine ⟨?_, by show 1 ≤ sizeLine; decide⟩
  have h1 : z.cps.all (· < 0x110000) = true := h.1
  rw [Array.all_eq_true'] at h1
  have := h1 c (by simpa using hc)
  show (#[c] : Array Nat).all (· < 0x110000) = true
  simpa using this
theorem atI_mem {α : Type} {l : List α} {i : Int} {x : α} (h : atI l i = some x) : x ∈ l := by
  obtain ⟨j, _, h2, _⟩ := atI_get h
  exact List.mem_of_getElem? h2
theorem e_ix (O : OkX G B k X) (ha : PE X a (tO B f)) (hb : PE X b (tO B g)) (hs : PlainIx b := by intro _ _; rfl) : PE X (.Subscript a b pos) (tE B (op2 f g ixD)) := by
  refine PE.imp (pe_ix (ix_seq.or (ix_dic (in_units1 O.room))) ha hb hs) fun σ H Q => tOp_of fun x y a b H F env Q r rx ry q => ?_
  have sub := r.ext.sub
  cases a with
  | tup l =>
    cases b with
    | int i =>
      obtain ⟨a1, xs, e1, h1, r1, z1, w1⟩ := rx.tup
      simp only [ixD] at q
      cases hx : atI l i with
      | none => rw [hx] at q; exact q.elim
      | some d =>
        rw [hx] at q
        obtain ⟨v, hv, rv⟩ := atI_rep r1 hx
        exact .inl (.inr (.inl ⟨a1, xs, i, v, e1, ry.int, O.tupH sub h1, hv, q.now r rv⟩))
    | _ => exact q.elim
  | lst l =>
    cases b with
    | int i =>
      obtain ⟨a1, xs, e1, h1, r1, z1⟩ := rx.lst sub
      simp only [ixD] at q
      cases hx : atI l i with
      | none => rw [hx] at q; exact q.elim
      | some d =>
        rw [hx] at q
        obtain ⟨v, hv, rv⟩ := atI_rep r1 hx
        exact .inl (.inl ⟨a1, xs, i, v, e1, ry.int, SqL.of h1, hv, q.now r rv⟩)
    | _ => exact q.elim
  | scr l =>
    cases b with
    | int i =>
      obtain ⟨a1, e1, h1⟩ := rx.scr sub
      simp only [ixD] at q
      cases hx : atI l i with
      | none => rw [hx] at q; exact q.elim
      | some n =>
        rw [hx] at q
        have hv : atI (l.map V.int) i = some (V.int n) := by
          unfold atI at hx ⊢
          rw [List.length_map]
          cases e : ixN l.length i with
          | none => rw [e] at hx; cases hx
          | some j =>
            rw [e] at hx
            have hx' : l[j]? = some n := hx
            show (l.map V.int)[j]? = some (V.int n)
            rw [List.getElem?_map, hx']
            rfl
        exact .inl (.inl ⟨a1, _, i, _, e1, ry.int, O.lstH h1, hv, q.now r (.int n)⟩)
    | _ => exact q.elim
  | str z =>
    cases b with
    | int i =>
      obtain ⟨e1, s1⟩ := rx.str
      simp only [ixD] at q
      cases hx : atI z.cps.toList i with
      | none => rw [hx] at q; exact q.elim
      | some c =>
        rw [hx] at q
        exact .inl (.inr (.inr ⟨z, i, c, e1, ry.int, s1.2, hx, q.now r (.str _ (sok_one s1 (atI_mem hx)))⟩))
    | _ => exact q.elim
  | dic l =>
    have q' : Good B H F Q (ofO ((kOf b).bind fun kk => lookK l kk)) := by cases b <;> exact q
    cases hk : kOf b with
    | none => rw [hk] at q'; exact q'.elim
    | some kk =>
      rw [hk] at q'
      obtain ⟨a1, xs, e1, h1, r1, z1⟩ := rx.dic sub
      obtain ⟨g1, g2⟩ := repK_look (k := kk) r1
      cases hv : valV xs kk with
      | none => simp only [Option.bind_some, g2 hv] at q'; exact q'.elim
      | some v =>
        obtain ⟨d, hd, rd⟩ := g1 v hv
        simp only [Option.bind_some, hd] at q'
        exact .inr ⟨a1, v, e1, .inl ⟨xs, kk, h1, kOf_rep ry hk, hv.symm⟩, q'.now r rd⟩
  | _ => exact q.elim
def cutD (xs : List D) (lo hi : Option Int) : List D := (xs.drop (HT.sIx xs.length 0 lo)).take (HT.sIx xs.length xs.length hi - HT.sIx xs.length 0 lo)
def slD : D → Option Int → Option Int → R D
  | .tup l, lo, hi => .ok (.tup (cutD l lo hi))
  | .lst l, lo, hi => .ok (.lst (cutD l lo hi))
  | .str z, lo, hi => .ok (.str (cutS z lo hi))
  | _, _, _ => .bad
def intO : D → R (Option Int)
  | .int i => .ok (some i)
  | _ => .bad
def noO : En → R (Option Int) := fun _ => .ok none
def soO (f : En → R D) : En → R (Option Int) := fun env => (f env).bind intO
def GoodP (B : Bd) (H F : Hp) (Q : Option Int → Hp → Prop) : R (Option Int) → Prop
  | .ok d => ∀ H' F', Ext B.T H F H' F' → Q d H'
  | .exc c => ∀ H', ExtH B.T B.H0 H' → B.wx c H'
  | .bad => False
def tP (B : Bd) (f : En → R (Option Int)) : TO := fun σ H Q => ∃ env F, Rel B env σ H F ∧ GoodP B H F Q (f env)
theorem PO.imp {e : Option Expr} {t t' : TO} (h : PO X e t) (i : ∀ σ H Q, t' σ H Q → t σ H Q) : PO X e t' := ⟨fun pins s σ H Q I q => h.run pins s σ H Q I (i σ H Q q)⟩
theorem o_none : PO X none (tP B noO) := PO.imp po_none fun σ H Q ⟨env, F, r, q⟩ => q H F r.stay
theorem o_some (ha : PE X a (tO B f)) : PO X (some a) (tP B (soO f)) := PO.imp (po_some ha) fun σ H Q ⟨env, F, rel, q⟩ => ⟨env, F, rel, by
  unfold soO at q
  cases hf : f env with
  | ok d =>
    rw [hf] at q
    intro x H1 F1 e1 rx
    cases d with
    | int i => exact ⟨i, rx.int, q H1 F1 e1⟩
    | _ => exact q.elim
  | exc c => rw [hf] at q; exact q
  | bad => rw [hf] at q; exact q⟩
def eSl (f : En → R D) (lo hi : En → R (Option Int)) : En → R D := fun env => (f env).bind fun d => (lo env).bind fun l => (hi env).bind fun h => slD d l h
theorem cut_rep {K : PySem.W.Frag} {F : Hp} {xs : List V} {l : List D} (r : RepL K F xs l) (lo hi : Option Int) : RepL K F (cutV xs lo hi) (cutD l lo hi) := by
  unfold cutV cutD
  rw [r.length]
  exact (r.drop _).take _
theorem cutD_le (l : List D) (lo hi : Option Int) : (cutD l lo hi).length ≤ l.length := by
  unfold cutD
  rw [List.length_take, List.length_drop]
  omega
theorem sok_cut {z : Str} (h : SOk z) (lo hi : Option Int) : SOk (cutS z lo hi) := by
  refine ⟨?_, ?_⟩
  · have h1 : z.cps.all (· < 0x110000) = true := h.1
    show (cutS z lo hi).cps.all (· < 0x110000) = true
    rw [Array.all_eq_true'] at h1 ⊢
    intro c hc
    refine h1 c ?_
    unfold cutS at hc
    simp only [List.mem_toArray] at hc
    have := List.mem_of_mem_drop (List.mem_of_mem_take hc)
    simpa using this
  · refine Nat.le_trans ?_ h.2
    show ((z.cps.toList.drop _).take _).toArray.size ≤ z.cps.size
    simp only [List.size_toArray, List.length_take, List.length_drop, Array.length_toList]
    omega
theorem e_slice {lo hi : Option Expr} {fl fh : En → R (Option Int)} {p2 : Pos} (O : OkX G B k X) (ha : PE X a (tO B f)) (hl : PO X lo (tP B fl)) (hh : PO X hi (tP B fh)) : PE X (.Subscript a (.Slice lo hi none p2) pos) (tE B (eSl f fl fh)) := by
  refine PE.imp (pe_slice (sl_tupA.or (sl_list.or sl_str)) ha hl hh) fun σ H Q ⟨env, F, rel, q⟩ => ⟨env, F, rel, ?_⟩
  unfold eSl at q
  cases hf : f env with
  | exc c => rw [hf] at q; exact q
  | bad => rw [hf] at q; exact q
  | ok d =>
    rw [hf] at q
    intro x H1 F1 e1 rx
    refine ⟨env, F1, rel.mono e1, ?_⟩
    simp only [R.bind] at q
    cases hlo : fl env with
    | exc c => rw [hlo] at q; exact q
    | bad => rw [hlo] at q; exact q
    | ok l =>
      rw [hlo] at q
      intro H2 F2 e2
      refine ⟨env, F2, (rel.mono e1).mono e2, ?_⟩
      simp only [R.bind] at q
      cases hhi : fh env with
      | exc c => rw [hhi] at q; exact q
      | bad => rw [hhi] at q; exact q
      | ok h =>
        rw [hhi] at q
        intro H3 F3 e3
        simp only [R.bind] at q
        have r3 := ((rel.mono e1).mono e2).mono e3
        have q3 := Good.mono ((e1.trans e2).trans e3) q
        have rx3 := rx.mono (e2.trans e3)
        have sub := r3.ext.sub
        cases d with
        | tup ds =>
          obtain ⟨a1, xs, ex, h1, r1, z1, w1⟩ := rx3.tup
          refine .inl ⟨a1, xs, ex, O.tupH sub h1, fun hw => ?_, fun _ p hp => ?_⟩
          · have ec : cutD ds l h = ds := by
              unfold cutD
              rw [← r1.length, hw.1, hw.2, Nat.sub_zero, List.drop_zero]
              exact List.take_of_length_le (by rw [r1.length]; exact Nat.le_refl _)
            have q4 : Good B H3 F3 Q (.ok (.tup (cutD ds l h))) := q3
            rw [ec] at q4
            rw [← ex]
            exact q4.now r3 w1
          · have E := r3.frz (o := .tup (cutV xs l h)) hp (fun ps z => by cases z)
            exact q3 _ _ _ E (.tup (.inl (.inl upd_same)) ((cut_rep r1 l h).mono E.fsame) (Nat.le_trans (cutD_le _ _ _) z1))
        | lst ds =>
          obtain ⟨a1, xs, ex, h1, r1, z1⟩ := rx3.lst sub
          refine .inr (.inl ⟨a1, xs, ex, SqL.of h1, fun p hp => ?_⟩)
          have E := r3.frz (o := .lst (cutV xs l h)) hp (fun ps z => by cases z)
          exact q3 _ _ _ E (.lst upd_same ((cut_rep r1 l h).mono E.fsame) (Nat.le_trans (cutD_le _ _ _) z1))
        | str z =>
          obtain ⟨ex, s1⟩ := rx3.str
          exact .inr (.inr ⟨z, ex, s1.2, q3.now r3 (.str _ (sok_cut s1 l h))⟩)
        | _ => exact q3.elim
theorem tCB1 {r : List V → Hp → VK → Prop} {op : D → R D} {σ : L2.St} {H : Hp} {Q : VK}
    (hr : ∀ (x : V) (a : D) (H F : Hp) (env : En) (Q : VK), Rel B env σ H F → RepO B H F x a → Good B H F Q (op a) → r [x] H Q)
    (h : tE B (op1 f op) σ H Q) : tCB r (tCons (tO B f) tNil) σ H Q := tUn_of (r := fun x H Q => r [x] H Q) hr h
theorem tCB2 {r : List V → Hp → VK → Prop} {op : D → D → R D} {σ : L2.St} {H : Hp} {Q : VK}
    (hr : ∀ (x y : V) (a b : D) (H F : Hp) (env : En) (Q : VK), Rel B env σ H F → RepO B H F x a → RepO B H F y b → Good B H F Q (op a b) → r [x, y] H Q)
    (h : tE B (op2 f g op) σ H Q) : tCB r (tCons (tO B f) (tCons (tO B g) tNil)) σ H Q := tOp_of (r := fun x y H Q => r [x, y] H Q) hr h
/-- a built-in of one argument -/
def FunS (G : Gx) (B : Bd) (k : Nat) (u : Value) (op : D → R D) : Prop := ∀ X, OkX G B k X → ∃ r, CallR X u r ∧ ∀ (x : V) (a : D) (H F : Hp) (σ : L2.St) (env : En) (Q : VK), Rel B env σ H F → RepO B H F x a → Good B H F Q (op a) → r [x] H Q
def FunS2 (G : Gx) (B : Bd) (k : Nat) (u : Value) (op : D → D → R D) : Prop := ∀ X, OkX G B k X → ∃ r, CallR X u r ∧ ∀ (x y : V) (a b : D) (H F : Hp) (σ : L2.St) (env : En) (Q : VK), Rel B env σ H F → RepO B H F x a → RepO B H F y b → Good B H F Q (op a b) → r [x, y] H Q
theorem e_b1 {id : String} {x : Str} {op : D → R D} {p : Pos} (O : OkX G B k X) (hf : FunS G B k (.builtin id) op) (hm : G.mg x = none) (ha : PE X a (tO B f)) (hg : Gl X x := by rfl) (hv : bootBuiltins x = some (.builtin id) := by decide +kernel) (hn : x ≠ "__name__" := by decide) (hdb : (x == ("__debug__" : Str)) = false := by decide)
    (he : starEach [a] X.env = (false, eval a X.env) :: starEach [] X.env := by rfl) (hpl : (backTo pos (starEach [] X.env)).any (·.1) = false := by rfl) : PE X (.Call (.Name x p) [a] [] pos) (tE B (op1 f op)) := by
  obtain ⟨r, h1, h2⟩ := hf X O
  exact PE.imp (pe_callB h1 hg (by rw [O.mg]; exact hm) hv (pa_cons ha pa_nil he) hn hdb he hpl) fun σ H Q => tCB1 fun x a H F env Q => h2 x a H F σ env Q
theorem e_t1 {T : String} {x : Str} {op : D → R D} {p : Pos} (O : OkX G B k X) (hf : FunS G B k (.type T) op) (hm : G.mg x = none) (ha : PE X a (tO B f)) (hg : Gl X x := by rfl) (hv : bootBuiltins x = some (.type T) := by decide +kernel) (hn : x ≠ "__name__" := by decide) (hdb : (x == ("__debug__" : Str)) = false := by decide)
    (he : starEach [a] X.env = (false, eval a X.env) :: starEach [] X.env := by rfl) (hpl : (backTo pos (starEach [] X.env)).any (·.1) = false := by rfl) : PE X (.Call (.Name x p) [a] [] pos) (tE B (op1 f op)) := by
  obtain ⟨r, h1, h2⟩ := hf X O
  exact PE.imp (pe_callTy h1 hg (by rw [O.mg]; exact hm) hv (pa_cons ha pa_nil he) hn hdb he hpl) fun σ H Q => tCB1 fun x a H F env Q => h2 x a H F σ env Q
theorem e_b2 {id : String} {x : Str} {op : D → D → R D} {p : Pos} (O : OkX G B k X) (hf : FunS2 G B k (.builtin id) op) (hm : G.mg x = none) (ha : PE X a (tO B f)) (hb : PE X b (tO B g)) (hg : Gl X x := by rfl) (hv : bootBuiltins x = some (.builtin id) := by decide +kernel) (hn : x ≠ "__name__" := by decide) (hdb : (x == ("__debug__" : Str)) = false := by decide)
    (he : starEach [a, b] X.env = (false, eval a X.env) :: starEach [b] X.env := by rfl) (he2 : starEach [b] X.env = (false, eval b X.env) :: starEach [] X.env := by rfl) (hpl : (backTo pos (starEach [b] X.env)).any (·.1) = false := by rfl) : PE X (.Call (.Name x p) [a, b] [] pos) (tE B (op2 f g op)) := by
  obtain ⟨r, h1, h2⟩ := hf X O
  exact PE.imp (pe_callB h1 hg (by rw [O.mg]; exact hm) hv (pa_cons ha (pa_cons hb pa_nil he2) he) hn hdb he hpl) fun σ H Q => tCB2 fun x y a b H F env Q => h2 x y a b H F σ env Q
def lenD : D → R D
  | .str z => .ok (.int z.length)
  | .tup l => .ok (.int l.length)
  | .lst l => .ok (.int l.length)
  | .scr l => .ok (.int l.length)
  | .dic l => .ok (.int l.length)
  | _ => .bad
theorem call_lenR {X : Cx} : CallR X (.builtin "len") (fun xs H Q => ∃ a kvs, xs = [V.ref a] ∧ Rd H a (.dK kvs) ∧ Q (.int kvs.length) H) := by
  intro pins s σ H xs us Q I r h
  obtain ⟨a, kvs, rfl, ha, q⟩ := h
  obtain ⟨u, rfl, ru⟩ := vals1 r
  cases ru
  exact d_len I ha fun t s' I' => ⟨.int kvs.length, H, I', ⟨t, rfl⟩, q⟩
theorem b_len : FunS G B k (.builtin "len") lenD := fun X O => ⟨_, call_len.or call_lenR, fun x a H F σ env Q r rx q => by
  have sub := r.ext.sub
  cases a with
  | str z => obtain ⟨e, s1⟩ := rx.str; subst e; exact .inl ⟨_, z.length, rfl, ⟨s1.2, rfl⟩, q.now r (.int _)⟩
  | tup l =>
    obtain ⟨a1, xs, e1, h1, r1, z1, w1⟩ := rx.tup
    subst e1
    exact .inl ⟨_, l.length, rfl, .inr ⟨xs, O.tupH sub h1, r1.length.symm⟩, q.now r (.int _)⟩
  | lst l =>
    obtain ⟨a1, xs, e1, h1, r1, z1⟩ := rx.lst sub
    subst e1
    exact .inl ⟨_, l.length, rfl, .inl ⟨xs, SqL.of h1, r1.length.symm⟩, q.now r (.int _)⟩
  | scr l =>
    obtain ⟨a1, e1, h1⟩ := rx.scr sub
    subst e1
    exact .inl ⟨_, l.length, rfl, .inl ⟨_, O.lstH h1, (List.length_map ..).symm⟩, q.now r (.int _)⟩
  | dic l =>
    obtain ⟨a1, xs, e1, h1, r1, z1⟩ := rx.dic sub
    subst e1
    have hl : xs.length = l.length := r1.length
    exact .inr ⟨a1, xs, rfl, h1, by rw [hl]; exact q.now r (.int _)⟩
  | _ => exact q.elim⟩
end
end Mk
set_option maxHeartbeats 2000000
namespace Mk
open PySem PySem.Spec PyProof.Rows L2
section
variable {G : Gx} {B : Bd} {k : Nat} {X : Cx} {a b c : Expr} {es : List Expr} {f g : En → R D} {fs : En → R (List D)} {pos : Pos}
def tyN : D → String
  | .non => "NoneType"
  | .bl _ => "bool"
  | .int _ => "int"
  | .str _ => "str"
  | .tup _ => "tuple"
  | .lst _ => "list"
  | .dic _ => "dict"
  | .scr _ => "list"
  | .obj _ => "NoneType"
def isOb : D → Bool
  | .obj _ => true
  | _ => false
theorem tyX_rep (O : OkX G B k X) {H F : Hp} {x : V} {d : D} (sub : Same F H) (h : RepO B H F x d) (hb : isOb d = false) : TyX X.K H x (.type (tyN d)) := by
  cases d with
  | obj a => cases hb
  | non => rw [h.non]; exact .base .non
  | bl b => rw [h.bl]; exact .base (.bl b)
  | int i => rw [h.int]; exact .base (.int i)
  | str z => rw [h.str.1]; exact .base (.str z)
  | tup l =>
    obtain ⟨a1, xs, e1, h1, _⟩ := h.tup
    rw [e1]
    rcases O.tupH sub h1 with (z | ⟨o, z⟩) | ⟨o, its, n, z1, z2, _⟩
    · exact .base (.tup z)
    · exact .fTuple z
    · exact .kTuple z1 z2
  | lst l =>
    obtain ⟨a1, xs, e1, h1, _⟩ := h.lst sub
    rw [e1]; exact .base (.lst h1)
  | dic l =>
    obtain ⟨a1, xs, e1, h1, _⟩ := h.dic sub
    rw [e1]
    rcases h1 with z | ⟨o, z⟩
    · exact .base (.dK z)
    · exact .fDict z
  | scr l =>
    obtain ⟨a1, e1, h1⟩ := h.scr sub
    rw [e1]
    rcases O.lstH h1 with (z | ⟨o, z⟩) | ⟨o, its, n, z1, z2, _⟩
    · exact .base (.lst z)
    · exact .base (.frz z)
    · exact .kList z1 z2
def isInt : D → Bool
  | .int _ => true
  | .bl _ => true
  | _ => false
def isBool : D → Bool
  | .bl _ => true
  | _ => false
def isStr : D → Bool
  | .str _ => true
  | _ => false
def isTup : D → Bool
  | .tup _ => true
  | _ => false
def isLst : D → Bool
  | .lst _ => true
  | .scr _ => true
  | _ => false
def isDic : D → Bool
  | .dic _ => true
  | _ => false
theorem k_int : ∀ d, kitB (tyN d) "int" = some (isInt d) := by
  have h : kitB "NoneType" "int" = some false ∧ kitB "bool" "int" = some true ∧ kitB "int" "int" = some true ∧ kitB "str" "int" = some false ∧ kitB "tuple" "int" = some false ∧ kitB "list" "int" = some false ∧ kitB "dict" "int" = some false := by decide +kernel
  obtain ⟨h1, h2, h3, h4, h5, h6, h7⟩ := h
  intro d; cases d <;> assumption
theorem k_bool : ∀ d, kitB (tyN d) "bool" = some (isBool d) := by
  have h : kitB "NoneType" "bool" = some false ∧ kitB "bool" "bool" = some true ∧ kitB "int" "bool" = some false ∧ kitB "str" "bool" = some false ∧ kitB "tuple" "bool" = some false ∧ kitB "list" "bool" = some false ∧ kitB "dict" "bool" = some false := by decide +kernel
  obtain ⟨h1, h2, h3, h4, h5, h6, h7⟩ := h
  intro d; cases d <;> assumption
theorem k_str : ∀ d, kitB (tyN d) "str" = some (isStr d) := by
  have h : kitB "NoneType" "str" = some false ∧ kitB "bool" "str" = some false ∧ kitB "int" "str" = some false ∧ kitB "str" "str" = some true ∧ kitB "tuple" "str" = some false ∧ kitB "list" "str" = some false ∧ kitB "dict" "str" = some false := by decide +kernel
  obtain ⟨h1, h2, h3, h4, h5, h6, h7⟩ := h
  intro d; cases d <;> assumption
theorem k_tuple : ∀ d, kitB (tyN d) "tuple" = some (isTup d) := by
  have h : kitB "NoneType" "tuple" = some false ∧ kitB "bool" "tuple" = some false ∧ kitB "int" "tuple" = some false ∧ kitB "str" "tuple" = some false ∧ kitB "tuple" "tuple" = some true ∧ kitB "list" "tuple" = some false ∧ kitB "dict" "tuple" = some false := by decide +kernel
  obtain ⟨h1, h2, h3, h4, h5, h6, h7⟩ := h
  intro d; cases d <;> assumption
theorem k_list : ∀ d, kitB (tyN d) "list" = some (isLst d) := by
  have h : kitB "NoneType" "list" = some false ∧ kitB "bool" "list" = some false ∧ kitB "int" "list" = some false ∧ kitB "str" "list" = some false ∧ kitB "tuple" "list" = some false ∧ kitB "list" "list" = some true ∧ kitB "dict" "list" = some false := by decide +kernel
  obtain ⟨h1, h2, h3, h4, h5, h6, h7⟩ := h
  intro d; cases d <;> assumption
theorem k_dict : ∀ d, kitB (tyN d) "dict" = some (isDic d) := by
  have h : kitB "NoneType" "dict" = some false ∧ kitB "bool" "dict" = some false ∧ kitB "int" "dict" = some false ∧ kitB "str" "dict" = some false ∧ kitB "tuple" "dict" = some false ∧ kitB "list" "dict" = some false ∧ kitB "dict" "dict" = some true := by decide +kernel
  obtain ⟨h1, h2, h3, h4, h5, h6, h7⟩ := h
  intro d; cases d <;> assumption
def isiD (t : D → Bool) : D → R D
  | .obj _ => .bad
  | d => .ok (.bl (t d))
theorem isiD_ok {t : D → Bool} {d : D} (h : isiD t d ≠ .bad) : isOb d = false ∧ isiD t d = .ok (.bl (t d)) := by
  cases d <;> first | exact ⟨rfl, rfl⟩ | exact (h rfl).elim
theorem e_isi {T : String} {x : Str} {t : D → Bool} {p p2 : Pos} (O : OkX G B k X) (hT : ∀ d, kitB (tyN d) T = some (t d)) (hi : G.mg "isinstance" = none) (hm : G.mg x = none) (ha : PE X a (tO B f)) (hgi : Gl X "isinstance" := by rfl) (hg : Gl X x := by rfl) (hv : bootBuiltins x = some (.type T) := by decide +kernel) (hvi : bootBuiltins "isinstance" = some (.builtin "isinstance") := by decide +kernel) (hn : x ≠ "__name__" := by decide) (hdb : (x == ("__debug__" : Str)) = false := by decide)
    (he : starEach [a, .Name x p2] X.env = (false, eval a X.env) :: starEach [.Name x p2] X.env := by rfl) (he2 : starEach [.Name x p2] X.env = (false, eval (.Name x p2) X.env) :: starEach [] X.env := by rfl) (hpl : (backTo pos (starEach [.Name x p2] X.env)).any (·.1) = false := by rfl) :
    PE X (.Call (.Name "isinstance" p) [a, .Name x p2] [] pos) (tE B (op1 f (isiD t))) := by
  refine PE.imp (pe_callB call_isi hgi (by rw [O.mg]; exact hi) hvi (pa_cons ha (pa_cons (pe_bltn hg (by rw [O.mg]; exact hm) hv (v := .ty T) rfl hn hdb) pa_nil he2) he) (by decide) (by decide) he hpl) fun σ H Q h => ?_
  refine tUn_of (r := fun x H Q => rIsi X.K [x, .ty T] H Q) (fun x a H F env Q r rx q => ?_) h
  obtain ⟨ho, ei⟩ := isiD_ok (t := t) (d := a) fun z => by rw [z] at q; exact q
  rw [ei] at q
  exact ⟨x, .ty T, _, _, t a, rfl, .ty T, tyX_rep O r.ext.sub rx ho, kit_ty (hT a), q.now r (.bl _)⟩
def boolsD : List D → Option (List Bool)
  | [] => some []
  | .bl b :: l => (boolsD l).map (b :: ·)
  | _ :: _ => none
def intsD : List D → Option (List Int)
  | [] => some []
  | .int i :: l => (intsD l).map (i :: ·)
  | _ :: _ => none
def strsD : List D → Option (List Str)
  | [] => some []
  | .str s :: l => (strsD l).map (s :: ·)
  | _ :: _ => none
theorem bools_rep {K : PySem.W.Frag} {F : Hp} : ∀ {xs : List V} {l : List D} {bs : List Bool}, RepL K F xs l → boolsD l = some bs → xs = bs.map V.bl
  | _, _, _, .nil, h => by cases h; rfl
  | _, _, _, .cons hd r, h => by
    cases hd with
    | bl b =>
      simp only [boolsD, Option.map_eq_some_iff] at h
      obtain ⟨bs, h1, h2⟩ := h
      rw [← h2, List.map_cons, bools_rep r h1]
    | _ => cases h
theorem ints_rep {K : PySem.W.Frag} {F : Hp} : ∀ {xs : List V} {l : List D} {bs : List Int}, RepL K F xs l → intsD l = some bs → xs = bs.map V.int
  | _, _, _, .nil, h => by cases h; rfl
  | _, _, _, .cons hd r, h => by
    cases hd with
    | int b =>
      simp only [intsD, Option.map_eq_some_iff] at h
      obtain ⟨bs, h1, h2⟩ := h
      rw [← h2, List.map_cons, ints_rep r h1]
    | _ => cases h
theorem strs_rep {K : PySem.W.Frag} {F : Hp} : ∀ {xs : List V} {l : List D} {bs : List Str}, RepL K F xs l → strsD l = some bs → xs = bs.map V.str
  | _, _, _, .nil, h => by cases h; rfl
  | _, _, _, .cons hd r, h => by
    cases hd with
    | str b _ =>
      simp only [strsD, Option.map_eq_some_iff] at h
      obtain ⟨bs, h1, h2⟩ := h
      rw [← h2, List.map_cons, strs_rep r h1]
    | _ => cases h
def allD : D → R D
  | .lst l => (ofO (boolsD l)).map fun bs => .bl (bs.all id)
  | _ => .bad
def anyD : D → R D
  | .lst l => (ofO (boolsD l)).map fun bs => .bl (bs.any id)
  | _ => .bad
def sumD : D → R D
  | .lst l => (ofO (intsD l)).map fun ns => .int ns.sum
  | _ => .bad
def foldI (op : Int → Int → Int) : List Int → Option Int
  | [] => none
  | n :: ns => some (ns.foldl op n)
def maxD1 : D → R D
  | .lst l => (ofO ((intsD l).bind (foldI max))).map .int
  | .tup l => (ofO ((intsD l).bind (foldI max))).map .int
  | _ => .bad
def minD1 : D → R D
  | .lst l => (ofO ((intsD l).bind (foldI min))).map .int
  | .tup l => (ofO ((intsD l).bind (foldI min))).map .int
  | _ => .bad
theorem b_all [Calm G] : FunS G B k (.builtin "all") allD := fun X O => ⟨_, cr_all O.calmX, fun x a H F σ env Q r rx q => by
  cases a with
  | lst l =>
    obtain ⟨a1, xs, e1, h1, r1, z1⟩ := rx.lst r.ext.sub
    subst e1
    simp only [allD] at q
    cases hb : boolsD l with
    | none => rw [hb] at q; exact q.elim
    | some bs =>
      rw [hb] at q
      rw [bools_rep r1 hb] at h1
      exact ⟨a1, bs, rfl, SqL.of h1, q.now r (.bl _)⟩
  | _ => exact q.elim⟩
theorem b_any [Calm G] : FunS G B k (.builtin "any") anyD := fun X O => ⟨_, cr_any O.calmX, fun x a H F σ env Q r rx q => by
  cases a with
  | lst l =>
    obtain ⟨a1, xs, e1, h1, r1, z1⟩ := rx.lst r.ext.sub
    subst e1
    simp only [anyD] at q
    cases hb : boolsD l with
    | none => rw [hb] at q; exact q.elim
    | some bs =>
      rw [hb] at q
      rw [bools_rep r1 hb] at h1
      exact ⟨a1, bs, rfl, SqL.of h1, q.now r (.bl _)⟩
  | _ => exact q.elim⟩
theorem b_sum [Calm G] : FunS G B k (.builtin "sum") sumD := fun X O => ⟨_, cr_sum O.calmX, fun x a H F σ env Q r rx q => by
  cases a with
  | lst l =>
    obtain ⟨a1, xs, e1, h1, r1, z1⟩ := rx.lst r.ext.sub
    subst e1
    simp only [sumD] at q
    cases hb : intsD l with
    | none => rw [hb] at q; exact q.elim
    | some bs =>
      rw [hb] at q
      rw [ints_rep r1 hb] at h1
      exact ⟨a1, bs, rfl, SqL.of h1, q.now r (.int _)⟩
  | _ => exact q.elim⟩
theorem alike_ints (ns : List Int) : PySem.W.AlikeAll (ns.map PyData.int) := by
  refine ⟨fun x hx y hy => ?_, fun x hx => ?_⟩
  · obtain ⟨i, _, rfl⟩ := List.mem_map.mp hx
    obtain ⟨j, _, rfl⟩ := List.mem_map.mp hy
    simp [PySem.W.alike]
  · obtain ⟨i, _, rfl⟩ := List.mem_map.mp hx
    exact fun z => by cases z
theorem depth_ints (ns : List Int) : PyData.depthAll (ns.map PyData.int) = 0 := by
  induction ns with
  | nil => simp [PyData.depthAll]
  | cons n ns ih => simp [PyData.depthAll, PyData.depth, ih]
def rMaxT (K : PySem.W.Frag) : List V → Hp → VK → Prop := fun vs H Q => ∃ (a : Addr) (n : Int) (ns : List Int), vs = [V.ref a] ∧ (SqL K H a ((n :: ns).map V.int) ∨ SqT K H a ((n :: ns).map V.int)) ∧ Q (.int (ns.foldl max n)) H
def rMinT (K : PySem.W.Frag) : List V → Hp → VK → Prop := fun vs H Q => ∃ (a : Addr) (n : Int) (ns : List Int), vs = [V.ref a] ∧ (SqL K H a ((n :: ns).map V.int) ∨ SqT K H a ((n :: ns).map V.int)) ∧ Q (.int (ns.foldl min n)) H
theorem reads_int {h : Heap} {v : Value} {i : Int} {as : List Addr} (r : Reads h v (.int i) as) : ∃ t, v = .int i t := by
  cases r; exact ⟨_, rfl⟩
theorem cr_maxT (hc : X.calm = true) (hu : X.A.units + 64 < cLine) : CallR X (.builtin "max") (rMaxT X.K) := by
  intro pins s σ H vs us Q I r h
  obtain ⟨a, n, ns, rfl, hs, q⟩ := h
  rw [Vals.ref1 r]
  have hu' : X.A.units + 1 + PyData.depthAll ((PyData.int n) :: ns.map PyData.int) < cLine := by
    have := depth_ints (n :: ns)
    simp only [List.map_cons] at this
    rw [this]; omega
  have ha : PySem.W.AlikeAll ((PyData.int n) :: ns.map PyData.int) := alike_ints (n :: ns)
  have fin : ∀ (v : Value) (h' : Heap) (tk : Nat) (bs : List Addr), Reads h' v (PySem.W.maxD (.int n) (ns.map .int)) bs → (∀ b o, s.heap.get? b = some o → h'.get? b = some o) → EP X pins σ Q v { s with heap := h', toks := tk } := fun v h' tk bs hr hk => by
    rw [PySem.W.maxD_ints] at hr
    obtain ⟨t, rfl⟩ := reads_int hr
    exact ⟨.int _, H, I.kept hk, ⟨_, rfl⟩, q⟩
  rcases hs with hs | hs
  · obtain ⟨its, rv, hl, _⟩ := I.list hs
    obtain ⟨as, hr⟩ := Dp.readsAll I ((n :: ns).map PyData.int) _ its (dp_ints _) rv
    exact PySem.W.max_list_data (I.ok.hd hc) hl.isList (by simpa using hr) ha hu' fun i v h' tk bs _ hr hk => fin v h' tk bs hr hk
  · obtain ⟨its, rv, hl, _⟩ := I.tuple hs
    obtain ⟨as, hr⟩ := Dp.readsAll I ((n :: ns).map PyData.int) _ its (dp_ints _) rv
    exact PySem.W.max_tuple_data (I.ok.hd hc) hl (by simpa using hr) ha hu' fun i v h' tk bs _ hr hk => fin v h' tk bs hr hk
theorem cr_minT (hc : X.calm = true) (hu : X.A.units + 64 < cLine) : CallR X (.builtin "min") (rMinT X.K) := by
  intro pins s σ H vs us Q I r h
  obtain ⟨a, n, ns, rfl, hs, q⟩ := h
  rw [Vals.ref1 r]
  have hu' : X.A.units + 1 + PyData.depthAll ((PyData.int n) :: ns.map PyData.int) < cLine := by
    have := depth_ints (n :: ns)
    simp only [List.map_cons] at this
    rw [this]; omega
  have ha : PySem.W.AlikeAll ((PyData.int n) :: ns.map PyData.int) := alike_ints (n :: ns)
  have fin : ∀ (v : Value) (h' : Heap) (tk : Nat) (bs : List Addr), Reads h' v (PySem.W.minD (.int n) (ns.map .int)) bs → (∀ b o, s.heap.get? b = some o → h'.get? b = some o) → EP X pins σ Q v { s with heap := h', toks := tk } := fun v h' tk bs hr hk => by
    rw [PySem.W.minD_ints] at hr
    obtain ⟨t, rfl⟩ := reads_int hr
    exact ⟨.int _, H, I.kept hk, ⟨_, rfl⟩, q⟩
  rcases hs with hs | hs
  · obtain ⟨its, rv, hl, _⟩ := I.list hs
    obtain ⟨as, hr⟩ := Dp.readsAll I ((n :: ns).map PyData.int) _ its (dp_ints _) rv
    exact PySem.W.min_list_data (I.ok.hd hc) hl.isList (by simpa using hr) ha hu' fun i v h' tk bs _ hr hk => fin v h' tk bs hr hk
  · obtain ⟨its, rv, hl, _⟩ := I.tuple hs
    obtain ⟨as, hr⟩ := Dp.readsAll I ((n :: ns).map PyData.int) _ its (dp_ints _) rv
    exact PySem.W.min_tuple_data (I.ok.hd hc) hl (by simpa using hr) ha hu' fun i v h' tk bs _ hr hk => fin v h' tk bs hr hk
theorem b_max [Calm G] : FunS G B k (.builtin "max") maxD1 := fun X O => ⟨_, cr_maxT O.calmX O.room.units, fun x a H F σ env Q r rx q => by
  cases a with
  | lst l =>
    obtain ⟨a1, xs, e1, h1, r1, z1⟩ := rx.lst r.ext.sub
    subst e1
    simp only [maxD1] at q
    cases hb : intsD l with
    | none => rw [hb] at q; exact q.elim
    | some bs =>
      rw [hb] at q
      cases bs with
      | nil => exact q.elim
      | cons n ns =>
        rw [ints_rep r1 hb] at h1
        exact ⟨a1, n, ns, rfl, .inl (SqL.of h1), q.now r (.int _)⟩
  | tup l =>
    obtain ⟨a1, xs, e1, h1, r1, z1, _⟩ := rx.tup
    subst e1
    simp only [maxD1] at q
    cases hb : intsD l with
    | none => rw [hb] at q; exact q.elim
    | some bs =>
      rw [hb] at q
      cases bs with
      | nil => exact q.elim
      | cons n ns =>
        rw [ints_rep r1 hb] at h1
        exact ⟨a1, n, ns, rfl, .inr (O.tupH r.ext.sub h1), q.now r (.int _)⟩
  | _ => exact q.elim⟩
theorem b_min [Calm G] : FunS G B k (.builtin "min") minD1 := fun X O => ⟨_, cr_minT O.calmX O.room.units, fun x a H F σ env Q r rx q => by
  cases a with
  | lst l =>
    obtain ⟨a1, xs, e1, h1, r1, z1⟩ := rx.lst r.ext.sub
    subst e1
    simp only [minD1] at q
    cases hb : intsD l with
    | none => rw [hb] at q; exact q.elim
    | some bs =>
      rw [hb] at q
      cases bs with
      | nil => exact q.elim
      | cons n ns =>
        rw [ints_rep r1 hb] at h1
        exact ⟨a1, n, ns, rfl, .inl (SqL.of h1), q.now r (.int _)⟩
  | tup l =>
    obtain ⟨a1, xs, e1, h1, r1, z1, _⟩ := rx.tup
    subst e1
    simp only [minD1] at q
    cases hb : intsD l with
    | none => rw [hb] at q; exact q.elim
    | some bs =>
      rw [hb] at q
      cases bs with
      | nil => exact q.elim
      | cons n ns =>
        rw [ints_rep r1 hb] at h1
        exact ⟨a1, n, ns, rfl, .inr (O.tupH r.ext.sub h1), q.now r (.int _)⟩
  | _ => exact q.elim⟩
def maxD2 : D → D → R D
  | .int i, .int j => .ok (.int (if j > i then j else i))
  | _, _ => .bad
def minD2 : D → D → R D
  | .int i, .int j => .ok (.int (if j < i then j else i))
  | _, _ => .bad
theorem b_max2 [Calm G] : FunS2 G B k (.builtin "max") maxD2 := fun X O => ⟨_, call_max2 O.calmX, fun x y a b H F σ env Q r rx ry q => by
  cases a with
  | int i =>
    cases b with
    | int j => rw [rx.int, ry.int]; exact ⟨i, j, rfl, q.now r (.int _)⟩
    | _ => exact q.elim
  | _ => exact q.elim⟩
theorem b_min2 [Calm G] : FunS2 G B k (.builtin "min") minD2 := fun X O => ⟨_, call_min2 O.calmX, fun x y a b H F σ env Q r rx ry q => by
  cases a with
  | int i =>
    cases b with
    | int j => rw [rx.int, ry.int]; exact ⟨i, j, rfl, q.now r (.int _)⟩
    | _ => exact q.elim
  | _ => exact q.elim⟩
def sokB (x : Str) : Bool := PySem.PyData.strOk x && decide (x.length ≤ LIM)
theorem sok_of {x : Str} (h : sokB x = true) : SOk x := by
  unfold sokB at h
  rw [Bool.and_eq_true, decide_eq_true_eq, LIM_eq] at h
  exact h
def intD : D → R D
  | .int i => .ok (.int i)
  | .bl b => .ok (.int (if b then 1 else 0))
  | .str s => if s.length ≤ 640 then (ofO (PySem.intText? s)).map .int else .bad
  | _ => .bad
def strD : D → R D
  | .int i => if i.natAbs < 2 ^ 60 ∧ sokB (toString i) = true then .ok (.str (toString i)) else .bad
  | _ => .bad
theorem b_int : FunS G B k (.type "int") intD := fun X O => ⟨_, call_int1.or call_int_str, fun x a H F σ env Q r rx q => by
  cases a with
  | int i => rw [rx.int]; exact .inl (.inl ⟨i, rfl, q.now r (.int _)⟩)
  | bl b => rw [rx.bl]; exact .inl (.inr ⟨b, rfl, q.now r (.int _)⟩)
  | str s =>
    obtain ⟨e1, s1⟩ := rx.str
    simp only [intD] at q
    split at q
    · rename_i hl
      cases hn : PySem.intText? s with
      | none => rw [hn] at q; exact q.elim
      | some n =>
        rw [hn] at q
        rw [e1]
        exact .inr ⟨s, n, rfl, hn, hl, q.now r (.int _)⟩
    · exact q.elim
  | _ => exact q.elim⟩
theorem b_str : FunS G B k (.type "str") strD := fun X O => ⟨_, call_str_int, fun x a H F σ env Q r rx q => by
  cases a with
  | int i =>
    simp only [strD] at q
    split at q
    · rename_i hm
      rw [rx.int]
      refine ⟨i, rfl, ?_, q.now r (.str _ (sok_of hm.2))⟩
      by_cases h0 : i.natAbs = 0
      · rw [h0]; decide
      · exact Nat.lt_trans ((Nat.log2_lt h0).mpr hm.1) (by decide)
    · exact q.elim
  | _ => exact q.elim⟩
def tupleD : D → R D
  | .tup l => .ok (.tup l)
  | .lst l => .ok (.tup l)
  | _ => .bad
def listD : D → R D
  | .tup l => .ok (.lst l)
  | .lst l => .ok (.lst l)
  | _ => .bad
theorem b_tuple : FunS G B k (.type "tuple") tupleD := fun X O => ⟨_, call_tuple_of, fun x a H F σ env Q r rx q => by
  cases a with
  | tup l =>
    obtain ⟨a1, xs, e1, h1, r1, z1, w1⟩ := rx.tup
    subst e1
    exact ⟨a1, xs, rfl, .inr ⟨O.tupH r.ext.sub h1, q.now r w1⟩⟩
  | lst l =>
    obtain ⟨a1, xs, e1, h1, r1, z1⟩ := rx.lst r.ext.sub
    subst e1
    refine ⟨a1, xs, rfl, .inl ⟨SqL.of h1, fun p hp => ?_⟩⟩
    have E := r.frz (o := .tup xs) hp (fun ps z => by cases z)
    exact q _ _ _ E (.tup (.inl (.inl upd_same)) (r1.mono E.fsame) z1)
  | _ => exact q.elim⟩
theorem b_list : FunS G B k (.type "list") listD := fun X O => ⟨_, call_list_of, fun x a H F σ env Q r rx q => by
  cases a with
  | tup l =>
    obtain ⟨a1, xs, e1, h1, r1, z1, w1⟩ := rx.tup
    subst e1
    refine ⟨a1, xs, rfl, .inr (O.tupH r.ext.sub h1), fun p hp => ?_⟩
    have E := r.frz (o := .lst xs) hp (fun ps z => by cases z)
    exact q _ _ _ E (.lst upd_same (r1.mono E.fsame) z1)
  | lst l =>
    obtain ⟨a1, xs, e1, h1, r1, z1⟩ := rx.lst r.ext.sub
    subst e1
    refine ⟨a1, xs, rfl, .inl (SqL.of h1), fun p hp => ?_⟩
    have E := r.frz (o := .lst xs) hp (fun ps z => by cases z)
    exact q _ _ _ E (.lst upd_same (r1.mono E.fsame) z1)
  | _ => exact q.elim⟩
def sidxD : D → D → R D
  | .str x, .str y => match Builtin.Str.occurrences x y 0 x.length 1 with
    | i :: _ => .ok (.int (i : Nat))
    | [] => .bad
  | _, _ => .bad
def lidxD : D → D → R D
  | .lst l, x => if eqOk x (.lst l) = true then (ofO ((pyL l).findIdx? fun z => PyData.eqv z x.py)).map fun j => .int (j : Nat) else .bad
  | _, _ => .bad
/-- o.m(e): o must be of the kind -/
def opM (t : D → Bool) (f g : En → R D) (op : D → D → R D) : En → R D := fun env => (f env).bind fun a => if t a = true then (g env).bind fun b => op a b else .bad
theorem tBM_of {T : String} {r : V → List V → Hp → VK → Prop} {t : D → Bool} {op : D → D → R D} {σ : L2.St} {H : Hp} {Q : VK}
    (hr : ∀ (x y : V) (a b : D) (H F : Hp) (env : En) (Q : VK), Rel B env σ H F → RepO B H F x a → RepO B H F y b → Good B H F Q (op a b) → r x [y] H Q)
    (hty : ∀ (x : V) (a : D) (H F : Hp) (env : En), Rel B env σ H F → RepO B H F x a → t a = true → tyV X.K T x H)
    (h : tE B (opM t f g op) σ H Q) : tBM X.K T r (tO B f) (tCons (tO B g) tNil) σ H Q := by
  obtain ⟨env, F, rel, q⟩ := h
  refine ⟨env, F, rel, ?_⟩
  rcases q.bind with ⟨a, ea, q⟩ | ⟨c, ea, q⟩
  · rw [ea]
    intro x H1 F1 e1 rx
    by_cases ht : t a = true
    · rw [if_pos ht] at q
      refine ⟨hty x a H1 F1 env (rel.mono e1) rx ht, env, F1, rel.mono e1, ?_⟩
      rcases q.bind with ⟨b, eb, q⟩ | ⟨c, eb, q⟩
      · rw [eb]
        exact fun y H2 F2 e2 ry => hr x y a b H2 F2 env Q (rel.mono (e1.trans e2)) (rx.mono e2) ry (q.mono (e1.trans e2))
      · rw [eb]
        exact q
    · rw [if_neg ht] at q; exact q.elim
  · rw [ea]
    exact q
theorem ty_str {H F : Hp} {x : V} {a : D} (rx : RepO B H F x a) (ht : isStr a = true) : tyV X.K "str" x H := by
  cases a with
  | str z => rw [rx.str.1]; exact rfl
  | _ => cases ht
def isL : D → Bool
  | .lst _ => true
  | _ => false
theorem ty_lst {H F : Hp} {x : V} {a : D} (sub : Same F H) (rx : RepO B H F x a) (ht : isL a = true) : tyV X.K "list" x H := by
  cases a with
  | lst l =>
    obtain ⟨a1, xs, e1, h1, _⟩ := rx.lst sub
    rw [e1]
    exact .inl ⟨rfl, xs, SqL.of h1⟩
  | _ => cases ht
theorem e_sindex {apos cpos : Pos} (ha : PE X a (tO B f)) (hb : PE X b (tO B g)) (hbase : attributeBase a "index" X.env (eval a X.env) = eval a X.env := by rfl)
    (hfew : ((backTo cpos (starEach [b] X.env)).all (fun x => !x.1) && (backToKw cpos (keywordEach [] X.env)).all (fun x => x.1.isSome) && decide ([b].length + ([] : List Keyword).length + (if ([] : List Keyword).isEmpty then 0 else 1) < 30)) = true := by rfl)
    (hline : (apos.endLine == cpos.line) = true := by rfl) (hs : starEach [b] X.env = (false, eval b X.env) :: starEach [] X.env := by rfl) : PE X (.Call (.Attribute a "index" apos) [b] [] cpos) (tE B (opM isStr f g sidxD)) := by
  refine PE.imp (pe_bm PySem.F.plainAttrs_str PySem.F.slot_str_index PySem.F.type_str_index mt_sindex ha (pa_cons hb pa_nil hs) hbase hfew hline hs rfl) fun σ H Q => tBM_of (fun x y a b H F env Q r rx ry q => ?_) fun x a H F env r rx ht => ty_str rx ht
  cases a with
  | str x =>
    cases b with
    | str y =>
      simp only [sidxD] at q
      cases ho : Builtin.Str.occurrences x y 0 x.length 1 with
      | nil => rw [ho] at q; exact q.elim
      | cons i rest =>
        rw [ho] at q
        rw [rx.str.1, ry.str.1]
        exact ⟨x, y, i, rest, rfl, rfl, ho, q.now r (.int _)⟩
    | _ => exact q.elim
  | _ => exact q.elim
theorem e_lindex {apos cpos : Pos} (O : OkX G B k X) (ha : PE X a (tO B f)) (hb : PE X b (tO B g)) (hbase : attributeBase a "index" X.env (eval a X.env) = eval a X.env := by rfl)
    (hfew : ((backTo cpos (starEach [b] X.env)).all (fun x => !x.1) && (backToKw cpos (keywordEach [] X.env)).all (fun x => x.1.isSome) && decide ([b].length + ([] : List Keyword).length + (if ([] : List Keyword).isEmpty then 0 else 1) < 30)) = true := by rfl)
    (hline : (apos.endLine == cpos.line) = true := by rfl) (hs : starEach [b] X.env = (false, eval b X.env) :: starEach [] X.env := by rfl) : PE X (.Call (.Attribute a "index" apos) [b] [] cpos) (tE B (opM isL f g lidxD)) := by
  refine PE.imp (pe_bm PySem.F.plainAttrs_list PySem.F.slot_list_index PySem.F.type_list_index (mt_indexD (in_units O.room)) ha (pa_cons hb pa_nil hs) hbase hfew hline hs rfl) fun σ H Q => tBM_of (fun x y a b H F env Q r rx ry q => ?_) fun x a H F env r rx ht => ty_lst r.ext.sub rx ht
  cases a with
  | lst l =>
    simp only [lidxD] at q
    split at q
    · rename_i h
      obtain ⟨h1, h2, h3, h4⟩ := eqOk_of h
      obtain ⟨d1, l1⟩ := repO_dp r.ext.sub ry h1
      obtain ⟨d2, l2⟩ := repO_dp r.ext.sub rx h2
      rw [O.K] at d1 d2
      obtain ⟨a1, xs, e1, _⟩ := rx.lst r.ext.sub
      subst e1
      cases hj : (pyL l).findIdx? fun z => PyData.eqv z b.py with
      | none => rw [hj] at q; exact q.elim
      | some j =>
        rw [hj] at q
        obtain ⟨hlt, hz, hno⟩ := List.findIdx?_eq_some_iff_getElem.mp hj
        refine ⟨a1, y, b.py, pyL l, j, (pyL l)[j], rfl, rfl, d2, d1, ?_, ?_, List.getElem?_eq_getElem hlt, hz, fun m z' hm hz' => ?_, q.now r (.int _)⟩
        · unfold SeqAt.shaped; rw [show PyData.canLay0 (.list (pyL l)) = true from l2]; simpa [D.py] using h4
        · unfold SeqAt.shaped; rw [l1]; simpa using h3
        · have hml : m < (pyL l).length := by omega
          rw [List.getElem?_eq_getElem hml] at hz'
          cases hz'
          exact Bool.not_eq_true _ ▸ hno m hm
    · exact q.elim
  | _ => exact q.elim
end
end Mk
set_option maxHeartbeats 2000000
namespace Mk
open PySem PySem.Spec PyProof.Rows L2
/-- the walk J gives the data ds, one after the other, as long as what is frozen in F₁ stands -/
def ItOk (B : Bd) (F1 : Hp) (ds : List D) (J : It) : Prop := ∃ (GG : Hp → Prop) (Y : Nat → Hp → V → Hp → Prop), Walk J ds.length GG Y ∧ (∀ H', Same F1 H' → GG H') ∧
  ∀ (i : Nat) (H' F' : Hp) (x : V) (H'' : Hp), i < ds.length → Same F1 F' → Same F' H' → (∀ b ps, F' b ≠ some (.tbl ps)) → Y i H' x H'' → ∃ F'' d, Ext B.T H' F' H'' F'' ∧ ds[i]? = some d ∧ Rep B.K F'' x d
def GoodI (B : Bd) (H F : Hp) (Q : It → Hp → Prop) : R (List D) → Prop
  | .ok ds => ∀ J H1 F1, Ext B.T H F H1 F1 → ItOk B F1 ds J → Q J H1
  | .exc c => ∀ H', ExtH B.T B.H0 H' → B.wx c H'
  | .bad => False
def tI (B : Bd) (f : En → R (List D)) : TI := fun σ H Q => ∃ env F, Rel B env σ H F ∧ GoodI B H F Q (f env)
theorem PI.imp {X : Cx} {tg e : Expr} {t t' : TI} (h : PI X tg e t) (i : ∀ σ H Q, t' σ H Q → t σ H Q) : PI X tg e t' := ⟨fun pins s σ H Q I q => h.run pins s σ H Q I (i σ H Q q)⟩
def itD : D → R (List D)
  | .tup l => .ok l
  | .lst l => .ok l
  | .scr l => .ok (l.map .int)
  | .str z => .ok (z.cps.toList.map fun c => .str ⟨#[c]⟩)
  | _ => .bad
def opI (f : En → R D) (op : D → R (List D)) : En → R (List D) := fun env => (f env).bind op
section
variable {G : Gx} {B : Bd} {k : Nat} {X : Cx} {tg a b : Expr} {f g : En → R D} {pos : Pos}
/-- a list, a tuple or a text, as it comes -/
theorem pi_any {te : TE} (he : PE X a te) : PI X tg a (fun σ H R => te σ H fun x H1 => (∃ p, x = .ref p ∧ (∃ xs, SqL X.K H1 p xs) ∧ R (Itl X.K p) H1) ∨ (∃ p, x = .ref p ∧ (∃ xs, SqT X.K H1 p xs) ∧ R (Itt X.K p) H1) ∨ ∃ z, x = .str z ∧ R (Its z) H1) := by
  refine ⟨fun pins s σ H R I h => thn (he.run pins s σ H _ I h) fun u s1 ⟨x, H1, I1, rx, q1⟩ => ?_⟩
  rcases q1 with ⟨p, e, ⟨xs, hq⟩, q⟩ | ⟨p, e, ⟨xs, hq⟩, q⟩ | ⟨z, e, q⟩
  · subst e
    cases rx
    obtain ⟨us, _, pl, _⟩ := I1.list hq
    exact wpAny_pyIter_list pl.isList (pi_one (tk := s1.toks) I1 _ (turn_list p _) ⟨_, Heap.get?_push_size _ rfl, rfl, rfl⟩ q)
  · subst e
    cases rx
    obtain ⟨us, _, pl, _⟩ := I1.tuple hq
    exact wpAny_pyIter_tuple (show s1.heap.IsTuple p us.toArray from pl) (pi_one (tk := s1.toks) I1 _ (turn_tuple p _) ⟨_, Heap.get?_push_size _ rfl, rfl, rfl⟩ q)
  · subst e
    obtain ⟨t, rfl⟩ := rx
    by_cases hw : z.cps.all (· < 128) = true
    · exact wpAny_pyIter_ascii hw (pi_one (tk := s1.toks) I1 _ (turn_str _ z t "str_ascii_iterator" (.inl rfl)) ⟨_, Heap.get?_push_size _ rfl, rfl, rfl⟩ q)
    · exact wpAny_pyIter_wide (Bool.eq_false_iff.mpr hw) (pi_one (tk := s1.toks) I1 _ (turn_str _ z t "str_iterator" (.inr rfl)) ⟨_, Heap.get?_push_size _ rfl, rfl, rfl⟩ q)
theorem itOk_at {F1 : Hp} {ds : List D} {xs : List V} {J : It} {GG : Hp → Prop} (w : Walk J xs.length GG (YAt xs)) (hg : ∀ H', Same F1 H' → GG H') (r : RepL B.K F1 xs ds) : ItOk B F1 ds J := by
  refine ⟨GG, YAt xs, by rw [← r.length]; exact w, hg, fun i H' F' x H'' hi s1 s2 nt y => ?_⟩
  obtain ⟨rfl, hx⟩ := y
  obtain ⟨d, hd, rd⟩ := r.get hx
  exact ⟨F', d, .stay s2 nt, hd, rd.mono s1⟩
theorem i_seq (O : OkX G B k X) (ha : PE X a (tE B f)) : PI X tg a (tI B (opI f itD)) := by
  refine PI.imp (pi_any ha) fun σ H Q ⟨env, F, rel, q⟩ => ⟨env, F, rel, ?_⟩
  unfold opI at q
  cases hf : f env with
  | exc c => rw [hf] at q; exact q
  | bad => rw [hf] at q; exact q
  | ok d =>
    rw [hf] at q
    intro x H1 F1 e1 rx
    have sub := (rel.mono e1).ext.sub
    cases d with
    | tup l =>
      cases rx with
      | tup h1 r1 z1 => exact .inr (.inl ⟨_, rfl, ⟨_, O.tupH sub h1⟩, q _ _ _ e1 (itOk_at walk_tup (fun H' hs => O.tupH hs h1) r1)⟩)
    | lst l =>
      cases rx with
      | lst h1 r1 z1 => exact .inl ⟨_, rfl, ⟨_, SqL.of (sub _ _ h1)⟩, q _ _ _ e1 (itOk_at walk_list (fun H' hs => SqL.of (hs _ _ h1)) r1)⟩
    | scr l =>
      cases rx with
      | @scr p ns h1 =>
        refine .inl ⟨_, rfl, ⟨_, O.lstH (sqL_mono sub h1)⟩, q _ _ _ e1 (itOk_at walk_list (fun H' hs => O.lstH (sqL_mono hs h1)) ?_)⟩
        clear q h1 hf
        induction l with
        | nil => exact .nil
        | cons n l ih => exact .cons (.int n) ih
    | str z =>
      cases rx with
      | str _ hz =>
        refine .inr (.inr ⟨z, rfl, q _ _ _ e1 ⟨fun _ => True, _, (by rw [List.length_map, Array.length_toList]; exact walk_str), fun _ _ => trivial, fun i H' F' x H'' hi s1 s2 nt y => ?_⟩⟩)
        obtain ⟨rfl, c, hc, rfl⟩ := y
        have hc' : z.cps.toList[i]? = some c := by simpa using hc
        refine ⟨F', .str ⟨#[c]⟩, .stay s2 nt, by rw [List.getElem?_map, hc']; rfl, .str _ (sok_one hz (List.mem_of_getElem? hc'))⟩
    | _ => exact q.elim
/-- range(n), range(m, n) -/
def rgD (i j : Int) : R (List D) := if -(2 ^ 62) ≤ i ∧ i < 2 ^ 62 ∧ -(2 ^ 62) ≤ j ∧ j < 2 ^ 62 then .ok ((List.range (j - i).toNat).map fun (n : Nat) => D.int (i + (n : Int))) else .bad
def rg1 : D → R (List D)
  | .int j => rgD 0 j
  | _ => .bad
def opI2 (f g : En → R D) (op : D → D → R (List D)) : En → R (List D) := fun env => (f env).bind fun a => (g env).bind fun b => op a b
theorem itOk_rg {F1 : Hp} {i : Int} {n : Nat} : ItOk B F1 ((List.range n).map fun (m : Nat) => D.int (i + (m : Int))) (Itr i n) := by
  refine ⟨fun _ => True, _, (by rw [List.length_map, List.length_range]; exact walk_range), fun _ _ => trivial, fun j H' F' x H'' hj s1 s2 nt y => ?_⟩
  obtain ⟨rfl, rfl⟩ := y
  rw [List.length_map, List.length_range] at hj
  exact ⟨F', _, .stay s2 nt, by rw [List.getElem?_map, List.getElem?_range hj]; rfl, .int _⟩
theorem i_range1 {p : Pos} (O : OkX G B k X) (hm : G.mg "range" = none) (ha : PE X a (tO B f)) (hg : Gl X "range" := by rfl) (hs : starEach [a] X.env = [(false, eval a X.env)] := by rfl) : PI X tg (.Call (.Name "range" p) [a] [] pos) (tI B (opI f rg1)) := by
  refine PI.imp (pi_range1 hg (by rw [O.mg]; exact hm) (pa_cons ha pa_nil hs) hs) fun σ H Q ⟨env, F, rel, q⟩ => ⟨env, F, rel, ?_⟩
  unfold opI at q
  cases hf : f env with
  | exc c => rw [hf] at q; exact q
  | bad => rw [hf] at q; exact q
  | ok d =>
    rw [hf] at q
    intro x H1 F1 e1 rx
    cases d with
    | int j =>
      simp only [R.bind, rg1, rgD] at q
      split at q
      · rename_i hm
        refine ⟨j, by rw [rx.int], hm.2.2.1, hm.2.2.2, q _ _ _ e1 ?_⟩
        have := itOk_rg (B := B) (F1 := F1) (i := 0) (n := (j - 0).toNat)
        rwa [show (j - 0).toNat = j.toNat by rw [Int.sub_zero]] at this ⊢
      · exact q.elim
    | _ => exact q.elim
def gN (i : Nat) : D → En → R En := fun d env => if i < env.length then .ok (env.set i (some (.fro d))) else .bad
/-- but for the slots js nothing was stored -/
def Keeps (js : List Nat) (σ σ' : L2.St) : Prop := σ'.length = σ.length ∧ ∀ j, j ∉ js → σ'[j]? = σ[j]?
theorem Keeps.set {js : List Nat} {σ : L2.St} {i : Nat} {v : Option V} (h : i ∈ js) : Keeps js σ (σ.set i v) :=
  ⟨List.length_set .., fun j hj => List.getElem?_set_ne (fun e => hj (by rw [← e]; exact h))⟩
theorem Keeps.trans {js : List Nat} {σ σ1 σ2 : L2.St} (a : Keeps js σ σ1) (b : Keeps js σ1 σ2) : Keeps js σ σ2 := ⟨b.1.trans a.1, fun j hj => (b.2 j hj).trans (a.2 j hj)⟩
theorem Keeps.refl {js : List Nat} (σ : L2.St) : Keeps js σ σ := ⟨rfl, fun _ _ => rfl⟩
def GoodG (B : Bd) (js : List Nat) (σ : L2.St) (H F : Hp) (Q : L2.St → Hp → Prop) : R En → Prop
  | .ok env => ∀ σ', Rel B env σ' H F → Keeps js σ σ' → Q σ' H
  | .exc c => ∀ H', ExtH B.T B.H0 H' → B.wx c H'
  | .bad => False
/-- a target takes d -/
def tG (B : Bd) (js : List Nat) (t : D → En → R En) : TG := fun v σ H Q => ∃ env F d, Rel B env σ H F ∧ Rep B.K F v d ∧ GoodG B js σ H F Q (t d env)
theorem PG.imp {X : Cx} {e : Expr} {t t' : TG} (h : PG X e t) (i : ∀ v σ H Q, t' v σ H Q → t v σ H Q) : PG X e t' := ⟨fun pins s σ H v u Q I r q => h.run pins s σ H v u Q I r (i v σ H Q q)⟩
/-- a slot takes what never changes -/
theorem Rel.put {env : En} {σ : L2.St} {H F : Hp} (r : Rel B env σ H F) {i : Nat} {v : V} {d : D} (hv : Rep B.K F v d) : Rel B (env.set i (some (.fro d))) (σ.set i (some v)) H F where
  ext := r.ext
  tab := r.tab
  len := by rw [List.length_set, List.length_set, r.len]
  slot := fun j s h => by
    by_cases e : i = j
    · subst e
      by_cases hl : i < env.length
      · rw [List.getElem?_set_self hl] at h
        have hs : SV.fro d = s := Option.some.inj (Option.some.inj h)
        subst hs
        exact ⟨v, List.getElem?_set_self (by rw [← r.len]; exact hl), hv⟩
      · rw [List.getElem?_eq_none (by rw [List.length_set]; omega)] at h
        cases h
    · rw [List.getElem?_set_ne e] at h ⊢
      exact r.slot j s h
  dist := fun j l s s' hne h1 h2 o1 o2 => by
    have nj : i ≠ j := fun e => by
      subst e
      by_cases hl : i < env.length
      · rw [List.getElem?_set_self hl] at h1
        have hs : SV.fro d = s := Option.some.inj (Option.some.inj h1)
        subst hs; cases o1
      · rw [List.getElem?_eq_none (by rw [List.length_set]; omega)] at h1
        cases h1
    have nl : i ≠ l := fun e => by
      subst e
      by_cases hl : i < env.length
      · rw [List.getElem?_set_self hl] at h2
        have hs : SV.fro d = s' := Option.some.inj (Option.some.inj h2)
        subst hs; cases o2
      · rw [List.getElem?_eq_none (by rw [List.length_set]; omega)] at h2
        cases h2
    rw [List.getElem?_set_ne nj] at h1 ⊢
    rw [List.getElem?_set_ne nl] at h2 ⊢
    exact r.dist j l s s' hne h1 h2 o1 o2
theorem g_name (i : Nat) {x : Str} (hN : X.N.Nodup) (hi : X.N[i]? = some x := by rfl) (hx : Loc X.env.scope x := by first | exact .inl rfl | exact .inr rfl) (hf : X.fn x = true ∨ X.env.scope.names.lookup x = some .local := by first | exact .inl rfl | exact .inr rfl | assumption) : PG X (.Name x pos) (tG B [i] (gN i)) :=
  PG.imp (pg_name hN hi hx hf) fun v σ H Q ⟨env, F, d, rel, rv, q⟩ => by
    unfold gN at q
    by_cases hl : i < env.length
    · rw [if_pos hl] at q
      exact q _ (rel.put rv) (Keeps.set List.mem_cons_self)
    · rw [if_neg hl] at q
      exact q.elim
/-- several targets -/
def gNs : List (D → En → R En) → List D → En → R En
  | [], [], env => .ok env
  | t :: ts, d :: ds, env => (t d env).bind fun env' => gNs ts ds env'
  | _, _, _ => .bad
def tGs (B : Bd) (js : List Nat) (ts : List (D → En → R En)) : TGs := fun vs σ H Q => ∃ env F ds σ0, Rel B env σ H F ∧ RepL B.K F vs ds ∧ Keeps js σ0 σ ∧ GoodG B js σ0 H F Q (gNs ts ds env)
theorem PGs.imp {X : Cx} {e : List Expr} {t t' : TGs} (h : PGs X e t) (i : ∀ v σ H Q, t' v σ H Q → t v σ H Q) : PGs X e t' := ⟨fun pins s σ H v u Q I r q => h.run pins s σ H v u Q I r (i v σ H Q q)⟩
theorem gs_nil {js : List Nat} : PGs X [] (tGs B js []) := PGs.imp pgs_nil fun v σ H Q ⟨env, F, ds, σ0, rel, rv, kp, q⟩ => by
  cases rv with
  | nil => exact ⟨rfl, q _ rel kp⟩
  | cons _ _ => exact q.elim
/-- a plain name ahead of others -/
theorem gs_cons (i : Nat) {js : List Nat} {x : Str} {p : Pos} {es : List Expr} {ts : List (D → En → R En)} (h2 : PGs X es (tGs B js ts)) (hN : X.N.Nodup) (hj : i ∈ js := by decide) (hi : X.N[i]? = some x := by rfl) (hx : Loc X.env.scope x := by first | exact .inl rfl | exact .inr rfl) (hf : X.fn x = true ∨ X.env.scope.names.lookup x = some .local := by first | exact .inl rfl | exact .inr rfl | assumption)
    (hs : (assignEach (.Name x p :: es) X.env).map (·.2) = assign (.Name x p) X.env :: (assignEach es X.env).map (·.2) := by rfl) : PGs X (.Name x p :: es) (tGs B js (gN i :: ts)) :=
  PGs.imp (pgs_cons (pg_name hN hi hx hf) h2 hs) fun vs σ H Q ⟨env, F, ds, σ0, rel, rv, kp, q⟩ => by
    cases rv with
    | nil => exact q.elim
    | @cons v vs d ds hv hr =>
      refine ⟨v, vs, rfl, ?_⟩
      simp only [gNs, gN] at q
      by_cases hl : i < env.length
      · rw [if_pos hl] at q
        exact ⟨_, F, ds, σ0, rel.put hv, hr, kp.trans (Keeps.set hj), q⟩
      · rw [if_neg hl] at q
        exact q.elim
def gT (n : Nat) (ts : List (D → En → R En)) : D → En → R En
  | .tup l, env => if l.length = n then gNs ts l env else .bad
  | _, _ => .bad
theorem g_tup [Calm G] {es : List Expr} {kk n : Nat} {js : List Nat} {ts : List (D → En → R En)} (O : OkX G B k X) (h : PGs X es (tGs B js ts)) (hn : (assignEach es X.env).length = n := by rfl) (hst : (assignEach es X.env).findIdx? (·.1) = none := by rfl) : PG X (.Tuple es kk pos) (tG B js (gT n ts)) :=
  PG.imp (pg_tup O.calmX h hn hst) fun v σ H Q ⟨env, F, d, rel, rv, q⟩ => by
    cases rv with
    | tup h1 r1 z1 =>
      simp only [gT] at q
      split at q
      · rename_i hl
        exact ⟨_, _, rfl, O.tupH rel.ext.sub h1, by rw [r1.length]; exact hl, env, F, _, σ, rel, r1, Keeps.refl σ, q⟩
      · exact q.elim
    | _ => exact q.elim
end
end Mk
set_option maxHeartbeats 2000000
namespace Mk
open PySem PySem.Spec PyProof.Rows L2
theorem tabs_mut {T : List (Addr × Str)} {H : Hp} {a : Addr} {xs : List V} {o : HO} (h : H a = some (.lst xs)) (t : LamX.Tabs T H) : LamX.Tabs T (upd H a o) := fun p hp => by
  obtain ⟨ps, h1, h2, h3⟩ := t p hp
  have n1 : p.1 ≠ a := fun e => by rw [e, h] at h1; cases h1
  refine ⟨ps, by rw [upd_ne n1]; exact h1, h2, fun pos cv hc => ?_⟩
  obtain ⟨c, e1, e2⟩ := h3 pos cv hc
  have n2 : c ≠ a := fun e => by
    rw [e, h] at e2
    unfold LamX.CodeO at e2
    cases e2
  exact ⟨c, e1, by rw [upd_ne n2]; exact e2⟩
theorem tabs_mutK {T : List (Addr × Str)} {H : Hp} {a : Addr} {xs : List (Key × V)} {o : HO} (h : H a = some (.dK xs)) (t : LamX.Tabs T H) : LamX.Tabs T (upd H a o) := fun p hp => by
  obtain ⟨ps, h1, h2, h3⟩ := t p hp
  have n1 : p.1 ≠ a := fun e => by rw [e, h] at h1; cases h1
  refine ⟨ps, by rw [upd_ne n1]; exact h1, h2, fun pos cv hc => ?_⟩
  obtain ⟨c, e1, e2⟩ := h3 pos cv hc
  have n2 : c ≠ a := fun e => by
    rw [e, h] at e2
    unfold LamX.CodeO at e2
    cases e2
  exact ⟨c, e1, by rw [upd_ne n2]; exact e2⟩
section
variable {T : List (Addr × Str)} {H F H1 F1 : Hp} {a : Addr} {xs : List V} {o : HO}
theorem Ext.mut (e : Ext T H F H1 F1) (hf : Free H a) (ht : LamX.Tabs T H1 → LamX.Tabs T (upd H1 a o)) (hn : F1 a = none) : Ext T H F (upd H1 a o) F1 where
  same := fun b u h n => by
    have hb : b ≠ a := fun q => by
      subst q
      rcases hf with z | ⟨ps, z⟩
      · rw [z] at h; cases h
      · rw [z] at h; exact n ps (Option.some.inj h).symm
    rw [upd_ne hb]
    exact e.same b u h n
  tabs := fun t => ht (e.tabs t)
  fsame := e.fsame
  sub := fun b u h => by
    rw [upd_ne (ne_of_none h hn)]
    exact e.sub b u h
  nt := e.nt
  new := e.new
theorem Ext.alone (e : Ext T H F H1 F1) (h : H a = some (.lst xs)) (hn : F a = none) : H1 a = some (.lst xs) ∧ F1 a = none := by
  refine ⟨e.same _ _ h (fun ps z => by cases z), ?_⟩
  cases q : F1 a with
  | none => rfl
  | some u =>
    rcases e.new a u q with z | z
    · rw [hn] at z; cases z
    · exact (z.lst h).elim
end
/-- no slot holds it alone -/
def NoOwn (env : En) (σ : L2.St) (a : Addr) : Prop := ∀ (i : Nat) (s : SV), env[i]? = some (some s) → s.isOwn = true → σ[i]? ≠ some (some (.ref a))
/-- no house, and nothing that is locked -/
def Soft (o : Option HO) : Prop := (∀ C dx fs, o ≠ some (.ins C dx fs)) ∧ ∀ b u, o ≠ some (.frz b u)
theorem soft_lst {H : Hp} {a : Addr} {xs : List V} (h : H a = some (.lst xs)) : Soft (H a) := by rw [h]; exact ⟨(fun _ _ _ z => nomatch z), fun _ _ z => nomatch z⟩
theorem soft_dK {H : Hp} {a : Addr} {xs : List (Key × V)} (h : H a = some (.dK xs)) : Soft (H a) := by rw [h]; exact ⟨(fun _ _ _ z => nomatch z), fun _ _ z => nomatch z⟩
theorem slot_keep {B : Bd} {H F : Hp} {a : Addr} {o : HO} {v : V} {s : SV} (h : SlotR B H F v s) (hne : s.isOwn = true → v ≠ .ref a) (sf : Soft (H a)) : SlotR B (upd H a o) F v s := by
  cases s with
  | fro d => exact h
  | bh st => exact h
  | ob st =>
    obtain ⟨p, dx, v1, v2, c, b, xs, ys, rfl, h1, ⟨⟨oa, h2⟩, ob, h3⟩, h4⟩ := h
    have np : p ≠ a := fun e => sf.1 _ _ _ (by rw [← e]; exact h1.hp)
    have nc : c ≠ a := fun e => sf.2 _ _ (by rw [← e]; exact h2)
    have nb : b ≠ a := fun e => sf.2 _ _ (by rw [← e]; exact h3)
    have k2 : upd H a o c = some (.frz oa (.lst xs)) := by rw [upd_ne nc]; exact h2
    have k3 : upd H a o b = some (.frz ob (.lst ys)) := by rw [upd_ne nb]; exact h3
    exact ⟨p, dx, v1, v2, c, b, xs, ys, rfl, ⟨by rw [upd_ne np]; exact h1.hp, .inr ⟨_, k2⟩, .inr ⟨_, k3⟩, h1.ab, h1.fp, h1.fa, h1.fb, h1.r1, h1.r2, h1.r3, h1.r4, h1.l3, h1.l4⟩, ⟨⟨oa, k2⟩, ob, k3⟩, h4⟩
  | ol l =>
    obtain ⟨b, vs, rfl, h1, h2, h3, h4, h5⟩ := h
    have hb : b ≠ a := fun e => hne rfl (by rw [e])
    exact ⟨b, vs, rfl, by rw [upd_ne hb]; exact h1, h2, h3, h4, h5⟩
  | od l =>
    obtain ⟨b, vs, rfl, h1, h2, h3, h4, h5⟩ := h
    have hb : b ≠ a := fun e => hne rfl (by rw [e])
    exact ⟨b, vs, rfl, by rw [upd_ne hb]; exact h1, h2, h3, h4, h5⟩
  | oq l =>
    obtain ⟨b, vs, rfl, h1, h2, h3, h4, h5⟩ := h
    have hb : b ≠ a := fun e => hne rfl (by rw [e])
    exact ⟨b, vs, rfl, by rw [upd_ne hb]; exact h1, h2, h3, h4, h5⟩
theorem Rel.mut {B : Bd} {env : En} {σ : L2.St} {H F : Hp} (r : Rel B env σ H F) {a : Addr} {o : HO} (hf : Free B.H0 a) (ht : LamX.Tabs B.T H → LamX.Tabs B.T (upd H a o)) (hn : F a = none) (no : NoOwn env σ a) (sf : Soft (H a)) : Rel B env σ (upd H a o) F where
  ext := r.ext.mut hf ht hn
  tab := ht r.tab
  len := r.len
  slot := fun i s h => by
    obtain ⟨v, h1, h2⟩ := r.slot i s h
    exact ⟨v, h1, slot_keep h2 (fun ow e => no i s h ow (by rw [h1, e])) sf⟩
  dist := r.dist
theorem noOwn_new {B : Bd} {env : En} {σ : L2.St} {H F : Hp} (r : Rel B env σ H F) {a : Addr} (h : H a = none) : NoOwn env σ a := fun i s hs ow e => by
  obtain ⟨v, h1, h2⟩ := r.slot i s hs
  rw [h1] at e
  have ev : v = .ref a := Option.some.inj (Option.some.inj e)
  subst ev
  cases s with
  | fro d => cases ow
  | ol l =>
    obtain ⟨b, vs, eb, q, _⟩ := h2
    cases eb; rw [h] at q; cases q
  | od l =>
    obtain ⟨b, vs, eb, q, _⟩ := h2
    cases eb; rw [h] at q; cases q
  | oq l =>
    obtain ⟨b, vs, eb, q, _⟩ := h2
    cases eb; rw [h] at q; cases q
  | bh st => cases ow
  | ob st =>
    obtain ⟨p, _, _, _, _, _, _, _, eb, q, _⟩ := h2
    cases eb
    have := q.hp
    rw [h] at this; cases this
def wipeE (env : En) : List Nat → En
  | [] => env
  | v :: vs => (wipeE env vs).set v none
def noX {α : Type} : R α → R α
  | .exc _ => .bad
  | r => r
def lcGo (env : En) (g : D → En → R En) (p : En → R Bool) (e : En → R D) : List D → R (List D)
  | [] => .ok []
  | d :: ds => (noX (g d env)).bind fun env1 => (noX (p env1)).bind fun b => if b = true then (noX (e env1)).bind fun y => (lcGo env g p e ds).map (y :: ·) else lcGo env g p e ds
def lcS (fi : En → R (List D)) (vs : List Nat) (g : D → En → R En) (p : En → R Bool) (e : En → R D) : En → R (List D) := fun env => (fi env).bind fun ds => if ds.length ≤ LIM then lcGo (wipeE env vs) g p e ds else .bad
def qYes : En → R Bool := fun _ => .ok true
abbrev Bd.quiet (B : Bd) : Bd := { B with wx := fun _ _ => False }
theorem Rel.hush {B : Bd} {env : En} {σ : L2.St} {H F : Hp} (r : Rel B env σ H F) : Rel B.quiet env σ H F := ⟨r.ext, r.tab, r.len, r.slot, r.dist⟩
theorem rel_drop {B : Bd} {env : En} {σ : L2.St} {H F : Hp} (r : Rel B env σ H F) (v : Nat) : Rel B (env.set v none) (σ.set v none) H F where
  ext := r.ext
  tab := r.tab
  len := by rw [List.length_set, List.length_set, r.len]
  slot := fun j s h => by
    by_cases e : v = j
    · subst e
      by_cases hl : v < env.length
      · rw [List.getElem?_set_self hl] at h; cases h
      · rw [List.getElem?_eq_none (by rw [List.length_set]; omega)] at h; cases h
    · rw [List.getElem?_set_ne e] at h ⊢
      exact r.slot j s h
  dist := fun i j s s' hne h1 h2 o1 o2 => by
    have key : ∀ (l : Nat) (t : SV), (env.set v none)[l]? = some (some t) → v ≠ l := fun l t h e => by
      subst e
      by_cases hl : v < env.length
      · rw [List.getElem?_set_self hl] at h; cases h
      · rw [List.getElem?_eq_none (by rw [List.length_set]; omega)] at h; cases h
    have n1 := key i s h1
    have n2 := key j s' h2
    rw [List.getElem?_set_ne n1] at h1 ⊢
    rw [List.getElem?_set_ne n2] at h2 ⊢
    exact r.dist i j s s' hne h1 h2 o1 o2
theorem Rel.wipe {B : Bd} {env : En} {σ : L2.St} {H F : Hp} (r : Rel B env σ H F) : ∀ vs : List Nat, Rel B (wipeE env vs) (L2.wipe σ vs) H F
  | [] => r
  | v :: vs => rel_drop (r.wipe vs) v
theorem wipe_get {σ : L2.St} {j : Nat} : ∀ {vs : List Nat}, j ∈ vs → j < σ.length → (L2.wipe σ vs)[j]? = some none
  | v :: vs, h, hl => by
    unfold L2.wipe
    by_cases e : v = j
    · subst e
      exact List.getElem?_set_self (by rw [wipe_length]; exact hl)
    · rw [List.getElem?_set_ne e]
      rcases List.mem_cons.mp h with z | z
      · exact (e z.symm).elim
      · exact wipe_get z hl
theorem wipe_keeps {σ σ2 : L2.St} {vs : List Nat} (h : Keeps vs (L2.wipe σ vs) σ2) : L2.wipe σ2 vs = L2.wipe σ vs := by
  have hl : σ2.length = σ.length := by rw [h.1, wipe_length]
  refine List.ext_getElem? fun j => ?_
  by_cases hj : j ∈ vs
  · by_cases hlt : j < σ.length
    · rw [wipe_get hj (by rw [hl]; exact hlt), wipe_get hj hlt]
    · rw [List.getElem?_eq_none (by rw [wipe_length]; omega), List.getElem?_eq_none (by rw [wipe_length]; omega)]
  · rw [wipe_out hj, h.2 j hj]
section
variable {G : Gx} {B : Bd} {k : Nat} {X : Cx}
theorem OkX.blk (O : OkX G B k X) (s : Shared) (H : Hp) (scope : Scope) (ce : Env) (fp : List Addr) : OkX G B.quiet k (X.blk s H scope ce fp) where
  K := O.K
  prog := O.prog
  w := O.w
  GK := O.GK
  mg := O.mg
  base := O.base
  T := O.T
  calm := O.calm
  nd := O.nd
  room := O.room
  hd := O.hd
  Bw := O.Bw
  pass := fun _ _ _ _ _ _ _ h => by
    obtain ⟨_, _, _, _, _, _, _, _, _, _, _, _, z⟩ := h
    obtain ⟨_, _, _, z⟩ := z
    exact z
theorem lcGo_len {env : En} {g : D → En → R En} {p : En → R Bool} {e : En → R D} : ∀ {ds l : List D}, lcGo env g p e ds = .ok l → l.length ≤ ds.length
  | [], l, h => by cases h; exact Nat.le_refl _
  | d :: ds, l, h => by
    simp only [lcGo] at h
    cases h1 : noX (g d env) with
    | ok env1 =>
      rw [h1] at h
      simp only [R.bind] at h
      cases h2 : noX (p env1) with
      | ok b =>
        rw [h2] at h
        simp only [R.bind] at h
        cases b with
        | true =>
          simp only [if_true] at h
          cases h3 : noX (e env1) with
          | ok y =>
            rw [h3] at h
            simp only [R.bind] at h
            cases h4 : lcGo env g p e ds with
            | ok l' =>
              rw [h4] at h
              have : y :: l' = l := by
                have := h
                simp only [R.map] at this
                injection this
              subst this
              have := lcGo_len h4
              simp only [List.length_cons]; omega
            | exc c => rw [h4] at h; cases h
            | bad => rw [h4] at h; cases h
          | exc c => rw [h3] at h; cases h
          | bad => rw [h3] at h; cases h
        | false =>
          simp only [Bool.false_eq_true, if_false] at h
          have := lcGo_len h
          simp only [List.length_cons]; omega
      | exc c => rw [h2] at h; cases h
      | bad => rw [h2] at h; cases h
    | exc c => rw [h1] at h; cases h
    | bad => rw [h1] at h; cases h
theorem noX_exc {α : Type} {r : R α} {c : String} (h : noX r = .exc c) : False := by cases r <;> cases h
theorem lcGo_noexc {env : En} {g : D → En → R En} {p : En → R Bool} {e : En → R D} : ∀ {ds : List D} {c : String}, lcGo env g p e ds = .exc c → False
  | [], _, h => by cases h
  | d :: ds, c, h => by
    simp only [lcGo] at h
    cases h1 : noX (g d env) with
    | exc c => exact noX_exc h1
    | bad => rw [h1] at h; cases h
    | ok env1 =>
      rw [h1] at h
      simp only [R.bind] at h
      cases h2 : noX (p env1) with
      | exc c => exact noX_exc h2
      | bad => rw [h2] at h; cases h
      | ok b =>
        rw [h2] at h
        simp only [R.bind] at h
        cases b with
        | false =>
          simp only [Bool.false_eq_true, if_false] at h
          exact lcGo_noexc h
        | true =>
          simp only [if_true] at h
          cases h3 : noX (e env1) with
          | exc c => exact noX_exc h3
          | bad => rw [h3] at h; cases h
          | ok y =>
            rw [h3] at h
            simp only [R.bind] at h
            cases h4 : lcGo env g p e ds with
            | ok l => rw [h4] at h; cases h
            | bad => rw [h4] at h; cases h
            | exc c => exact lcGo_noexc h4
/-- the reading of a comprehension -/
theorem tLc_of {fi : En → R (List D)} {vs js : List Nat} {g : D → En → R En} {p : En → R Bool} {e : En → R D} (hj : ∀ j ∈ js, j ∈ vs) {σ : L2.St} {H : Hp} {Q : VK} (h : tF B (lcS fi vs g p e) σ H Q) :
    tLc (tI B fi) (tG B.quiet js g) (tQ B.quiet p) (tE B.quiet e) vs σ H Q := by
  obtain ⟨env, F, rel, q⟩ := h
  refine ⟨env, F, rel, ?_⟩
  unfold lcS at q
  cases hf : fi env with
  | exc c => rw [hf] at q; exact q
  | bad => rw [hf] at q; exact q
  | ok ds =>
    rw [hf] at q
    simp only [R.bind] at q
    by_cases hz : ds.length ≤ LIM
    · rw [if_pos hz] at q
      intro J H1 F1 e1 ⟨GG, Y, wk, hG, hY⟩ L hL
      have rel1 := rel.mono e1
      have hFL : F1 L = none := by
        cases z : F1 L with
        | none => rfl
        | some o => rw [rel1.ext.sub _ _ z] at hL; cases hL
      have w1 := rel1.wipe vs
      have noL : NoOwn (wipeE env vs) (L2.wipe σ vs) L := noOwn_new w1 hL
      have fL : Free B.H0 L := Free.back rel1.ext.same (.inl hL)
      cases hgo : lcGo (wipeE env vs) g p e ds with
      | exc c => exact (lcGo_noexc hgo).elim
      | bad => rw [hgo] at q; exact q.elim
      | ok l =>
        rw [hgo] at q
        refine lc_it wk (fun i H' => ∃ F' acc ad tl, Ext B.T H1 F1 H' F' ∧ Rel B (wipeE env vs) (L2.wipe σ vs) H' F' ∧ H' L = some (.lst acc) ∧ F' L = none ∧ RepL B.K F' acc ad ∧ acc.length ≤ i ∧ lcGo (wipeE env vs) g p e (ds.drop i) = .ok tl ∧ ad ++ tl = l) ?_ ?_ ?_ ?_
        · have E0 : Ext B.T H1 F1 (upd H1 L (.lst [])) F1 := .own rel1.ext.sub rel1.ext.nt hL
          exact ⟨F1, [], [], l, E0, w1.mono E0, upd_same, hFL, .nil, Nat.zero_le _, by rw [List.drop_zero]; exact hgo, rfl⟩
        · rintro i H' hi ⟨F', acc, ad, tl, E, R1, _⟩
          exact hG H' (E.fsame.trans E.sub)
        · rintro i x H' H'' hin ⟨F', acc, ad, tl, E, R1, h3, h4, h5, h6, h7, h8⟩ y
          obtain ⟨F'', d, E2, hd, rd⟩ := hY i H' F' x H'' hin E.fsame E.sub E.nt y
          have hdr : ds.drop i = d :: ds.drop (i + 1) := by
            obtain ⟨h, e⟩ := List.getElem?_eq_some_iff.mp hd
            rw [← e]
            exact List.drop_eq_getElem_cons h
          rw [hdr] at h7
          simp only [lcGo] at h7
          have R2 := R1.mono E2
          obtain ⟨a1, a2⟩ := E2.alone h3 h4
          cases g1 : g d (wipeE env vs) with
          | exc c => rw [g1] at h7; cases h7
          | bad => rw [g1] at h7; cases h7
          | ok env1 =>
            rw [g1] at h7
            refine ⟨wipeE env vs, F'', d, R2.hush, rd, ?_⟩
            rw [g1]
            intro σ2 R3 kp
            have kp' : Keeps vs (L2.wipe σ vs) σ2 := ⟨kp.1, fun j hj' => kp.2 j fun z => hj' (hj j z)⟩
            refine ⟨wipe_keeps kp', env1, F'', R3, ?_⟩
            simp only [noX, R.bind] at h7
            cases g2 : p env1 with
            | exc c => rw [g2] at h7; cases h7
            | bad => rw [g2] at h7; cases h7
            | ok b =>
              rw [g2] at h7
              intro H3 F3 E3
              have R4 := R3.mono E3
              obtain ⟨b1, b2⟩ := Ext.alone E3 a1 a2
              simp only [noX, R.bind] at h7
              cases b with
              | false =>
                simp only [Bool.false_eq_true, if_false] at h7 ⊢
                exact ⟨F3, acc, ad, tl, (E.trans E2).trans E3, (R2.mono E3), b1, b2, h5.mono (E2.fsame.trans E3.fsame), Nat.le_succ_of_le h6, h7, h8⟩
              | true =>
                simp only [if_true] at h7 ⊢
                refine ⟨env1, F3, R4, ?_⟩
                cases g3 : e env1 with
                | exc c => rw [g3] at h7; cases h7
                | bad => rw [g3] at h7; cases h7
                | ok y1 =>
                  rw [g3] at h7
                  intro v4 H4 F4 E4 rv
                  obtain ⟨c1, c2⟩ := Ext.alone E4 b1 b2
                  simp only [noX, R.bind] at h7
                  cases g4 : lcGo (wipeE env vs) g p e (ds.drop (i + 1)) with
                  | exc c => rw [g4] at h7; cases h7
                  | bad => rw [g4] at h7; cases h7
                  | ok tl' =>
                    rw [g4] at h7
                    have htl : y1 :: tl' = tl := by simp only [R.map] at h7; injection h7
                    have E5 : Ext B.T H1 F1 H4 F4 := ((E.trans E2).trans E3).trans E4
                    have hm := fun (t : LamX.Tabs B.T H4) => tabs_mut (o := .lst (acc ++ [v4])) c1 t
                    refine ⟨acc, c1, ?_, F4, acc ++ [v4], ad ++ [y1], tl', E5.mut (.inl hL) hm c2, ((R2.mono E3).mono E4).mut fL hm c2 noL (soft_lst c1), upd_same, c2, ?_, ?_, rfl, ?_⟩
                    · have : ds.length ≤ sizeLine := by rw [← LIM_eq]; exact hz
                      omega
                    · exact (h5.mono ((E2.fsame.trans E3.fsame).trans E4.fsame)).append (.cons rv .nil)
                    · rw [List.length_append, List.length_singleton]; omega
                    · rw [List.append_assoc, List.singleton_append, htl]; exact h8
        · rintro H' ⟨F', acc, ad, tl, E, R1, h3, h4, h5, h6, h7, h8⟩
          rw [List.drop_length] at h7
          cases h7
          rw [List.append_nil] at h8
          subst h8
          exact q L acc H' F' (e1.trans E) (Free.back e1.same (.inl hL)) h3 h4 h5 (Nat.le_trans (lcGo_len hgo) (by rw [← LIM_eq]; exact hz))
    · rw [if_neg hz] at q; exact q.elim
/-- [elt for target in iter if test]: a new list -/
theorem f_lc [Calm G] {elt tg iter : Expr} {ifs : List Expr} {scope : Scope} {own : List (Str × Nat)} {pos : Pos} {fi : En → R (List D)} {js : List Nat} {g : D → En → R En} {p : En → R Bool} {e : En → R D} (O : OkX G B k X) (hi : PI X tg iter (tI B fi)) (ok : BlkOk X.N X.env.scope scope own)
    (hg : ∀ (s : Shared) (H : Hp) (C : Addr) (cl : List (Str × Addr)) (fp : List Addr), PG (X.blk s H scope (compEnvC scope cl C X.env) fp) tg (tG B.quiet js g)) (ht : ∀ (s : Shared) (H : Hp) (C : Addr) (cl : List (Str × Addr)) (fp : List Addr), PTs (X.blk s H scope (compEnvC scope cl C X.env) fp) ifs (tQ B.quiet p))
    (he : ∀ (s : Shared) (H : Hp) (C : Addr) (cl : List (Str × Addr)) (fp : List Addr), PE (X.blk s H scope (compEnvC scope cl C X.env) fp) elt (tE B.quiet e)) (hj : ∀ j ∈ js, j ∈ own.map (·.2) := by decide) (hs : ∀ x, foldedSetIterable iter X.env x = pure x := by intro _; rfl) :
    PE X (.ListComp elt [⟨tg, iter, ifs, 0⟩] scope pos) (tF B (lcS fi (own.map (·.2)) g p e)) := PE.imp (pe_lc O.calmX O.nd hi ok hg ht he hs) fun σ H Q h => tLc_of hj h
theorem PTs.imp {X : Cx} {e : List Expr} {t t' : TT} (h : PTs X e t) (i : ∀ σ H Q, t' σ H Q → t σ H Q) : PTs X e t' := ⟨fun pins s σ H Q I q => h.run pins s σ H Q I (i σ H Q q)⟩
theorem ts_nil : PTs X [] (tQ B qYes) := PTs.imp pts_nil fun σ H Q ⟨env, F, r, q⟩ => q H F r.stay
theorem ts_one {c : Expr} {p : En → R Bool} (h : PT X c (tQ B p)) : PTs X [c] (tQ B p) := pts_one h
end
end Mk
set_option maxHeartbeats 2000000
namespace Mk
open PySem PySem.Spec PyProof.Rows L2
inductive Out where
  | nx (env : En)
  | rt (d : D)
  | bk (env : En)
  | ct (env : En)
def GoodS (B : Bd) (Z : Ends) (F0 : Hp) : R Out → Prop
  | .ok (.nx env) => ∀ σ H F, Rel B env σ H F → Same F0 F → Z.nx σ H
  | .ok (.bk env) => ∀ σ H F, Rel B env σ H F → Same F0 F → Z.bk σ H
  | .ok (.ct env) => ∀ σ H F, Rel B env σ H F → Same F0 F → Z.ct σ H
  | .ok (.rt d) => ∀ v H F, Ext B.T B.H0 B.F0 H F → LamX.Tabs B.T H → Rep B.K F v d → Z.rt v H
  | .exc c => ∀ H', ExtH B.T B.H0 H' → B.wx c H'
  | .bad => False
def tS (B : Bd) (f : En → R Out) : TS := fun Z σ H => ∃ env F, Rel B env σ H F ∧ GoodS B Z F (f env)
def sNx : En → R Out := fun env => .ok (.nx env)
def sSeq (f g : En → R Out) : En → R Out := fun env => (f env).bind fun o => match o with
  | .nx env' => g env'
  | o => .ok o
theorem GoodS.mono {B : Bd} {Z : Ends} {F F' : Hp} (s : Same F F') {r : R Out} (h : GoodS B Z F r) : GoodS B Z F' r := by
  cases r with
  | ok o =>
    cases o with
    | nx env => exact fun σ H F2 r2 s2 => h σ H F2 r2 (s.trans s2)
    | bk env => exact fun σ H F2 r2 s2 => h σ H F2 r2 (s.trans s2)
    | ct env => exact fun σ H F2 r2 s2 => h σ H F2 r2 (s.trans s2)
    | rt d => exact h
  | exc c => exact h
  | bad => exact h
theorem GoodS.bind {B : Bd} {Z : Ends} {F : Hp} {α : Type} {r : R α} {f : α → R Out} (h : GoodS B Z F (r.bind f)) : (∃ a, r = .ok a ∧ GoodS B Z F (f a)) ∨ (∃ c, r = .exc c ∧ ∀ H', ExtH B.T B.H0 H' → B.wx c H') := by
  cases r with
  | ok a => exact .inl ⟨a, rfl, h⟩
  | exc c => exact .inr ⟨c, rfl, h⟩
  | bad => exact h.elim
section
variable {G : Gx} {B : Bd} {k : Nat} {X : Cx} {st : Stmt} {rest : List Stmt} {f g : En → R Out} {e a b : Expr} {fe : En → R D} {p : En → R Bool} {pos : Pos}
theorem ss_nil : PSs X [] (tS B sNx) := PSs.imp pss_nil fun Z σ H ⟨env, F, r, q⟩ => q σ H F r (Same.refl F)
theorem ss_cons (h1 : PS X st (tS B f)) (h2 : PSs X rest (tS B g)) : PSs X (st :: rest) (tS B (sSeq f g)) := PSs.imp (pss_cons h1 h2) fun Z σ H ⟨env, F, r, q⟩ => ⟨env, F, r, by
  rcases q.bind with ⟨o, eo, q⟩ | ⟨c, eo, q⟩
  · rw [eo]
    cases o with
    | nx env' => exact fun σ' H' F' r' s' => ⟨env', F', r', q.mono s'⟩
    | bk env' => exact q
    | ct env' => exact q
    | rt d => exact q
  · rw [eo]; exact q⟩
theorem ss_one (h1 : PS X st (tS B f)) : PSs X [st] (tS B f) := pss_one h1
theorem ss_bad : PSs X rest (tS B (fun _ => .bad)) := PSs.imp pss_never fun Z σ H ⟨_, _, _, q⟩ => q.elim
def sDrop (f : En → R D) : En → R Out := fun env => (f env).bind fun _ => .ok (.nx env)
theorem s_expr (he : PE X e (tE B fe)) (hs : swapsWith e none pos.line X.env = pure false := by rfl) : PS X (.Expr e pos) (tS B (sDrop fe)) := PS.imp (ps_expr he hs) fun Z σ H ⟨env, F, r, q⟩ => ⟨env, F, r, by
  rcases q.bind with ⟨o, eo, q⟩ | ⟨c, eo, q⟩
  · rw [eo]; exact fun v H' F' x y => q σ H' F' (r.mono x) x.fsame
  · rw [eo]; exact q⟩
def sRet (f : En → R D) : En → R Out := fun env => (f env).bind fun d => .ok (.rt d)
theorem s_ret (he : PE X e (tE B fe)) : PS X (.Return (some e) pos) (tS B (sRet fe)) := PS.imp (ps_ret he) fun Z σ H ⟨env, F, r, q⟩ => ⟨env, F, r, by
  rcases q.bind with ⟨o, eo, q⟩ | ⟨c, eo, q⟩
  · rw [eo]; exact fun v H' F' x y => q v H' F' (r.ext.trans x) (x.tabs r.tab) y
  · rw [eo]; exact q⟩
def sRetN : En → R Out := fun env => .ok (.rt .non)
def sIf (p : En → R Bool) (f g : En → R Out) : En → R Out := fun env => (p env).bind fun b => if b = true then f env else g env
theorem s_if {sa sb : List Stmt} (hc : PT X e (tQ B p)) (ha : PSs X sa (tS B f)) (hb : PSs X sb (tS B g)) : PS X (.If e sa sb pos) (tS B (sIf p f g)) := PS.imp (ps_if hc ha hb) fun Z σ H ⟨env, F, r, q⟩ => ⟨env, F, r, by
  rcases q.bind with ⟨o, eo, q⟩ | ⟨c, eo, q⟩
  · rw [eo]
    intro H' F' x
    cases o with
    | true => exact ⟨env, F', r.mono x, q.mono x.fsame⟩
    | false => exact ⟨env, F', r.mono x, q.mono x.fsame⟩
  · rw [eo]; exact q⟩
def sSet (i : Nat) (f : En → R D) : En → R Out := fun env => (f env).bind fun d => if i < env.length then .ok (.nx (env.set i (some (.fro d)))) else .bad
def sOwn (i : Nat) (f : En → R (List D)) : En → R Out := fun env => (f env).bind fun l => if i < env.length then .ok (.nx (env.set i (some (.ol l)))) else .bad
theorem set_of {i : Nat} {σ : L2.St} {H : Hp} {Z : Ends} (h : tS B (sSet i fe) Z σ H) : tE B fe σ H fun x H1 => gName i x σ H1 Z.nx := by
  obtain ⟨env, F, r, q⟩ := h
  refine ⟨env, F, r, ?_⟩
  rcases q.bind with ⟨o, eo, q⟩ | ⟨c, eo, q⟩
  · rw [eo]
    intro v H' F' x y
    by_cases hl : i < env.length
    · rw [if_pos hl] at q
      exact q _ _ _ ((r.mono x).put y) x.fsame
    · rw [if_neg hl] at q; exact q.elim
  · rw [eo]; exact q
theorem s_set (i : Nat) {x : Str} {p' : Pos} (O : OkX G B k X) (he : PE X e (tE B fe)) (hi : X.N[i]? = some x := by rfl) (hx : Loc X.env.scope x := by first | exact .inl rfl | exact .inr rfl) (hs : swapsWith e (some (.Name x p')) pos.line X.env = pure false := by rfl) (hf : X.fn x = true ∨ X.env.scope.names.lookup x = some .local := by first | exact .inl rfl | exact .inr rfl) : PS X (.Assign [.Name x p'] e pos) (tS B (sSet i fe)) :=
  PS.imp (ps_set O.nd hi hx he hs hf) fun Z σ H h => set_of h
/-- a slot takes what nobody else holds -/
theorem Rel.putL {env : En} {σ : L2.St} {H F : Hp} (r : Rel B env σ H F) {i : Nat} {a : Addr} {vs : List V} {l : List D} (h1 : H a = some (.lst vs)) (h2 : Free B.H0 a) (h3 : F a = none) (h4 : RepL B.K F vs l) (h5 : l.length ≤ sizeLine) (no : NoOwn env σ a) : Rel B (env.set i (some (.ol l))) (σ.set i (some (.ref a))) H F where
  ext := r.ext
  tab := r.tab
  len := by rw [List.length_set, List.length_set, r.len]
  slot := fun j s h => by
    by_cases e : i = j
    · subst e
      by_cases hl : i < env.length
      · rw [List.getElem?_set_self hl] at h
        have hs : SV.ol l = s := Option.some.inj (Option.some.inj h)
        subst hs
        exact ⟨.ref a, List.getElem?_set_self (by rw [← r.len]; exact hl), a, vs, rfl, h1, h2, h3, h4, h5⟩
      · rw [List.getElem?_eq_none (by rw [List.length_set]; omega)] at h
        cases h
    · rw [List.getElem?_set_ne e] at h ⊢
      exact r.slot j s h
  dist := fun j m s s' hne q1 q2 o1 o2 => by
    have hlt : ∀ (j : Nat) (s : SV), (env.set i (some (.ol l)))[j]? = some (some s) → j < σ.length := fun j s h => by
      have := (List.getElem?_eq_some_iff.mp h).1
      rw [List.length_set, r.len] at this
      exact this
    have key : ∀ (j m : Nat) (s' : SV), i = j → j ≠ m → (env.set i (some (.ol l)))[j]? ≠ none → (env.set i (some (.ol l)))[m]? = some (some s') → s'.isOwn = true → (σ.set i (some (.ref a)))[j]? ≠ (σ.set i (some (.ref a)))[m]? := fun j m s' e hne q1 q2 o2 => by
      subst e
      have hi : i < σ.length := by
        cases hz : (env.set i (some (.ol l)))[i]? with
        | none => exact (q1 hz).elim
        | some t =>
          have := (List.getElem?_eq_some_iff.mp hz).1
          rw [List.length_set, r.len] at this
          exact this
      rw [List.getElem?_set_self hi, List.getElem?_set_ne hne]
      rw [List.getElem?_set_ne hne] at q2
      exact fun z => no m s' q2 o2 z.symm
    by_cases e1 : i = j
    · exact key j m s' e1 hne (by rw [q1]; exact fun z => by cases z) q2 o2
    · by_cases e2 : i = m
      · exact fun z => key m j s e2 (Ne.symm hne) (by rw [q2]; exact fun z => by cases z) q1 o1 z.symm
      · rw [List.getElem?_set_ne e1] at q1 ⊢
        rw [List.getElem?_set_ne e2] at q2 ⊢
        exact r.dist j m s s' hne q1 q2 o1 o2
theorem noOwn_free {env : En} {σ : L2.St} {H F H' F' : Hp} (r : Rel B env σ H F) {a : Addr} (h : Free H a) : NoOwn env σ a := fun i s hs ow e => by
  obtain ⟨v, h1, h2⟩ := r.slot i s hs
  rw [h1] at e
  have ev : v = .ref a := Option.some.inj (Option.some.inj e)
  subst ev
  cases s with
  | fro d => cases ow
  | ol l =>
    obtain ⟨b, vs, eb, q, _⟩ := h2
    cases eb; exact h.lst q
  | od l =>
    obtain ⟨b, vs, eb, q, _⟩ := h2
    cases eb; exact h.dK q
  | oq l =>
    obtain ⟨b, vs, eb, q, _⟩ := h2
    cases eb; exact h.kq q
  | bh st => cases ow
  | ob st =>
    obtain ⟨p, _, _, _, _, _, _, _, eb, q, _⟩ := h2
    cases eb
    exact h.some q.hp (fun ps z => by cases z)
theorem own_of {i : Nat} {fl : En → R (List D)} {σ : L2.St} {H : Hp} {Z : Ends} (h : tS B (sOwn i fl) Z σ H) : tF B fl σ H fun x H1 => gName i x σ H1 Z.nx := by
  obtain ⟨env, F, r, q⟩ := h
  refine ⟨env, F, r, ?_⟩
  rcases q.bind with ⟨o, eo, q⟩ | ⟨c, eo, q⟩
  · rw [eo]
    intro a vs H' F' x h1 h2 h3 h4 h5
    by_cases hl : i < env.length
    · rw [if_pos hl] at q
      exact q _ _ _ ((r.mono x).putL h2 (Free.back r.ext.same h1) h3 h4 h5 (noOwn_free (H' := H') (F' := F') r h1)) x.fsame
    · rw [if_neg hl] at q; exact q.elim
  · rw [eo]; exact q
theorem s_own (i : Nat) {x : Str} {p' : Pos} {fl : En → R (List D)} (O : OkX G B k X) (he : PE X e (tF B fl)) (hi : X.N[i]? = some x := by rfl) (hx : Loc X.env.scope x := by first | exact .inl rfl | exact .inr rfl) (hs : swapsWith e (some (.Name x p')) pos.line X.env = pure false := by rfl) (hf : X.fn x = true ∨ X.env.scope.names.lookup x = some .local := by first | exact .inl rfl | exact .inr rfl) : PS X (.Assign [.Name x p'] e pos) (tS B (sOwn i fl)) :=
  PS.imp (ps_set O.nd hi hx he hs hf) fun Z σ H h => own_of h
theorem tF_fz {fl : En → R (List D)} {σ : L2.St} {H : Hp} {Q : VK} (h : tE B (fzL fl) σ H Q) : tF B fl σ H Q := by
  obtain ⟨env, F, r, q⟩ := h
  refine ⟨env, F, r, ?_⟩
  unfold fzL at q
  cases hf : fl env with
  | ok l =>
    rw [hf] at q
    intro p vs H' F' e1 h1 h2 h3 h4 h5
    exact q _ H' _ (e1.fz h1 h2 h3 (fun ps z => by cases z)) (.lst upd_same (h4.mono (same_upd' h3)) h5)
  | exc c => rw [hf] at q; exact q
  | bad => rw [hf] at q; exact q
/-- name = [..] on one line: the comprehension stores by itself -/
theorem s_setLc [Calm G] (i : Nat) {y : Str} {py : Pos} {elt tg iter : Expr} {ifs : List Expr} {scope : Scope} {own : List (Str × Nat)} {lpos : Pos} {fi : En → R (List D)} {js : List Nat} {t : D → En → R En} {q : En → R Bool} {ee : En → R D} (O : OkX G B k X) (hi : PI X tg iter (tI B fi)) (ok : BlkOk X.N X.env.scope scope own)
    (hg : ∀ (s : Shared) (H : Hp) (C : Addr) (cl : List (Str × Addr)) (fp : List Addr), PG (X.blk s H scope (compEnvC scope cl C X.env) fp) tg (tG B.quiet js t)) (ht : ∀ (s : Shared) (H : Hp) (C : Addr) (cl : List (Str × Addr)) (fp : List Addr), PTs (X.blk s H scope (compEnvC scope cl C X.env) fp) ifs (tQ B.quiet q))
    (he : ∀ (s : Shared) (H : Hp) (C : Addr) (cl : List (Str × Addr)) (fp : List Addr), PE (X.blk s H scope (compEnvC scope cl C X.env) fp) elt (tE B.quiet ee)) (hsw : swapsWith (.ListComp elt [⟨tg, iter, ifs, 0⟩] scope lpos) (some (.Name y py)) pos.line X.env = pure true) (hy : X.N[i]? = some y := by rfl) (hyl : X.env.scope.names.lookup y = some .local := by rfl) (hj : ∀ j ∈ js, j ∈ own.map (·.2) := by decide) (hs : ∀ x, foldedSetIterable iter X.env x = pure x := by intro _; rfl) :
    PS X (.Assign [.Name y py] (.ListComp elt [⟨tg, iter, ifs, 0⟩] scope lpos) pos) (tS B (sSet i (fzL (lcS fi (own.map (·.2)) t q ee)))) :=
  PS.imp (ps_setLc O.calmX O.nd hy hyl hsw hi ok hg ht he hs) fun Z σ H h => tLc_of hj (tF_fz (set_of h))
theorem s_ownLc [Calm G] (i : Nat) {y : Str} {py : Pos} {elt tg iter : Expr} {ifs : List Expr} {scope : Scope} {own : List (Str × Nat)} {lpos : Pos} {fi : En → R (List D)} {js : List Nat} {t : D → En → R En} {q : En → R Bool} {ee : En → R D} (O : OkX G B k X) (hi : PI X tg iter (tI B fi)) (ok : BlkOk X.N X.env.scope scope own)
    (hg : ∀ (s : Shared) (H : Hp) (C : Addr) (cl : List (Str × Addr)) (fp : List Addr), PG (X.blk s H scope (compEnvC scope cl C X.env) fp) tg (tG B.quiet js t)) (ht : ∀ (s : Shared) (H : Hp) (C : Addr) (cl : List (Str × Addr)) (fp : List Addr), PTs (X.blk s H scope (compEnvC scope cl C X.env) fp) ifs (tQ B.quiet q))
    (he : ∀ (s : Shared) (H : Hp) (C : Addr) (cl : List (Str × Addr)) (fp : List Addr), PE (X.blk s H scope (compEnvC scope cl C X.env) fp) elt (tE B.quiet ee)) (hsw : swapsWith (.ListComp elt [⟨tg, iter, ifs, 0⟩] scope lpos) (some (.Name y py)) pos.line X.env = pure true) (hy : X.N[i]? = some y := by rfl) (hyl : X.env.scope.names.lookup y = some .local := by rfl) (hj : ∀ j ∈ js, j ∈ own.map (·.2) := by decide) (hs : ∀ x, foldedSetIterable iter X.env x = pure x := by intro _; rfl) :
    PS X (.Assign [.Name y py] (.ListComp elt [⟨tg, iter, ifs, 0⟩] scope lpos) pos) (tS B (sOwn i (lcS fi (own.map (·.2)) t q ee))) :=
  PS.imp (ps_setLc O.calmX O.nd hy hyl hsw hi ok hg ht he hs) fun Z σ H h => tLc_of hj (own_of h)
/-- (a, b, ..) = e -/
def sAsg (f : En → R D) (t : D → En → R En) : En → R Out := fun env => (f env).bind fun d => (t d env).bind fun env' => .ok (.nx env')
theorem s_asg {tg : Expr} {js : List Nat} {t : D → En → R En} (he : PE X e (tE B fe)) (hg : PG X tg (tG B js t)) (hs : swapsWithSole [tg] e pos.line X.env = pure false := by rfl) (hw : swappedStores [tg] e X.env = pure none := by rfl) (h1 : (assignEach [tg] X.env).map (·.2) = [assign tg X.env] := by rfl) : PS X (.Assign [tg] e pos) (tS B (sAsg fe t)) :=
  PS.imp (ps_asg he hg hs hw h1) fun Z σ H ⟨env, F, r, q⟩ => ⟨env, F, r, by
    rcases q.bind with ⟨o, eo, q⟩ | ⟨c, eo, q⟩
    · rw [eo]
      intro v H' F' x y
      refine ⟨env, F', o, r.mono x, y, ?_⟩
      rcases q.bind with ⟨e2, eo2, q⟩ | ⟨c, eo2, q⟩
      · rw [eo2]; exact fun σ' r' _ => q σ' H' F' r' x.fsame
      · rw [eo2]; exact q
    · rw [eo]; exact q⟩
/-- a, b = e1, e2 -/
def sPar (i j : Nat) (f : En → R (List D)) : En → R Out := fun env => (f env).bind fun l => match l with
  | [c, d] => if i < env.length ∧ j < env.length then .ok (.nx ((env.set i (some (.fro c))).set j (some (.fro d)))) else .bad
  | _ => .bad
theorem s_par [Calm G] (i j : Nat) {x y : Str} {px py pt : Pos} {kt k2 : Nat} {pt2 : Pos} {fl : En → R (List D)} (O : OkX G B k X) (ha : PA X [a, b] (tL B fl)) (hi : X.N[i]? = some x := by rfl) (hj : X.N[j]? = some y := by rfl) (hij : i ≠ j := by decide) (hx : X.env.scope.names.lookup x = some .local := by rfl) (hy : X.env.scope.names.lookup y = some .local := by rfl)
    (hw : swappedStores [.Tuple [.Name x px, .Name y py] kt pt] (.Tuple [a, b] k2 pt2) X.env = pure (some [x, y]) := by rfl) (hs : swapsWithSole [.Tuple [.Name x px, .Name y py] kt pt] (.Tuple [a, b] k2 pt2) pos.line X.env = pure false := by rfl) :
    PS X (.Assign [.Tuple [.Name x px, .Name y py] kt pt] (.Tuple [a, b] k2 pt2) pos) (tS B (sPar i j fl)) :=
  PS.imp (ps_par O.calmX O.nd hi hj hij hx hy ha hw hs) fun Z σ H ⟨env, F, r, q⟩ => ⟨env, F, r, by
    rcases q.bind with ⟨o, eo, q⟩ | ⟨c, eo, q⟩
    · rw [eo]
      intro vs H' F' x y
      match o, y with
      | [], _ => exact q.elim
      | [_], _ => exact q.elim
      | _ :: _ :: _ :: _, _ => exact q.elim
      | [c, d], .cons y1 (.cons y2 .nil) =>
        simp only at q
        split at q
        · exact ⟨_, _, rfl, q _ _ _ (((r.mono x).put y1).put y2) x.fsame⟩
        · exact q.elim
    · rw [eo]; exact q⟩
def lpGo (t : D → En → R En) (f : En → R Out) : List D → En → R Out
  | [], env => .ok (.nx env)
  | d :: ds, env => (t d env).bind fun e1 => (f e1).bind fun o => match o with
    | .nx e2 => lpGo t f ds e2
    | .ct e2 => lpGo t f ds e2
    | .bk e2 => .ok (.nx e2)
    | .rt d => .ok (.rt d)
def sFor (fi : En → R (List D)) (t : D → En → R En) (f : En → R Out) : En → R Out := fun env => (fi env).bind fun ds => lpGo t f ds env
theorem s_for [Calm G] {tg iter : Expr} {body : List Stmt} {fi : En → R (List D)} {js : List Nat} {t : D → En → R En} (O : OkX G B k X) (hp : PassesOwn (model X.prog X.w) X.A X.env X.xe) (hi : PI X tg iter (tI B fi)) (hg : PG X tg (tG B js t)) (hb : PSs X body (tS B f)) (hs : ∀ x, foldedSetIterable iter X.env x = pure x := by intro _; rfl) :
    PS X (.For tg iter body [] pos) (tS B (sFor fi t f)) := PS.imp (ps_for hp O.calmX hi hg hb hs) fun Z σ H ⟨env, F, r, q⟩ => ⟨env, F, r, by
  rcases q.bind with ⟨ds, eo, q⟩ | ⟨c, eo, q⟩
  · rw [eo]
    rintro J H1 F1 e1 ⟨GG, Y, wk, hG, hY⟩
    refine for_it wk (fun i σ' H' => ∃ env' F', Rel B env' σ' H' F' ∧ Same F1 F' ∧ GoodS B Z F' (lpGo t f (ds.drop i) env')) ?_ ?_ ?_ ?_
    · exact ⟨env, F1, r.mono e1, Same.refl F1, by rw [List.drop_zero]; exact q.mono e1.fsame⟩
    · rintro i σ' H' _ ⟨env', F', r', s', _⟩
      exact hG H' (s'.trans r'.ext.sub)
    · rintro i x σ' H' H'' hin ⟨env', F', r', s', q'⟩ y
      obtain ⟨F'', d, E2, hd, rd⟩ := hY i H' F' x H'' hin s' r'.ext.sub r'.ext.nt y
      have hdr : ds.drop i = d :: ds.drop (i + 1) := by
        obtain ⟨h, e⟩ := List.getElem?_eq_some_iff.mp hd
        rw [← e]
        exact List.drop_eq_getElem_cons h
      rw [hdr] at q'
      simp only [lpGo] at q'
      refine ⟨env', F'', d, r'.mono E2, rd, ?_⟩
      rcases q'.bind with ⟨e3, eo3, q3⟩ | ⟨c, eo3, q3⟩
      · rw [eo3]
        intro σ3 r3 _
        refine ⟨e3, F'', r3, ?_⟩
        have q3 := q3.mono E2.fsame
        rcases q3.bind with ⟨o, eo4, q4⟩ | ⟨c, eo4, q4⟩
        · rw [eo4]
          cases o with
          | nx e4 => exact fun σ4 H4 F4 r4 s4 => ⟨e4, F4, r4, (s'.trans E2.fsame).trans s4, q4.mono s4⟩
          | ct e4 => exact fun σ4 H4 F4 r4 s4 => ⟨e4, F4, r4, (s'.trans E2.fsame).trans s4, q4.mono s4⟩
          | bk e4 => exact q4
          | rt d4 => exact q4
        · rw [eo4]; exact q4
      · rw [eo3]; exact q3
    · rintro σ' H' ⟨env', F', r', _, q'⟩
      rw [List.drop_length] at q'
      exact q' σ' H' F' r' (Same.refl F')
  · rw [eo]; exact q⟩
/-- while: at most n turns are told -/
def whGo (p : En → R Bool) (f : En → R Out) : Nat → En → R Out
  | 0, _ => .bad
  | n + 1, env => (p env).bind fun b => if b = true then (f env).bind fun o => match o with
    | .nx e2 => whGo p f n e2
    | .ct e2 => whGo p f n e2
    | .bk e2 => .ok (.nx e2)
    | .rt d => .ok (.rt d)
    else .ok (.nx env)
theorem s_while (n : Nat) {body : List Stmt} (hp : PassesOwn (model X.prog X.w) X.A X.env X.xe) (hc : PT X e (tQ B p)) (hb : PSs X body (tS B f)) : PS X (.While e body [] pos) (tS B (whGo p f n)) := PS.imp (ps_while hp hc hb) fun Z σ H ⟨env, F, r, q⟩ => by
  refine ⟨fun m σ' H' => ∃ env' F', Rel B env' σ' H' F' ∧ GoodS B Z F' (whGo p f m env'), ⟨n, env, F, r, q⟩, ?_⟩
  rintro m σ' H' ⟨env', F', r', q'⟩
  cases m with
  | zero => exact q'.elim
  | succ m =>
    refine ⟨env', F', r', ?_⟩
    simp only [whGo] at q'
    rcases q'.bind with ⟨b, eo, q2⟩ | ⟨c, eo, q2⟩
    · rw [eo]
      intro H2 F2 E2
      have q3 := q2.mono E2.fsame
      cases b with
      | false => exact q3 σ' H2 F2 (r'.mono E2) (Same.refl F2)
      | true =>
        rw [if_pos rfl] at q3 ⊢
        refine ⟨fun σ3 H3 => ∃ env3 F3, Rel B env3 σ3 H3 F3 ∧ GoodS B Z F3 (whGo p f m env3), fun σ3 H3 h3 => ⟨m, Nat.lt_succ_self m, h3⟩, env', F2, r'.mono E2, ?_⟩
        rcases q3.bind with ⟨o, eo4, q4⟩ | ⟨c, eo4, q4⟩
        · rw [eo4]
          cases o with
          | nx e4 => exact fun σ4 H4 F4 r4 s4 => ⟨e4, F4, r4, q4.mono s4⟩
          | ct e4 => exact fun σ4 H4 F4 r4 s4 => ⟨e4, F4, r4, q4.mono s4⟩
          | bk e4 => exact q4
          | rt d4 => exact q4
        · rw [eo4]; exact q4
    · rw [eo]; exact q2
theorem own_at {env : En} {σ : L2.St} {H F : Hp} (r : Rel B env σ H F) {i : Nat} {l : List D} (h : env[i]? = some (some (.ol l))) : ∃ a vs, σ[i]? = some (some (.ref a)) ∧ H a = some (.lst vs) ∧ Free B.H0 a ∧ F a = none ∧ RepL B.K F vs l ∧ l.length ≤ sizeLine ∧ NoOwn (env.set i none) (σ.set i none) a := by
  obtain ⟨v, h1, a, vs, rfl, h2, h3, h4, h5, h6⟩ := r.slot i _ h
  refine ⟨a, vs, h1, h2, h3, h4, h5, h6, fun j s hs ow e => ?_⟩
  have hij : i ≠ j := fun z => by
    subst z
    have hl := (List.getElem?_eq_some_iff.mp h).1
    rw [List.getElem?_set_self hl] at hs
    cases hs
  rw [List.getElem?_set_ne hij] at hs e
  exact r.dist i j _ s hij h hs rfl ow (h1.trans e.symm)
/-- .. has become l' -/
theorem Rel.chg {env : En} {σ : L2.St} {H F : Hp} (r : Rel B env σ H F) {i : Nat} {l l' : List D} {a : Addr} {vs vs' : List V} (h : env[i]? = some (some (.ol l))) (hσ : σ[i]? = some (some (.ref a))) (h2 : H a = some (.lst vs)) (h3 : Free B.H0 a) (h4 : F a = none) (no : NoOwn (env.set i none) (σ.set i none) a) (h5 : RepL B.K F vs' l') (h6 : l'.length ≤ sizeLine) :
    Rel B (env.set i (some (.ol l'))) σ (upd H a (.lst vs')) F := by
  have r1 := (rel_drop r i).mut h3 (tabs_mut (o := .lst vs') h2) h4 no (soft_lst h2)
  have r2 := r1.putL (i := i) upd_same h3 h4 h5 h6 no
  have e1 : (env.set i none).set i (some (.ol l')) = env.set i (some (.ol l')) := List.set_set ..
  have e2 : (σ.set i none).set i (some (V.ref a)) = σ := by
    rw [List.set_set]
    refine List.ext_getElem? fun j => ?_
    by_cases e : i = j
    · subst e
      rw [List.getElem?_set_self (List.getElem?_eq_some_iff.mp hσ).1, hσ]
    · rw [List.getElem?_set_ne e]
  rw [e1, e2] at r2
  exact r2
def sApp (i : Nat) (f : En → R D) : En → R Out := fun env => match env[i]? with
  | some (some (.ol _)) => (f env).bind fun d => match env[i]? with
    | some (some (.ol l)) => if l.length < LIM then .ok (.nx (env.set i (some (.ol (l ++ [d]))))) else .bad
    | _ => .bad
  | _ => .bad
theorem s_append (i : Nat) {x : Str} {px apos cpos : Pos} (ha : PE X a (tE B fe)) (hN : X.N[i]? = some x := by rfl) (hv : Vis X.env.scope x := by first | exact Or.inl rfl | exact Or.inr (Or.inl rfl)) (hd : (x == ("__debug__" : Str)) = false := by decide) (hcd : (x == ("__classdict__" : Str)) = false := by decide) (hbase : attributeBase (.Name x px) "append" X.env (eval (.Name x px) X.env) = eval (.Name x px) X.env := by rfl)
    (hfew : ((backTo cpos (starEach [a] X.env)).all (fun x => !x.1) && (backToKw cpos (keywordEach [] X.env)).all (fun x => x.1.isSome) && decide ([a].length + ([] : List Keyword).length + (if ([] : List Keyword).isEmpty then 0 else 1) < 30)) = true := by rfl)
    (hline : (apos.endLine == cpos.line) = true := by rfl) (hs : starEach [a] X.env = (false, eval a X.env) :: starEach [] X.env := by rfl) (hsw : swapsWith (.Call (.Attribute (.Name x px) "append" apos) [a] [] cpos) none pos.line X.env = pure false := by rfl) :
    PS X (.Expr (.Call (.Attribute (.Name x px) "append" apos) [a] [] cpos) pos) (tS B (sApp i fe)) := by
  refine PS.imp (ps_expr (pe_bm PySem.F.plainAttrs_list PySem.F.slot_list_append PySem.F.type_list_append mt_append (pe_var hN hv hd hcd) (pa_cons ha pa_nil hs) hbase hfew hline hs rfl) hsw) fun Z σ H ⟨env, F, r, q⟩ => ?_
  unfold sApp at q
  cases hi : env[i]? with
  | none => rw [hi] at q; exact q.elim
  | some o =>
    cases o with
    | none => rw [hi] at q; exact q.elim
    | some sv =>
      cases sv with
      | fro d => rw [hi] at q; exact q.elim
      | od l => rw [hi] at q; exact q.elim
      | oq l => rw [hi] at q; exact q.elim
      | ob l => rw [hi] at q; exact q.elim
      | bh l => rw [hi] at q; exact q.elim
      | ol l =>
        rw [hi] at q
        simp only at q
        obtain ⟨p, vs, hσ, h2, h3, h4, h5, h6, no⟩ := own_at r hi
        refine ⟨.ref p, hσ, .inl ⟨rfl, _, SqL.of h2⟩, env, F, r, ?_⟩
        rcases q.bind with ⟨d, eo, q⟩ | ⟨c, eo, q⟩
        · rw [eo]
          intro y H1 F1 E1 ry
          have r1 := r.mono E1
          obtain ⟨p', vs', hσ', k2, k3, k4, k5, k6, no'⟩ := own_at r1 hi
          have ep : p' = p := by
            rw [hσ] at hσ'
            injection hσ' with z1
            injection z1 with z2
            injection z2 with z3
            exact z3.symm
          subst ep
          split at q
          · rename_i hz
            refine ⟨p', vs', y, rfl, rfl, k2, by rw [k5.length, ← LIM_eq]; exact hz, ?_⟩
            refine q _ _ _ (r1.chg hi hσ' k2 k3 k4 no' (k5.append (.cons ry .nil)) ?_) E1.fsame
            rw [List.length_append, List.length_singleton, ← LIM_eq]
            omega
          · exact q.elim
        · rw [eo]; exact q
/-- it may be held for good -/
def fzE (i : Nat) (env : En) : En := match env[i]? with
  | some (some (.ol l)) => env.set i (some (.fro (.lst l)))
  | _ => env
theorem Rel.fzE {env : En} {σ : L2.St} {H F : Hp} (r : Rel B env σ H F) (i : Nat) : ∃ F', Rel B (Mk.fzE i env) σ H F' ∧ Same F F' := by
  unfold Mk.fzE
  split
  · rename_i l hi
    obtain ⟨a, vs, hσ, h2, h3, h4, h5, h6, no⟩ := own_at r hi
    refine ⟨upd F a (.lst vs), ?_, same_upd' h4⟩
    have E : Ext B.T B.H0 B.F0 H (upd F a (.lst vs)) := r.ext.fz h3 h2 h4 (fun ps z => by cases z)
    have sm := same_upd' (o := .lst vs) h4
    have r1 : Rel B (env.set i none) (σ.set i none) H (upd F a (.lst vs)) := by
      have r0 := rel_drop r i
      refine ⟨E, r0.tab, r0.len, fun j s hs => ?_, r0.dist⟩
      obtain ⟨v, q1, q2⟩ := r0.slot j s hs
      refine ⟨v, q1, ?_⟩
      cases s with
      | fro d => exact Rep.mono sm q2
      | ol m =>
        obtain ⟨b, ws, rfl, w1, w2, w3, w4, w5⟩ := q2
        have hb : b ≠ a := fun z => no j _ hs rfl (by rw [q1, z])
        exact ⟨b, ws, rfl, w1, w2, by rw [upd_ne hb]; exact w3, w4.mono sm, w5⟩
      | od m =>
        obtain ⟨b, ws, rfl, w1, w2, w3, w4, w5⟩ := q2
        have hb : b ≠ a := fun z => no j _ hs rfl (by rw [q1, z])
        exact ⟨b, ws, rfl, w1, w2, by rw [upd_ne hb]; exact w3, w4.mono sm, w5⟩
      | oq m =>
        obtain ⟨b, ws, rfl, w1, w2, w3, w4, w5⟩ := q2
        have hb : b ≠ a := fun z => no j _ hs rfl (by rw [q1, z])
        exact ⟨b, ws, rfl, w1, w2, by rw [upd_ne hb]; exact w3, ⟨w4.1.mono sm, w4.2⟩, w5⟩
      | bh st => exact q2
      | ob st =>
        obtain ⟨p, dx, v1, v2, c, b, xs, ys, rfl, w1, ⟨⟨oa, w2⟩, ob, w3⟩, w4⟩ := q2
        have sf := soft_lst h2
        have np : p ≠ a := fun e => sf.1 _ _ _ (by rw [← e]; exact w1.hp)
        have nc : c ≠ a := fun e => sf.2 _ _ (by rw [← e]; exact w2)
        have nb : b ≠ a := fun e => sf.2 _ _ (by rw [← e]; exact w3)
        exact ⟨p, dx, v1, v2, c, b, xs, ys, rfl, ⟨w1.hp, w1.ha, w1.hb, w1.ab, by rw [upd_ne np]; exact w1.fp, by rw [upd_ne nc]; exact w1.fa, by rw [upd_ne nb]; exact w1.fb, w1.r1.mono sm, w1.r2.mono sm, w1.r3.mono sm, w1.r4.mono sm, w1.l3, w1.l4⟩, ⟨⟨oa, w2⟩, ob, w3⟩, w4⟩
    have r2 := r1.put (i := i) (v := .ref a) (d := .lst l) (.lst upd_same (h5.mono sm) h6)
    have e1 : (env.set i none).set i (some (.fro (.lst l))) = env.set i (some (.fro (.lst l))) := List.set_set ..
    have e2 : (σ.set i none).set i (some (V.ref a)) = σ := by
      rw [List.set_set]
      refine List.ext_getElem? fun j => ?_
      by_cases e : i = j
      · subst e
        rw [List.getElem?_set_self (List.getElem?_eq_some_iff.mp hσ).1, hσ]
      · rw [List.getElem?_set_ne e]
    rw [e1, e2] at r2
    exact r2
  · exact ⟨F, r, Same.refl F⟩
theorem ss_fz (i : Nat) (h : PSs X rest (tS B f)) : PSs X rest (tS B (fun env => f (Mk.fzE i env))) := PSs.imp h fun Z σ H ⟨env, F, r, q⟩ => by
  obtain ⟨F', r', s'⟩ := r.fzE i
  exact ⟨_, F', r', q.mono s'⟩
end
end Mk
set_option maxHeartbeats 2000000
namespace Mk
open PySem PySem.Spec PyProof.Rows L2
structure ClsF (G : Gx) (c : String) (C : Addr) : Prop where
  cm : G.cm c = .ref C
  gC : G.mg (Str.ofString c) = some (.ref C)
  kC : PySem.W.keepIn G.K (.ref C) = true
  xC : PySem.W.excIn G.K C [.type "ValueError", .type "Exception", .type "BaseException", .type "object"] "ValueError.__new__" = true
  bC : PySem.W.subIn G.K (.ref C) (.type "BaseException") = some true
  tC : PySem.W.typeIn G.K (.ref C) = some (.type "type")
def sExc (c : String) : En → R Out := fun _ => .exc c
section
variable {G : Gx} {B : Bd} {k : Nat} {X : Cx} {st : Stmt} {rest : List Stmt} {f g : En → R Out} {e a b : Expr} {fe fk : En → R D} {pos : Pos}
theorem s_raise [Calm G] {c : String} {C : Addr} {m : Str} {j : Nat} {p p2 p3 : Pos} (O : OkX G B k X) (tk : L2N.Takes X (fun cls d _ H => EB G B cls d H)) (cf : ClsF G c C) (hg : Gl X (Str.ofString c) := by rfl) (hdb : (Str.ofString c == ("__debug__" : Str)) = false := by decide) :
    PS X (.Raise (some (.Call (.Name (Str.ofString c) p) [.Constant (.str m) j p2] [] p3)) none pos) (tS B (sExc c)) := by
  refine PS.imp (L2N.ps_raise O.calmX tk (L2N.pmk_own PySem.F.excBase_ValueError (by rw [O.GK]; exact cf.xC) (by rw [O.mg]; exact cf.gC) (by rw [O.GK]; exact cf.kC) (raises_own (by rw [O.GK]; exact cf.bC) (by rw [O.GK]; exact cf.tC)) hg hdb)) fun Z σ H ⟨env, F, r, q⟩ => ?_
  exact ⟨c, cf.cm.symm, rfl, q H r.ext.h⟩
def sPut (i : Nat) (fk fe : En → R D) : En → R Out := fun env => (fe env).bind fun d => match env[i]? with
  | some (some (.ol l)) => (fk env).bind fun kk => match kk with
    | .int n => match ixN l.length n with
      | some j => .ok (.nx (env.set i (some (.ol (l.set j d)))))
      | none => .bad
    | _ => .bad
  | _ => .bad
theorem s_put (i : Nat) {x : Str} {px tpos : Pos} (he : PE X e (tE B fe)) (hk : PE X b (tO B fk)) (hN : X.N[i]? = some x := by rfl) (hv : Vis X.env.scope x := by first | exact Or.inl rfl | exact Or.inr (Or.inl rfl)) (hd : (x == ("__debug__" : Str)) = false := by decide) (hcd : (x == ("__classdict__" : Str)) = false := by decide)
    (ha : ∀ v, assign (.Subscript (.Name x px) b tpos) X.env v = (do let ov ← holding [v] (eval (.Name x px) X.env); let iv ← holding [v, ov] (eval b X.env); standAt tpos; holding [v, ov, iv] (setItem ov iv v); release [v, ov, iv] []) := by intro _; rfl)
    (hs : swapsWithSole [.Subscript (.Name x px) b tpos] e pos.line X.env = pure false := by rfl) (hw : swappedStores [.Subscript (.Name x px) b tpos] e X.env = pure none := by rfl) (h1 : (assignEach [.Subscript (.Name x px) b tpos] X.env).map (·.2) = [assign (.Subscript (.Name x px) b tpos) X.env] := by rfl) :
    PS X (.Assign [.Subscript (.Name x px) b tpos] e pos) (tS B (sPut i fk fe)) := by
  refine PS.imp (ps_asg he (pg_sub (pe_var hN hv hd hcd) hk set_list ha) hs hw h1) fun Z σ H ⟨env, F, r, q⟩ => ⟨env, F, r, ?_⟩
  rcases q.bind with ⟨d, eo, q⟩ | ⟨c, eo, q⟩
  · rw [eo]
    intro v H1 F1 E1 rv
    have r1 := r.mono E1
    have q := q.mono E1.fsame
    cases hi : env[i]? with
    | none => rw [hi] at q; exact q.elim
    | some o =>
      cases o with
      | none => rw [hi] at q; exact q.elim
      | some sv =>
        cases sv with
        | fro d => rw [hi] at q; exact q.elim
        | od l => rw [hi] at q; exact q.elim
        | oq l => rw [hi] at q; exact q.elim
        | ob l => rw [hi] at q; exact q.elim
        | bh l => rw [hi] at q; exact q.elim
        | ol l =>
          rw [hi] at q
          simp only at q
          obtain ⟨p, vs, hσ, _⟩ := own_at r1 hi
          refine ⟨.ref p, hσ, env, F1, r1, ?_⟩
          rcases q.bind with ⟨kk, ek, q⟩ | ⟨c, ek, q⟩
          · rw [ek]
            intro y H2 F2 E2 ry
            have r2 := r1.mono E2
            have q := q.mono E2.fsame
            obtain ⟨p', vs', hσ', k2, k3, k4, k5, k6, no'⟩ := own_at r2 hi
            have ep : p' = p := by
              rw [hσ] at hσ'
              injection hσ' with z1
              injection z1 with z2
              injection z2 with z3
              exact z3.symm
            subst ep
            cases kk with
            | int n =>
              simp only at q
              cases hj : ixN l.length n with
              | none => rw [hj] at q; exact q.elim
              | some j =>
                rw [hj] at q
                refine ⟨p', vs', n, j, rfl, ry.int, k2, by rw [k5.length]; exact hj, ?_⟩
                exact q _ _ _ (r2.chg hi hσ' k2 k3 k4 no' (k5.set j (rv.mono E2.fsame)) (by rw [List.length_set]; exact k6)) (Same.refl _)
            | _ => exact q.elim
          · rw [ek]; exact q
  · rw [eo]; exact q
def startE (n : Nat) (ds : List D) : En := ds.map (fun d => some (.fro d)) ++ List.replicate (n - ds.length) none
def outD : Out → R D
  | .nx _ => .ok .non
  | .rt d => .ok d
  | _ => .bad
def fnS (n m : Nat) (f : En → R Out) : List D → R D := fun ds => if ds.length = m then (f (startE n ds)).bind outD else .bad
theorem rel_start {N : List Str} {vs : List V} {ds : List D} {H F : Hp} (hB : B.H0 = H) (hF : B.F0 = F) (r : RepL B.K F vs ds) (sub : Same F H) (nt : ∀ b ps, F b ≠ some (.tbl ps)) (tab : LamX.Tabs B.T H) : Rel B (startE N.length ds) (L2.start N vs) H F := by
  have own : ∀ (i : Nat) (s : SV), (startE N.length ds)[i]? = some (some s) → ∃ d, s = .fro d ∧ ds[i]? = some d := fun i s h => by
    unfold startE at h
    by_cases hi : i < ds.length
    · rw [List.getElem?_append_left (by rw [List.length_map]; exact hi), List.getElem?_map] at h
      cases e : ds[i]? with
      | none => rw [e] at h; cases h
      | some d =>
        rw [e] at h
        have hs : SV.fro d = s := by
          have := Option.some.inj h
          exact Option.some.inj this
        exact ⟨d, hs.symm, rfl⟩
    · rw [List.getElem?_append_right (by rw [List.length_map]; omega), List.getElem?_replicate] at h
      split at h
      · cases h
      · cases h
  refine ⟨by rw [hB, hF]; exact .stay sub nt, tab, ?_, fun i s h => ?_, fun i j s s' _ h1 _ o1 _ => ?_⟩
  · unfold startE L2.start
    rw [List.length_append, List.length_append, List.length_map, List.length_map, List.length_replicate, List.length_replicate, r.length]
  · obtain ⟨d, rfl, hd⟩ := own i s h
    obtain ⟨v, hv, rv⟩ := r.getD hd
    refine ⟨v, ?_, rv⟩
    unfold L2.start
    rw [List.getElem?_append_left (by rw [List.length_map]; exact (List.getElem?_eq_some_iff.mp hv).1), List.getElem?_map, hv]
    rfl
  · obtain ⟨d, rfl, _⟩ := own i s h1
    cases o1
theorem fn_defP {x : Str} {a : Addr} {fd : FuncData} {N ps : List Str} (F : Fun G.K x x st a fd) (S : FnScope N ps (defScope st)) (hm : G.mg x = some (.ref a)) (hb : Binds G.K fd ps [])
    (body : ∀ (cdv : Value), fd.code = cdv → ∀ (A : Around) (outer : List Env) (s : Shared) (H : Hp) (E : XK) (B : Bd), OkX G B k (cxOf (L2N.CX G.P G.w) G.P G.w G.K G.mg G.base N x (defScope st) a cdv A outer s H E) →
      L2N.Takes (cxOf (L2N.CX G.P G.w) G.P G.w G.K G.mg G.base N x (defScope st) a cdv A outer s H E) (fun cls d _ H => EB G B cls d H) →
      PSs (cxOf (L2N.CX G.P G.w) G.P G.w G.K G.mg G.base N x (defScope st) a cdv A outer s H E) (defBody st) (tS B f)) : FnSp G (k + 1) x ps (fnS N.length ps.length f) := by
  have kp := F.kp
  obtain ⟨oc, od, kV, doc, pm, an, cdv, ct, osl, efd, lk, hcd⟩ := F.ex
  subst efd
  refine ⟨a, _, hm, kp, hb, fn_of lk hcd S (fun vs H Q E h => ?_) fun A outer s H vs Q E hr h => ?_, oc, od, osl, lk⟩
  · obtain ⟨ds, F0, r, _, _, _, q⟩ := h
    rw [r.length]
    unfold fnS at q
    by_cases hl : ds.length = ps.length
    · exact hl
    · rw [if_neg hl] at q; exact q.elim
  · obtain ⟨ds, F0, r, sub, nt, tab, q⟩ := h
    have tk0 : L2N.Takes (cxOf (L2N.CX G.P G.w) G.P G.w G.K G.mg G.base N x (defScope st) a cdv A outer s H E) (fun cls d _ H => E cls d H) := L2N.takes_of rfl rfl rfl rfl
    let B : Bd := ⟨G.w, G.K, G.T, H, F0, fun c H' => E (G.cm c) none H', 0⟩
    have tk : L2N.Takes (cxOf (L2N.CX G.P G.w) G.P G.w G.K G.mg G.base N x (defScope st) a cdv A outer s H E) (fun cls d _ H => EB G B cls d H) := tk0.imp fun cls d σ H' ⟨c, e1, e2, e3⟩ => by
      rw [e1, e2]; exact e3
    have O : OkX G B k (cxOf (L2N.CX G.P G.w) G.P G.w G.K G.mg G.base N x (defScope st) a cdv A outer s H E) := ⟨rfl, rfl, rfl, rfl, rfl, rfl, rfl, fun _ => rfl, S.nd, L2H.roomH_of hr, fun _ => hr.hd, L2N.passes_call tk (fun _ _ _ _ z => z), rfl⟩
    refine ⟨tS B f, body cdv rfl A outer s H E B O tk, startE N.length ds, F0, rel_start rfl rfl r sub nt tab, ?_⟩
    unfold fnS at q
    by_cases hl : ds.length = ps.length
    · rw [if_pos hl] at q
      cases hf : f (startE N.length ds) with
      | bad => rw [hf] at q; exact q.elim
      | exc c => rw [hf] at q; exact q
      | ok o =>
        rw [hf] at q
        cases o with
        | nx env => exact fun σ' H' F' r' _ => q .non H' F' r'.ext .non
        | rt d => exact fun v H' F' e _ rv => q v H' F' e rv
        | bk env => exact q.elim
        | ct env => exact q.elim
    · rw [if_neg hl] at q; exact q.elim
end
end Mk
set_option maxHeartbeats 2000000
namespace Mk
open PySem PySem.Spec PyProof.Rows L2
/-- a constant -/
def GC (G : Gx) (x : Str) (d : D) : Prop := ∃ (u : Value) (v : V), G.mg x = some u ∧ RelV v u ∧ ∀ F, Rep G.K F v d
/-- a def -/
def FD (G : Gx) (x : Str) (st : Stmt) (ps : List Str) : Prop := ∃ (a : Addr) (fd : FuncData), Fun G.K x x st a fd ∧ G.mg x = some (.ref a) ∧ Binds G.K fd ps []
def sFz (i : Nat) (f : En → R Out) : En → R Out := fun env => f (fzE i env)
def eB (f : En → R Bool) : En → R D := fun env => (f env).map .bl
section
variable {G : Gx} {B : Bd} {k : Nat} {X : Cx} {pos : Pos}
theorem e_gc {x : Str} {d : D} (O : OkX G B k X) (h : GC G x d) (hg : Gl X x := by rfl) (hdb : (x == ("__debug__" : Str)) = false := by decide) : PE X (.Name x pos) (tE B (eC d)) := by
  obtain ⟨u, v, h1, h2, h3⟩ := h
  exact e_glob hg (by rw [O.mg]; exact h1) h2 (fun F => by rw [O.K, O.GK]; exact h3 F) hdb
theorem e_call0 [Calm G] {j : Nat} {x : Str} {fn : List D → R D} {p : Pos} (O : OkX G B k X) (F : FnS G j x fn) (hj : j ≤ k) (hg : Gl X x := by rfl) (hdb : (x == ("__debug__" : Str)) = false := by decide) : PE X (.Call (.Name x p) [] [] pos) (tE B (opL aNil fn)) := by
  obtain ⟨ps, a, fd, h1, h2, h3, h4, _⟩ := F
  have h4' : FnOk X.prog X.w X.K X.mg X.base (L2N.CX X.prog X.w) j a fd ps (spF G fn) := by
    rw [O.prog, O.w, O.GK, O.mg, O.base]
    exact h4
  refine PE.imp (pe_call0 h4' (O.roomX.mono hj) hg (by rw [O.mg]; exact h1) (by rw [O.GK]; exact h2) (by rw [O.GK]; exact h3) .nil O.pass hdb) fun σ H Q ⟨env, F, rel, q⟩ => ?_
  refine ⟨[], F, .nil, rel.ext.sub, rel.ext.nt, by rw [← O.T]; exact rel.tab, ?_⟩
  have q' : Good B H F Q (fn []) := q
  cases hf : fn [] with
  | ok d =>
    rw [hf] at q'
    exact fun v H' F' e2 rv => q' v H' F' (by rw [O.T]; exact e2) (by rw [O.K, O.GK]; exact rv)
  | exc c =>
    rw [hf] at q'
    exact fun H' e2 => ⟨c, rfl, rfl, q' H' (rel.ext.h.trans (by rw [O.T]; exact e2))⟩
  | bad => rw [hf] at q'; exact q'
theorem s_raises [Calm G] {c : String} {m : Str} {j : Nat} {p p2 p3 : Pos} (O : OkX G B k X) (tk : L2N.Takes X (fun cls d _ H => EB G B cls d H)) (cf : ∃ C, ClsF G c C) (hg : Gl X (Str.ofString c) := by rfl) (hdb : (Str.ofString c == ("__debug__" : Str)) = false := by decide) :
    PS X (.Raise (some (.Call (.Name (Str.ofString c) p) [.Constant (.str m) j p2] [] p3)) none pos) (tS B (sExc c)) := by
  obtain ⟨C, h⟩ := cf
  exact s_raise O tk h hg hdb
end
end Mk
set_option maxHeartbeats 2000000
namespace Mk
open PySem PySem.Spec PyProof.Rows L2
abbrev newSet (w : World) : Obj := { cls := .type "set", dict := none, data := .set #[] 0 (.fresh 0 0 (!w.params.followText "set-order")) }
def opF (f : En → R D) (g : D → R (List D)) : En → R (List D) := fun env => (f env).bind g
end Mk
set_option maxHeartbeats 2000000
namespace Mk
open PySem PySem.Spec PyProof.Rows L2
def prE : List ((En → R D) × (En → R D)) → En → R (List (D × D))
  | [], _ => .ok []
  | p :: r, env => (p.1 env).bind fun a => (p.2 env).bind fun b => (prE r env).bind fun l => .ok ((a, b) :: l)
def keysD : List (D × D) → Option (List (Key × D))
  | [] => some []
  | p :: r => (kOf p.1).bind fun k => (keysD r).map ((k, p.2) :: ·)
def dispD (l : List (D × D)) : R D := match keysD l with
  | some kvs => if (kvs.map (·.1)).Nodup ∧ kvs.length ≤ 15 then .ok (.dic kvs) else .bad
  | none => .bad
def dicE (fs : List ((En → R D) × (En → R D))) : En → R D := fun env => (prE fs env).bind dispD
inductive RepP (K : PySem.W.Frag) (F : Hp) : List (V × V) → List (D × D) → Prop
  | nil : RepP K F [] []
  | cons {x y : V} {a b : D} {ps : List (V × V)} {ds : List (D × D)} : Rep K F x a → Rep K F y b → RepP K F ps ds → RepP K F ((x, y) :: ps) ((a, b) :: ds)
def trsOf (B : Bd) (fs : List ((En → R D) × (En → R D))) : List (TE × TE) := fs.map fun p => (tE B p.1, tE B p.2)
def GoodP2 (B : Bd) (H F : Hp) (Q : List (V × V) → Hp → Prop) : R (List (D × D)) → Prop
  | .ok l => ∀ ps H' F', Ext B.T H F H' F' → RepP B.K F' ps l → Q ps H'
  | .exc c => ∀ H', ExtH B.T B.H0 H' → B.wx c H'
  | .bad => False
section
variable {B : Bd}
theorem tPairs_of : ∀ {fs : List ((En → R D) × (En → R D))} {env : En} {σ : L2.St} {H F : Hp} {Q : List (V × V) → Hp → Prop}, Rel B env σ H F → GoodP2 B H F Q (prE fs env) → tPairs (trsOf B fs) σ H Q
  | [], env, σ, H, F, Q, r, q => q [] H F r.stay .nil
  | p :: fs, env, σ, H, F, Q, r, q => by
    refine ⟨env, F, r, ?_⟩
    cases h1 : p.1 env with
    | bad => simp only [prE, h1, R.bind] at q; exact q
    | exc c => simp only [prE, h1, R.bind] at q; exact q
    | ok a =>
      intro x H1 F1 e1 rx
      refine ⟨env, F1, r.mono e1, ?_⟩
      cases h2 : p.2 env with
      | bad => simp only [prE, h1, h2, R.bind] at q; exact q
      | exc c => simp only [prE, h1, h2, R.bind] at q; exact q
      | ok b =>
        intro y H2 F2 e2 ry
        refine tPairs_of (F := F2) (r.mono (e1.trans e2)) ?_
        cases h3 : prE fs env with
        | bad => simp only [prE, h1, h2, h3, R.bind] at q; exact q
        | exc c => simp only [prE, h1, h2, h3, R.bind] at q; exact q
        | ok l =>
          simp only [prE, h1, h2, h3, R.bind] at q
          exact fun ps H3 F3 e3 rp => q ((x, y) :: ps) H3 F3 ((e1.trans e2).trans e3) (.cons (rx.mono (e2.fsame.trans e3.fsame)) (ry.mono e3.fsame) rp)
theorem kOf_V {K : PySem.W.Frag} {F : Hp} {x : V} {d : D} {k : Key} (r : Rep K F x d) (h : kOf d = some k) : x = kV k := by
  cases r with
  | int i => cases h; rfl
  | str s _ => cases h; rfl
  | _ => cases h
theorem keysD_rep {K : PySem.W.Frag} {F : Hp} : ∀ {ps : List (V × V)} {ds : List (D × D)} {kvs : List (Key × D)}, RepP K F ps ds → keysD ds = some kvs → ∃ kw : List (Key × V), ps = kw.map (fun kv => (kV kv.1, kv.2)) ∧ RepK K F kw kvs ∧ kw.map (·.1) = kvs.map (·.1)
  | _, _, _, .nil, h => by cases h; exact ⟨[], rfl, .nil, rfl⟩
  | _, _, _, .cons (a := a) (b := b) (ds := ds) rx ry rp, h => by
    unfold keysD at h
    cases hk : kOf a with
    | none => simp only [hk, Option.bind] at h; cases h
    | some k =>
      cases hr : keysD ds with
      | none => simp only [hk, hr, Option.bind, Option.map] at h; cases h
      | some r =>
        simp only [hk, hr, Option.bind, Option.map] at h
        cases h
        obtain ⟨kw, e1, e2, e3⟩ := keysD_rep rp hr
        exact ⟨(k, _) :: kw, by rw [List.map_cons, ← e1, kOf_V rx hk], .cons ry e2, by rw [List.map_cons, List.map_cons, e3]⟩
theorem merge_nodup : ∀ (acc kvs : List (Key × V)), (∀ p ∈ kvs, ∀ q ∈ acc, q.1 ≠ p.1) → (kvs.map (·.1)).Nodup → mergeK acc kvs = acc ++ kvs
  | acc, [], _, _ => by show acc = acc ++ []; rw [List.append_nil]
  | acc, p :: r, h, nd => by
    obtain ⟨n1, n2⟩ := List.nodup_cons.mp nd
    have e : putK acc p.1 p.2 = acc ++ [(p.1, p.2)] := by
      unfold putK
      rw [if_neg]
      intro z
      obtain ⟨q, hq, e⟩ := List.any_eq_true.mp z
      exact h p List.mem_cons_self q hq (of_decide_eq_true e)
    show mergeK (putK acc p.1 p.2) r = _
    rw [e, merge_nodup (acc ++ [(p.1, p.2)]) r (fun p' hp q hq => ?_) n2, List.append_assoc]
    · rfl
    · rcases List.mem_append.mp hq with z | z
      · exact h p' (List.mem_cons_of_mem _ hp) q z
      · have e2 : q = (p.1, p.2) := by simpa using z
        rw [e2]
        intro z2
        exact n1 (List.mem_map.mpr ⟨p', hp, (show p.1 = p'.1 from z2).symm⟩)
end
section
variable {G : Gx} {B : Bd} {k : Nat} {X : Cx} {pos : Pos}
theorem dp_nil : PPs X pos [] [] (trsOf B []) := pps_nil
theorem dp_cons {e v : Expr} {ks : List (Option Expr)} {vs : List Expr} {f g : En → R D} {fs : List ((En → R D) × (En → R D))} (hk : PE X e (tE B f)) (hv : PE X v (tE B g)) (hr : PPs X pos ks vs (trsOf B fs)) : PPs X pos (some e :: ks) (v :: vs) (trsOf B ((f, g) :: fs)) := pps_cons hk hv hr
/-- what an expression has made is read alone from now on -/
theorem pe_locked {e : Expr} {t : TE} (h : PE X e t) : PE X e (fun σ H Q => t σ H fun v H' => ∃ d u, v = .ref d ∧ H' d = some u ∧ Mut (some u) ∧ ∀ od, Q v (upd H' d (.frz od u))) :=
  ⟨fun pins s σ H Q I hw => thn (h.run pins s σ H _ I hw) fun u s1 ⟨x, H1, I1, r, d, o, e, hd, mu, q⟩ => by
    obtain ⟨od, I2⟩ := I1.lock hd mu
    exact ⟨x, _, I2, r, q od⟩⟩
theorem e_disp {ks : List (Option Expr)} {vs : List Expr} {fs : List ((En → R D) × (En → R D))} (h : PPs X pos ks vs (trsOf B fs)) (h1 : ks.all (·.isSome) = true := by rfl) (h2 : ks.length = vs.length := by rfl) (h3 : ks ≠ [] := by exact List.cons_ne_nil _ _) (h4 : ks.length ≤ 15 := by decide) :
    PE X (.Dict ks vs pos) (tE B (dicE fs)) := by
  refine PE.imp (pe_locked (pe_disp h h1 h2 h3 h4)) fun σ H Q ⟨env, F, r, q⟩ p hp => ?_
  have fp : F p = none := by
    cases z : F p with
    | none => rfl
    | some o => rw [r.ext.sub _ _ z] at hp; cases hp
  have x0 := Ext.own (T := B.T) (o := .dK []) r.ext.sub r.ext.nt hp
  refine tPairs_of (F := F) (r.mono x0) ?_
  unfold dicE at q
  cases hl : prE fs env with
  | bad => rw [hl] at q; exact q
  | exc c => rw [hl] at q; exact q
  | ok l =>
    rw [hl] at q
    intro ps H2 F2 e2 rp
    have a2 : H2 p = some (.dK []) := e2.same p _ upd_same fun ps z => by cases z
    have f2 : F2 p = none := by
      cases z : F2 p with
      | none => rfl
      | some o =>
        rcases e2.new p o z with y | y
        · rw [fp] at y; cases y
        · exact (y.dK upd_same).elim
    simp only [R.bind, dispD] at q
    cases hk : keysD l with
    | none => rw [hk] at q; exact q.elim
    | some kvs =>
      rw [hk] at q
      by_cases hc : (kvs.map (·.1)).Nodup ∧ kvs.length ≤ 15
      · simp only [if_pos hc] at q
        obtain ⟨kw, e1, e3, e4⟩ := keysD_rep rp hk
        have hlen : kw.length = kvs.length := e3.length
        refine ⟨a2, kw, e1, by rw [hlen]; exact hc.2, ?_⟩
        rw [merge_nodup [] kw (fun _ _ _ z => nomatch z) (by rw [e4]; exact hc.1), List.nil_append]
        refine ⟨p, .dK kw, rfl, upd_same, trivial, fun od => ?_⟩
        rw [upd_upd]
        have x1 := ((x0.trans e2).mut (o := .frz od (.dK kw)) (.inl hp) (tabs_mutK a2) f2).fz (.inl hp) upd_same f2 (fun ps z => by cases z)
        refine q _ _ _ x1 (.dic upd_same (e3.mono (same_upd' f2)) ?_)
        have := hc.2
        have e5 := sizeLine_eq
        omega
      · simp only [if_neg hc] at q
        exact q.elim
end
section
variable {G : Gx} {B : Bd} {k : Nat} {X : Cx} {pos : Pos}
theorem Keeps.sub {js is : List Nat} {σ σ' : L2.St} (h : Keeps is σ σ') (hs : ∀ i ∈ is, i ∈ js) : Keeps js σ σ' := ⟨h.1, fun j hj => h.2 j fun z => hj (hs j z)⟩
end
end Mk
set_option maxHeartbeats 2000000
namespace Mk
open PySem PySem.Spec PyProof.Rows L2
theorem repL_strs {K : PySem.W.Frag} {F : Hp} : ∀ {ys : List Str}, ys.all sokB = true → RepL K F (ys.map V.str) (ys.map D.str)
  | [], _ => .nil
  | y :: ys, h => by
    rw [List.all_cons, Bool.and_eq_true] at h
    exact .cons (.str y (sok_of h.1)) (repL_strs h.2)
end Mk
set_option maxHeartbeats 2000000
namespace Mk
open PySem PySem.Spec PyProof.Rows L2
def pairD (a b : D) : D := .tup [a, b]
def zipD : D → D → R (List D)
  | .lst x, .lst y => .ok (List.zipWith pairD x y)
  | .tup x, .tup y => .ok (List.zipWith pairD x y)
  | _, _ => .bad
def enumL : Nat → List D → List D
  | _, [] => []
  | n, d :: l => pairD (.int (n : Nat)) d :: enumL (n + 1) l
def enumD : D → R (List D)
  | .lst x => .ok (enumL 0 x)
  | _ => .bad
theorem enumL_get : ∀ (n : Nat) (l : List D) (i : Nat), (enumL n l)[i]? = l[i]?.map fun d => pairD (.int ((n + i : Nat) : Int)) d
  | n, [], i => by simp [enumL]
  | n, d :: l, 0 => by simp [enumL]
  | n, d :: l, i + 1 => by
    have := enumL_get (n + 1) l i
    simp only [enumL, List.getElem?_cons_succ, this]
    congr 1
    funext x
    rw [show n + 1 + i = n + (i + 1) by omega]
theorem enumL_len : ∀ (n : Nat) (l : List D), (enumL n l).length = l.length
  | _, [] => rfl
  | n, d :: l => by show (enumL (n + 1) l).length + 1 = _; rw [enumL_len]; rfl
section
variable {G : Gx} {B : Bd} {k : Nat} {X : Cx} {a b : Expr} {f g : En → R D} {pos : Pos}
theorem itOk_two {F1 : Hp} {xs ys : Nat → Option V} {n : Nat} {ds : List D} {J : It} {GG : Hp → Prop} (w : Walk J n GG (YPair xs ys)) (hn : n = ds.length) (hg : ∀ H', Same F1 H' → GG H')
    (hr : ∀ i x y, xs i = some x → ys i = some y → i < n → ∃ c d, Rep B.K F1 x c ∧ Rep B.K F1 y d ∧ ds[i]? = some (pairD c d)) : ItOk B F1 ds J := by
  subst hn
  refine ⟨GG, YPair xs ys, w, hg, fun i H' F' v H'' hi s1 s2 nt y => ?_⟩
  obtain ⟨T, x, y, rfl, hT, rfl, hx, hy⟩ := y
  obtain ⟨c, d, r1, r2, hd⟩ := hr i x y hx hy hi
  have E := Ext.frz (T := B.T) (o := .tup [x, y]) s2 nt hT (fun ps z => by cases z)
  exact ⟨upd F' T (.tup [x, y]), pairD c d, E, hd, .tup (.inl (.inl upd_same)) (.cons (r1.mono (s1.trans E.fsame)) (.cons (r2.mono (s1.trans E.fsame)) .nil)) (by show 2 ≤ sizeLine; decide)⟩
theorem walk_zipT {K : PySem.W.Frag} {p q : Addr} {xs ys : List V} {n : Nat} (hn : n = min xs.length ys.length) : Walk (RZ.ItzT K p q) n (fun H => SqT K H p xs ∧ SqT K H q ys) (YPair (fun i => xs[i]?) (fun i => ys[i]?)) := by
  refine ⟨fun i H hi ⟨h1, h2⟩ => ?_, fun H ⟨h1, h2⟩ => ?_, fun i H x H' hi ⟨h1, h2⟩ y => ?_⟩
  · exact ⟨xs, ys, xs[i]'(by omega), ys[i]'(by omega), h1, h2, List.getElem?_eq_getElem _, List.getElem?_eq_getElem _⟩
  · exact ⟨xs, ys, h1, h2, by omega⟩
  · obtain ⟨T, x, y, e1, e2, e3, e4, e5⟩ := y
    exact ⟨T, x, y, e1, e2, e3, e4 xs h1, e5 ys h2⟩
theorem zip_get {l m : List D} {i : Nat} {c d : D} (h1 : l[i]? = some c) (h2 : m[i]? = some d) : (List.zipWith pairD l m)[i]? = some (pairD c d) := by
  rw [List.getElem?_zipWith, h1, h2]
theorem i_zip {elts : List Expr} {kk : Nat} {p tpos : Pos} (O : OkX G B k X) (hm : G.mg "zip" = none) (ha : PE X a (tE B f)) (hb : PE X b (tE B g)) (hg : Gl X "zip" := by rfl) (hs : starEach [a, b] X.env = (false, eval a X.env) :: starEach [b] X.env := by rfl) (hs2 : starEach [b] X.env = (false, eval b X.env) :: starEach [] X.env := by rfl)
    (hpl : (backTo pos (starEach [b] X.env)).any (·.1) = false := by rfl) : PI X (.Tuple elts kk tpos) (.Call (.Name "zip" p) [a, b] [] pos) (tI B (opI2 f g zipD)) := by
  refine PI.imp (RZ.pi_zipA hg (by rw [O.mg]; exact hm) (pa_cons ha (pa_cons hb pa_nil hs2) hs) hs hpl) fun σ H Q ⟨env, F, rel, q⟩ => ?_
  unfold opI2 at q
  refine ⟨env, F, rel, ?_⟩
  cases hf : f env with
  | bad => rw [hf] at q; exact q
  | exc c => rw [hf] at q; exact q
  | ok d1 =>
    rw [hf] at q
    intro x H1 F1 e1 rx
    refine ⟨env, F1, rel.mono e1, ?_⟩
    cases hg' : g env with
    | bad => simp only [R.bind, hg'] at q; exact q
    | exc c => simp only [R.bind, hg'] at q; exact q
    | ok d2 =>
      simp only [R.bind, hg'] at q
      intro y H2 F2 e2 ry
      have e12 := e1.trans e2
      have sub := (rel.mono e12).ext.sub
      have rx' := rx.mono e2.fsame
      have key : ∀ {l m : List D} {xs ys : List V}, RepL B.K F2 xs l → RepL B.K F2 ys m → ∀ i x y, xs[i]? = some x → ys[i]? = some y → ∃ c d, Rep B.K F2 x c ∧ Rep B.K F2 y d ∧ (List.zipWith pairD l m)[i]? = some (pairD c d) := fun r1 r2 i x y h1 h2 => by
        obtain ⟨c, hc, rc⟩ := r1.get h1
        obtain ⟨d, hd, rd⟩ := r2.get h2
        exact ⟨c, d, rc, rd, zip_get hc hd⟩
      cases d1 with
      | lst l =>
        cases d2 with
        | lst m =>
          cases rx' with
          | lst h1 r1 z1 =>
            cases ry with
            | lst h2 r2 z2 =>
              refine ⟨_, _, _, _, rfl, .inl ⟨SqL.of (sub _ _ h1), SqL.of (sub _ _ h2), q _ _ _ e12 (itOk_two (walk_zip rfl) ?_ (fun H' hs => ⟨SqL.of (hs _ _ h1), SqL.of (hs _ _ h2)⟩) fun i x y hx hy _ => key r1 r2 i x y hx hy)⟩⟩
              rw [List.length_zipWith, r1.length, r2.length]
        | _ => exact q.elim
      | tup l =>
        cases d2 with
        | tup m =>
          cases rx' with
          | tup h1 r1 z1 =>
            cases ry with
            | tup h2 r2 z2 =>
              refine ⟨_, _, _, _, rfl, .inr ⟨O.tupH sub h1, O.tupH sub h2, q _ _ _ e12 (itOk_two (walk_zipT rfl) ?_ (fun H' hs => ⟨O.tupH hs h1, O.tupH hs h2⟩) fun i x y hx hy _ => key r1 r2 i x y hx hy)⟩⟩
              rw [List.length_zipWith, r1.length, r2.length]
        | _ => exact q.elim
      | _ => exact q.elim
theorem i_enum {elts : List Expr} {kk : Nat} {p tpos : Pos} (O : OkX G B k X) (hm : G.mg "enumerate" = none) (ha : PE X a (tE B f)) (hg : Gl X "enumerate" := by rfl) (hs : starEach [a] X.env = [(false, eval a X.env)] := by rfl) (hs2 : starEach [a] X.env = (false, eval a X.env) :: starEach [] X.env := by rfl) :
    PI X (.Tuple elts kk tpos) (.Call (.Name "enumerate" p) [a] [] pos) (tI B (opI f enumD)) := by
  refine PI.imp (pi_enum hg (by rw [O.mg]; exact hm) (pa_cons ha pa_nil hs2) hs) fun σ H Q ⟨env, F, rel, q⟩ => ?_
  unfold opI at q
  refine ⟨env, F, rel, ?_⟩
  cases hf : f env with
  | bad => rw [hf] at q; exact q
  | exc c => rw [hf] at q; exact q
  | ok d1 =>
    rw [hf] at q
    intro x H1 F1 e1 rx
    have sub := (rel.mono e1).ext.sub
    cases d1 with
    | lst l =>
      cases rx with
      | lst h1 r1 z1 =>
        refine ⟨_, _, rfl, SqL.of (sub _ _ h1), q _ _ _ e1 (itOk_two walk_enum (by rw [enumL_len, r1.length]) (fun H' hs => SqL.of (hs _ _ h1)) fun i x y hx hy _ => ?_)⟩
        obtain ⟨d, hd, rd⟩ := r1.get hy
        cases hx
        refine ⟨.int (i : Nat), d, .int _, rd, ?_⟩
        rw [enumL_get, hd, Nat.zero_add]
        rfl
    | _ => exact q.elim
def sParO (i j : Nat) (f : En → R (List D)) (g : En → R D) : En → R Out := fun env => (f env).bind fun l => (g env).bind fun d => if i < env.length ∧ j < env.length then .ok (.nx ((env.set i (some (.ol l))).set j (some (.fro d)))) else .bad
theorem s_parO [Calm G] (i j : Nat) {x y : Str} {px py pt : Pos} {kt k2 : Nat} {pt2 : Pos} {fl : En → R (List D)} (O : OkX G B k X) (ha : PE X a (tF B fl)) (hb : PE X b (tE B g)) (hi : X.N[i]? = some x := by rfl) (hj : X.N[j]? = some y := by rfl) (hij : i ≠ j := by decide) (hx : X.env.scope.names.lookup x = some .local := by rfl) (hy : X.env.scope.names.lookup y = some .local := by rfl)
    (hw : swappedStores [.Tuple [.Name x px, .Name y py] kt pt] (.Tuple [a, b] k2 pt2) X.env = pure (some [x, y]) := by rfl) (hs : swapsWithSole [.Tuple [.Name x px, .Name y py] kt pt] (.Tuple [a, b] k2 pt2) pos.line X.env = pure false := by rfl)
    (h1 : starEach [a, b] X.env = (false, eval a X.env) :: starEach [b] X.env := by rfl) (h2 : starEach [b] X.env = (false, eval b X.env) :: starEach [] X.env := by rfl) :
    PS X (.Assign [.Tuple [.Name x px, .Name y py] kt pt] (.Tuple [a, b] k2 pt2) pos) (tS B (sParO i j fl g)) :=
  PS.imp (ps_par O.calmX O.nd hi hj hij hx hy (pa_cons ha (pa_cons hb pa_nil h2) h1) hw hs) fun Z σ H ⟨env, F, r, q⟩ => ⟨env, F, r, by
    unfold sParO at q
    cases hf : fl env with
    | bad => rw [hf] at q; exact q
    | exc c => rw [hf] at q; exact q
    | ok l =>
      rw [hf] at q
      intro p vs H1 F1 e1 f1 a1 n1 r1 z1
      refine ⟨env, F1, r.mono e1, ?_⟩
      cases hg : g env with
      | bad => simp only [R.bind, hg] at q; exact q
      | exc c => simp only [R.bind, hg] at q; exact q
      | ok d =>
        simp only [R.bind, hg] at q
        intro v H2 F2 e2 rv
        by_cases hl : i < env.length ∧ j < env.length
        · rw [if_pos hl] at q
          have a2 : H2 p = some (.lst vs) := e2.same p _ a1 fun ps z => by cases z
          have n2 : F2 p = none := by
            cases z : F2 p with
            | none => rfl
            | some o =>
              rcases e2.new p o z with w | w
              · rw [n1] at w; cases w
              · exact (w.lst a1).elim
          have rel2 := r.mono (e1.trans e2)
          exact ⟨_, _, rfl, q _ _ _ ((rel2.putL (i := i) a2 (Free.back r.ext.same f1) n2 (r1.mono e2.fsame) z1 (noOwn_free (H' := H2) (F' := F2) r f1)).put rv) (e1.trans e2).fsame⟩
        · rw [if_neg hl] at q; exact q.elim⟩
def isPI : D → Bool
  | .tup [.int _, .int _] => true
  | _ => false
def srtD : D → R (List D)
  | .lst l => if l.all isPI = true then .ok (l.mergeSort (PySem.W.dataLe false D.py)) else .bad
  | _ => .bad
theorem isPI_eq {d : D} (h : isPI d = true) : ∃ i j : Int, d = .tup [.int i, .int j] := by
  unfold isPI at h
  split at h
  · exact ⟨_, _, rfl⟩
  · cases h
theorem each_of {K : PySem.W.Frag} {F : Hp} : ∀ {xs : List V} {ds : List D} {us : List Value}, RepL K F xs ds → Vals xs us → PySem.W.EachIs (fun u d => ∃ x, RelV x u ∧ Rep K F x d) us ds
  | _, _, _, .nil, .nil => .nil
  | _, _, _, .cons h r, .cons v vs => .cons ⟨_, v, h⟩ (each_of r vs)
theorem each_back {K : PySem.W.Frag} {F : Hp} : ∀ {us : List Value} {ds : List D}, PySem.W.EachIs (fun u d => ∃ x, RelV x u ∧ Rep K F x d) us ds → ∃ xs, Vals xs us ∧ RepL K F xs ds
  | _, _, .nil => ⟨[], .nil, .nil⟩
  | _, _, .cons h r => by
    obtain ⟨x, h1, h2⟩ := h
    obtain ⟨xs, h3, h4⟩ := each_back r
    exact ⟨x :: xs, .cons h1 h3, .cons h2 h4⟩
theorem f_srt {p : Pos} (O : OkX G B k X) (hm : G.mg "sorted" = none) (ha : PE X a (tO B f)) (hg : Gl X "sorted" := by rfl) (hv : bootBuiltins "sorted" = some (.builtin "sorted") := by decide +kernel) (na : starEach [a] X.env = (false, eval a X.env) :: starEach [] X.env := by rfl) :
    PE X (.Call (.Name "sorted" p) [a] [] pos) (tF B (opF f srtD)) := by
  refine ⟨fun pins s σ H Q I ⟨env, F, rel, q0⟩ => ?_⟩
  refine Call_ (ld_blt I hg (by rw [O.mg]; exact hm) hv ?_)
  unfold opF at q0
  cases hf : f env with
  | bad => rw [hf] at q0; exact q0.elim
  | exc c =>
    rw [hf] at q0
    refine PyProof.Rows.callWith_builtin1 (PyProof.Rows.args_cons (thn (ha.run pins s σ H (fun _ _ => False) I ⟨env, F, rel, ?_⟩) fun v s1 ⟨x, H1, I1, r1, q1⟩ => q1.elim) na) na rfl
    rw [hf]
    exact q0
  | ok d =>
    rw [hf] at q0
    cases d with
    | lst l =>
      simp only [R.bind, srtD] at q0
      by_cases hall : l.all isPI = true
      · simp only [if_pos hall] at q0
        refine PyProof.Rows.callWith_builtin1 (PyProof.Rows.args_cons (thn (ha.run pins s σ H (fun x H1 => ∃ F1, Ext B.T H F H1 F1 ∧ RepO B H1 F1 x (.lst l)) I ⟨env, F, rel, by rw [hf]; exact fun v H' F' x y => ⟨F', x, y⟩⟩) fun v s1 ⟨x, H1, I1, r1, F1, e1, ro⟩ => PyProof.Rows.args_nil ?_) na) na rfl
        have rel1 := rel.mono e1
        obtain ⟨a1, xs, ex, h3, r3, z3⟩ := ro.lst rel1.ext.sub
        subst ex
        cases r1
        obtain ⟨it0, rv, pl, hz⟩ := I1.list (SqL.of (K := X.K) h3)
        have ea := each_of r3 rv
        have pi : ∀ d ∈ l, ∃ i j : Int, d = .tup [.int i, .int j] := fun d hd => isPI_eq (List.all_eq_true.mp hall d hd)
        have er : PySem.W.EachIs (fun v b => ∃ as, Reads s1.heap v (D.py b) as) it0 l := by
          have em := PySem.W.each_mem ea
          refine em.mono fun u d ⟨⟨x, rx, rd⟩, hd⟩ => ?_
          obtain ⟨i, j, rfl⟩ := pi d hd
          have dp : Dp X.K H1 x (D.py (.tup [.int i, .int j])) := by
            rw [← O.K]
            exact rep_dp rel1.ext.sub rd rfl
          exact Dp.reads I1 _ x u dp rx
        refine PySem.W.sorted_data pl.isList ea er (fun d hd d' hd' => ?_) (.inl fun d hd => ?_) (by rw [← ea.length, ← rv.length]; exact hz) (fun b hb => ?_) fun out ho hE => ?_
        · obtain ⟨b, hb, rfl⟩ := List.mem_map.mp hd
          obtain ⟨b', hb', rfl⟩ := List.mem_map.mp hd'
          obtain ⟨i, j, rfl⟩ := pi b hb
          obtain ⟨i', j', rfl⟩ := pi b' hb'
          rfl
        · obtain ⟨b, hb, rfl⟩ := List.mem_map.mp hd
          obtain ⟨i, j, rfl⟩ := pi b hb
          exact ⟨_, _, rfl⟩
        · obtain ⟨i, j, rfl⟩ := pi b hb
          have hu := O.room.un
          have : (D.py (.tup [.int i, .int j])).depth ≤ 3 := Nat.le_of_ble_eq_true rfl
          omega
        · obtain ⟨ys, rv', rl⟩ := each_back hE
          have hlen : ys.length ≤ sizeLine := by
            rw [rl.length, List.length_mergeSort, ← r3.length]
            exact hz
          obtain ⟨ep, he'⟩ := PyProof.Rows.sortedAll_at s1.heap it0 out.toArray
          have hn : H1 (s1.heap.objs.size + 1) = none := I1.hok.fresh (Nat.le_succ _)
          have fp : F1 (s1.heap.objs.size + 1) = none := by
            cases z : F1 (s1.heap.objs.size + 1) with
            | none => rfl
            | some o => rw [rel1.ext.sub _ _ z] at hn; cases hn
          refine ⟨.ref _, upd H1 (s1.heap.objs.size + 1) (.lst ys), I1.laid (t' := s1.toks) (fun _ _ => PyProof.Rows.sortedAll_old) (Nat.le_succ _) ⟨hlen, out, ep, rv', he'⟩, rfl, ?_⟩
          exact q0 _ _ _ F1 (e1.trans (Ext.own rel1.ext.sub rel1.ext.nt hn)) (Free.back e1.same (.inl hn)) upd_same fp rl (by rw [← rl.length]; exact hlen)
      · simp only [if_neg hall] at q0
    | _ => exact q0.elim
end
end Mk
set_option maxHeartbeats 2000000
namespace Mk
open PySem PySem.Spec PyProof.Rows L2 HotX L2H
section
variable {prog : Program} {w : World} {A : Around} {E : Value → Shared → Prop} {s : Shared}
theorem lastHot {it l ex : Addr} {n : Nat} {vs : Array Value} {Q : Option Value → Shared → Prop} (hot : HotAt A ex s.heap) (hit : s.heap.IsListIter it l n) (hl : s.heap.IsList l vs) (hx : vs[n]? = none) (ne : ex ≠ it)
    (hQ : ∀ h', Heap.ExtBut it s.heap h' → Q none { s with heap := h' }) : wpAny (model prog w) A (pyNext (.ref it)) Q E s := by
  obtain ⟨o, ho, hc, hd⟩ := id hit
  obtain ⟨ol, hol, _, nl, hdl⟩ := hl
  obtain ⟨hh, ox, vx, gx, dx, cx⟩ := hot
  have TI := hit.typeIs
  unfold pyNext
  refine wpAny_bind (wpAny_attempt (wpAny_callSpecial?_slot (name := Str.ofString "__next__") TI slot_listiter_next (wpAny_call_entry slot_listiter_next TI entry_listiter_next ?_ (args_listiter_next _))))
  show wpAny _ _ (field (.ref it) 0 >>= _) _ _ s
  refine wpAny_bind (wpAny_field ho hd (x := .ref l) rfl ?_)
  show wpAny _ _ (if (Value.ref l == Value.none) = true then _ else _) _ _ s
  rw [if_neg (by simp)]
  show wpAny _ _ (field (.ref it) 1 >>= _) _ _ s
  refine wpAny_bind (wpAny_field ho hd (x := .int n 0) rfl ?_)
  show wpAny _ _ (seqItems? (.ref l) >>= _) _ _ s
  refine wpAny_bind (wpAny_seqItems hol hdl ?_)
  simp only [Int.toNat_natCast, hx]
  refine wpAny_bind (wpAny_rule (wpAny_bind (wpAny_setField ho hd (by simp) ?_)))
  show wpAny _ _ (newExc (.type "StopIteration") [] >>= _) _ _ _
  refine wpAny_bind ?_
  simp only [newExc, newTuple]
  refine wpAny_bind (wpAny_newObj_type ?_ (by size_fits))
  refine wpAny_bind (m := firstArgMember _ _) (wpAny_of_eq (a := Value.none) (by first | rfl | (simp only [firstArgMember]; rfl)) ?_)
  refine wpAny_newObj_type ?_ (by size_fits)
  have gx1 := (Heap.get?_update_other s.heap (Obj.mapFields (·.setIfInBounds 0 Value.none)) (Ne.symm ne)).trans gx
  refine raiseNew_hot ⟨hh, ox, vx, Heap.get?_push_of_some _ (Heap.get?_push_of_some _ gx1), dx, cx⟩ (Nat.ne_of_lt (Heap.lt_size (Heap.get?_push_of_some _ gx1))) (Heap.get?_push_size _ rfl) rfl (by first | (simp; done) | (simp; omega) | (simp only [Array.size_append]; simp; omega)) ?_
  refine wpAny_bind (wpAny_isInstance (T := "StopIteration") (b := true) ⟨_, Heap.get?_update_self _ (Heap.get?_push_size _ rfl) rfl, rfl⟩ isSubtype_stop ?_)
  refine wpAny_pure (hQ _ fun b ob nb eb => ?_)
  have e1 := (Heap.SameBut.update (h := s.heap) (a := it) (f := Obj.mapFields (·.setIfInBounds 0 Value.none))).extBut b ob nb eb
  rw [Heap.get?_update_other _ _ (Nat.ne_of_gt (Heap.lt_size (Heap.get?_push_of_some _ e1)))]
  exact Heap.get?_push_of_some _ (Heap.get?_push_of_some _ e1)
theorem walksHot (I l ex : Addr) (nl : l ≠ I) (nx : ex ≠ I) (vs : Array Value) (hh : A.handled = some (.ref ex)) :
    Walks prog w A I [I, l, ex] [I] vs.size (fun i v => vs[i]? = some v) (fun i h => h.IsListIter I l i ∧ h.IsList l vs ∧ HotAt A ex h) where
  sub := fun b hb => by simp at hb; simp [hb]
  frame := fun _ _ _ st hk => ⟨st.1.at fun o e => hk I (by simp) o e, st.2.1.at fun o e => hk l (by simp) o e, st.2.2.1, by
    obtain ⟨_, o, v, e1, e2, e3⟩ := st.2.2
    exact ⟨o, v, hk ex (by simp) o e1, e2, e3⟩⟩
  item := fun i s Q E hi st hQ => by
    refine wpAny_pyNext_list_item st.1 st.2.1 (x := vs[i]) (by simp [hi]) fun h' hit' hs' => ?_
    refine hQ _ h' s.toks (by simp [hi]) ⟨hit', st.2.1.extBut hs'.extBut nl, st.2.2.1, ?_⟩ fun b o hb e => hs'.extBut b o (fun h => hb (by simp [h])) e
    obtain ⟨_, o, v, e1, e2, e3⟩ := st.2.2
    exact ⟨o, v, hs'.extBut _ _ nx e1, e2, e3⟩
  done := fun s Q E st hQ => lastHot st.2.2 st.1 st.2.1 (by simp) nx fun h' he' => hQ h' s.toks fun b o hb e => he' b o (fun h => hb (by simp [h])) e
  self := fun _ _ _ _ st hQ => wpAny_pyIter_listiter st.1 hQ
end
section
variable {X : Cx}
theorem sumHot (hc : HotC X) : CallR X (.builtin "sum") (rSum X.K) := by
  intro pins s σ H vs us Q I r h
  obtain ⟨a, ns, rfl, hs, q⟩ := h
  obtain ⟨it0, rv, hl, _⟩ := I.list hs
  rw [Vals.ref1 r]
  obtain ⟨ex, hot⟩ := hc.at I
  obtain ⟨hh, ox, vx, gx, dx, cx⟩ := hot
  obtain ⟨xs, e⟩ := rv.ints.allInts.items
  have hn : numsOf (intItems xs).toList = ns := by rw [← e]; exact rv.ints.numsOf
  rw [nums_intItems] at hn
  have hl1 := hl.isList
  rw [e] at hl1
  refine call_sum_walkG (iter_any hl1 fun s₂ e2 st hne => ?_)
  subst e2
  refine ⟨_, _, _, _, _, _, numAt xs, rfl, walksHot (A := X.A.in1) _ a ex hne (Nat.ne_of_lt (Heap.lt_size gx)) _ hh, ⟨st.1, st.2, hh, ox, vx, Heap.get?_push_of_some _ gx, dx, cx⟩, ?_, ?_, fun h' tk t' hk => ?_⟩
  · intro b hb
    have hlt : a < s.heap.objs.size := by obtain ⟨_, e, _⟩ := hl1; exact Heap.lt_size e
    have hlx := Heap.lt_size gx
    show b < (s.heap.push _).objs.size
    rw [Heap.size_push]
    simp only [List.mem_cons, List.not_mem_nil, or_false] at hb
    rcases hb with e | e | e
    · rw [e]; exact Nat.lt_succ_self _
    · rw [e]; exact Nat.lt_succ_of_lt hlt
    · rw [e]; exact Nat.lt_succ_of_lt hlx
  · intro i v hv
    exact intItems_at hv
  · refine ⟨.int _, H, I.kept fun b o eo => hk b o (fun hmem => ?_) (Heap.get?_push_of_some _ eo), ⟨t', ?_⟩, q⟩
    · rcases List.mem_cons.mp hmem with e1 | hmem
      · exact absurd (e1 ▸ Heap.lt_size eo) (Nat.lt_irrefl _)
      · cases hmem
    · rw [preSum_eq, List.take_of_length_le (by simp [intItems]), hn]
theorem objThere {P : Program} {w : World} {H : Hp} {h : Heap} {a : Addr} {o : HO} (x : ObjOk P w H h a o) : ∃ u, h.get? a = some u := by
  cases o with
  | lst xs => obtain ⟨_, _, _, _, e⟩ := x; exact ⟨_, e⟩
  | tup xs =>
    obtain ⟨_, _, _, p⟩ := x
    obtain ⟨o, e, _⟩ := p
    exact ⟨_, e⟩
  | dK kvs => obtain ⟨_, _, _, _, o, _, _, e, _⟩ := x; exact ⟨_, e⟩
  | dT kvs => obtain ⟨_, _, _, _, o, _, _, e, _⟩ := x; exact ⟨_, e⟩
  | set S n => obtain ⟨o, _, _, _, e, _⟩ := x; exact ⟨_, e⟩
  | ins C dx fs => obtain ⟨_, _, _, e, _⟩ := x; exact ⟨_, e⟩
  | own c => exact x
  | xd fs =>
    obtain ⟨_, n, _⟩ := x
    obtain ⟨o, _, _, e, _⟩ := n
    exact ⟨_, e⟩
  | rng lo hi => obtain ⟨_, _, _, e⟩ := x; exact ⟨_, e⟩
  | frz o u => exact ⟨_, x.1⟩
  | tbl ps => exact ⟨_, x⟩
  | met f g => exact ⟨_, x⟩
  | ext φ => exact x.2.1
theorem freshAt {pins : List (Addr × Obj)} {s : Shared} {σ : L2.St} {H : Hp} (I : Inv X pins σ H s) {d : Addr} (h : s.heap.get? d = none) : H d = none := by
  cases q : H d with
  | none => rfl
  | some o =>
    obtain ⟨u, e⟩ := objThere (I.hok d o q)
    rw [h] at e
    cases e
theorem paired_ints {bs : List Bool} {zs : List Value} (h : Paired (fun v z => ∃ (b : Bool) (t : Tok), v = Value.bool b ∧ z = Value.int (if b then 1 else 0) t) (bs.map Value.bool) zs) : Vals (bs.map fun b => V.int (if b then 1 else 0)) zs := by
  induction bs generalizing zs with
  | nil => cases h; exact .nil
  | cons b bs ih =>
    cases h with
    | cons h1 h2 =>
      obtain ⟨b', t, e1, e2⟩ := h1
      cases e1
      subst e2
      exact .cons ⟨_, rfl⟩ (ih h2)
theorem lcHot {i : Nat} {x y : Str} {p1 p2 p3 px py pos : Pos} {scope : Scope} (hc : HotC X) (hclos : closureFor scope X.env = pure []) (hcell : ∀ z ∈ scope.names, z.2 ≠ .cell) (hkind : scope.kind = .function)
    (hnames : ∀ z ∈ scope.names, z.2 = .local → scope.names.lookup z.1 = some .local) (hx : scope.names.lookup x = some .local) (hint : (relabel scope X.env).names.lookup ("int" : Str) = some .globalImplicit) (hm : X.mg "int" = none)
    (hN : X.N[i]? = some y) (hv : Vis X.env.scope y) (hd : (y == ("__debug__" : Str)) = false) (hcd : (y == ("__classdict__" : Str)) = false) (hdx : (x == ("__debug__" : Str)) = false) :
    PE X (.ListComp (.Call (.Name "int" p1) [.Name x p2] [] p3) [⟨.Name x px, .Name y py, [], 0⟩] scope pos)
      (fun σ H Q => ∃ (a : Addr) (bs : List Bool), σ[i]? = some (some (.ref a)) ∧ H a = some (.lst (bs.map V.bl)) ∧ ∀ l, H l = none → Q (.ref l) (upd H l (.lst (bs.map fun b => V.int (if b then 1 else 0))))) := by
  refine ⟨fun pins s σ H Q I h => ?_⟩
  obtain ⟨a, bs, hσ, hH, q⟩ := h
  refine wpAny_ListComp_free (fun _ => true) (fun v z => ∃ (b : Bool) (t : Tok), v = Value.bool b ∧ z = Value.int (if b then 1 else 0) t) hclos hcell hkind hnames hx
    (thn ((pe_var (pos := py) hN hv hd hcd).run pins s σ H (fun v H1 => v = .ref a ∧ H1 = H) I ⟨.ref a, hσ, rfl, rfl⟩) fun u s1 ⟨v, H1, I1, r1, ev, eH⟩ => ?_)
  subst ev
  rw [eH] at I1
  obtain rfl : u = Value.ref a := r1
  obtain ⟨ex, hot⟩ := hc.at I1
  obtain ⟨hh, ox, vx, gx, dx, cx⟩ := hot
  obtain ⟨it0, rv, hl, hz⟩ := I1.list (SqL.of (K := X.K) hH)
  have hb := rv.bls
  have hla : a < s1.heap.objs.size := by obtain ⟨_, e, _⟩ := hl.isList; exact Heap.lt_size e
  refine iter_any hl.isList fun s₂ e2 st hne => ?_
  have out : ∀ b o, s1.heap.get? b = some o → b ∉ [s1.heap.objs.size] := fun b o e z => by
    rcases List.mem_cons.mp z with z | z
    · exact absurd (z ▸ Heap.lt_size e) (Nat.lt_irrefl _)
    · cases z
  have up : ∀ b o, s1.heap.get? b = some o → s₂.heap.get? b = some o := fun b o e => by
    rw [e2]; exact Heap.get?_push_of_some _ e
  refine ⟨_, _, _, _, _, _, rfl, walksHot (A := X.A) _ a ex hne (Nat.ne_of_lt (Heap.lt_size gx)) _ hh, ?_, ⟨st.1, st.2, hh, ox, vx, up _ _ gx, dx, cx⟩, ?_, ⟨?_, ?_⟩, ?_⟩
  · rw [hb]
    simpa using hz
  · intro b hbm
    have hlx := Heap.lt_size gx
    rw [e2]
    show b < (s1.heap.push _).objs.size
    rw [Heap.size_push]
    simp only [List.mem_cons, List.not_mem_nil, or_false] at hbm
    rcases hbm with e | e | e
    · rw [e]; exact Nat.lt_succ_self _
    · rw [e]; exact Nat.lt_succ_of_lt hla
    · rw [e]; exact Nat.lt_succ_of_lt hlx
  · intro C j v s₃ m₃ E' hC hP hn hmx hk ht
    exact wpAny_pure ⟨rfl, s₃.heap, s₃.toks, rfl, fun _ _ e => e⟩
  · intro C j v s₃ m₃ E' hC hP _ hn hmx hk ht
    have hP' : it0[j]? = some v := by simpa using hP
    rw [hb, List.getElem?_map] at hP'
    have hbv : ∃ b, v = Value.bool b := by
      cases e : bs[j]? with
      | none => rw [e] at hP'; cases hP'
      | some b => rw [e] at hP'; exact ⟨b, (Option.some.inj hP').symm⟩
    obtain ⟨b, rfl⟩ := hbv
    obtain ⟨mb, b1, b2⟩ := I1.mod.blt
    have kb : ∀ c o, X.base.get? c = some o → s₃.heap.get? c = some o := fun c o e => hk c o (out c o (I1.bk c o e)) (up c o (I1.bk c o e))
    refine wpAny_Call_Name_kw (Calls.Name_function_global hkind hint (Calls.loadGlobal_builtin (mg := X.mg) (mb := mb) (v := .type "int") ?_ hm ?_ ((b2 "int" (by decide)).trans PySem.Pv.boot_int) ?_))
    · show s₃.heap.Ns X.env.globals X.mg
      rw [I1.ok.glob]
      exact I1.mod.glob.keeps kb
    · show s₃.heap.Ns X.env.builtins mb
      rw [I1.ok.blt]
      exact b1.keeps kb
    · refine PyProof.Rows.callWith_type1 ?_ rfl rfl
      show wpAny _ _ (spliced ((false, eval (.Name x p2) _) :: backTo p3 (starEach [] _))) _ _ s₃
      refine Calls.spliced_cons (wpAny_Name (wpAny_loadName_local (m := m₃) hkind (lookup_relabel_local hx) hn hmx ?_) hdx)
      exact Calls.spliced_nil (call_int_bool ⟨⟨b, _, rfl, rfl⟩, _, _, rfl, fun _ _ e => e⟩)
  · intro d h' tk ys vs hD hL hpl hlen hP hF hk
    have hd0 : s1.heap.get? d = none := by
      cases e : s1.heap.get? d with
      | none => rfl
      | some o => rw [up d o e] at hD; cases hD
    have fr := freshAt I1 hd0
    have kk : ∀ b o, s1.heap.get? b = some o → h'.get? b = some o := fun b o e => hk b o (out b o e) (up b o e)
    have ev : vs = bs.map Value.bool := by
      rw [← hb]
      apply List.ext_getElem?
      intro j
      cases e : vs[j]? with
      | none =>
        have := List.getElem?_eq_none_iff.mp e
        exact (List.getElem?_eq_none (by rw [hlen] at this; simpa using this)).symm
      | some v =>
        have := hP j v e
        simpa using this.symm
    rw [List.filter_eq_self.mpr (fun _ _ => rfl), ev] at hF
    have rl := paired_ints hF
    obtain ⟨n, hpl⟩ := hpl
    subst e2
    refine ⟨.ref d, upd H d (.lst (bs.map fun b => V.int (if b then 1 else 0))), I1.laidN (t' := tk) kk hd0 fr ⟨by simpa using hz, ys.toList, n, rl, by simpa using hpl⟩, rfl, q d fr⟩
end
end Mk
set_option maxHeartbeats 2000000
namespace Mk
open PySem PySem.Spec PyProof.Rows L2 HotX L2H LamX
def isED (a : Addr) (b : Bool) : D → R D
  | .obj x => if x = a then .ok (.bl b) else .bad
  | _ => .bad
section
variable {G : Gx} {B : Bd} {k : Nat} {X : Cx} {pos : Pos}
theorem isHot {a cl : Addr} {oe : Obj} (ec : ExcC X.K cl) (hp : (a, oe) ∈ X.pn) (hz : Zc (.ref cl) none oe) (hf : ∃ vs, oe.data = .fields vs) : CallR X (.builtin "isinstance") (rIsE X.K cl a) := by
  intro pins s σ H xs us Q I r h
  obtain ⟨cv0, cv, b, rfl, hcv, e, q⟩ := h
  cases r with
  | cons r1 r2 =>
    cases r2 with
    | cons r3 r4 =>
      cases r4
      cases r1
      have e3 := hcv _ r3
      subst e3
      obtain ⟨gt, _⟩ := I.pin (a, oe) (List.mem_append_left _ hp)
      obtain ⟨vs, hv⟩ := hf
      have J : PySem.W.InstAt s.heap a oe cl none := by
        obtain ⟨o1, o2, o3, o4⟩ := oe
        obtain ⟨z1, z2⟩ := hz
        dsimp only at z1 z2 hv
        subst z1 z2 hv
        exact ⟨gt, rfl, rfl, trivial⟩
      exact PySem.W.kia_one (PySem.W.handS_kitx_exc ec.hg ec.hk ec.hs ec.hd ec.ha ec.hn ec.ht ec.hm) I.kIn J e (fun z => nomatch z) fun tk => ⟨.bl b, H, I.kept (t' := tk) fun _ _ z => z, rfl, q⟩
theorem e_isE {a cl : Addr} {oe : Obj} {v : V} {cv : Value} {b : Bool} {ce : Expr} {x : Str} {p p1 : Pos} (i : Nat) (O : OkX G B k X) (ec : ExcC X.K cl) (hp : (a, oe) ∈ X.pn) (hz : Zc (.ref cl) none oe) (hf : ∃ vs, oe.data = .fields vs) (hi : G.mg "isinstance" = none)
    (hcv : ∀ u, RelV v u → u = cv) (hk : PySem.W.kitOne X.K (.ref cl) cv = some b) (hc : PE X ce (tC v)) (ho : PE X (.Name x p1) (tO B (eVar i))) (hgi : Gl X "isinstance" := by rfl) (hvi : bootBuiltins "isinstance" = some (.builtin "isinstance") := by decide +kernel)
    (he : starEach [.Name x p1, ce] X.env = (false, eval (.Name x p1) X.env) :: starEach [ce] X.env := by rfl) (he2 : starEach [ce] X.env = (false, eval ce X.env) :: starEach [] X.env := by rfl) (hpl : (backTo pos (starEach [ce] X.env)).any (·.1) = false := by rfl) :
    PE X (.Call (.Name "isinstance" p) [.Name x p1, ce] [] pos) (tE B (op1 (eVar i) (isED a b))) := by
  refine PE.imp (pe_callB (isHot ec hp hz hf) hgi (by rw [O.mg]; exact hi) hvi (pa_cons ho (pa_cons hc pa_nil he2) he) (by decide) (by decide) he hpl) fun σ H Q h => ?_
  refine tUn_of (r := fun x H Q => rIsE X.K cl a [x, v] H Q) (fun x d H F env Q r rx q => ?_) h
  cases d with
  | obj y =>
    simp only [isED] at q
    split at q
    · rename_i ey
      subst ey
      have ex : x = .ref y := by
        rcases rx with rx | ⟨_, _, _, _, _, _, _, z⟩ | ⟨_, _, _, _, _, _, _, z⟩
        · cases rx; rfl
        · cases z
        · cases z
      exact ⟨v, cv, b, by rw [ex], hcv, hk, q.now r (.bl _)⟩
    · exact q.elim
  | _ => exact q.elim
def sumBD : D → R D
  | .lst l => match boolsD l with
    | some bs => .ok (.int (bs.map fun b => if b then 1 else 0).sum)
    | none => .bad
  | _ => .bad
theorem e_sumH {x y : Str} {p0 p1 p2 p3 px py cpos : Pos} {scope : Scope} (i : Nat) (O : OkX G B k X) (hc : HotC X) (hs0 : G.mg "sum" = none) (hi0 : G.mg "int" = none) (hclos : closureFor scope X.env = pure [] := by rfl) (hcell : ∀ z ∈ scope.names, z.2 ≠ .cell := by decide +kernel) (hkind : scope.kind = .function := by rfl)
    (hnames : ∀ z ∈ scope.names, z.2 = .local → scope.names.lookup z.1 = some .local := by decide +kernel) (hx : scope.names.lookup x = some .local := by rfl) (hint : (relabel scope X.env).names.lookup ("int" : Str) = some .globalImplicit := by rfl)
    (hN : X.N[i]? = some y := by rfl) (hv : Vis X.env.scope y := by first | exact Or.inl rfl | exact Or.inr (Or.inl rfl) | exact Or.inr (Or.inr rfl)) (hd : (y == ("__debug__" : Str)) = false := by decide) (hcd : (y == ("__classdict__" : Str)) = false := by decide) (hdx : (x == ("__debug__" : Str)) = false := by decide)
    (hg : Gl X "sum" := by rfl) (hvs : bootBuiltins "sum" = some (.builtin "sum") := by decide +kernel) :
    PE X (.Call (.Name "sum" p0) [.ListComp (.Call (.Name "int" p1) [.Name x p2] [] p3) [⟨.Name x px, .Name y py, [], 0⟩] scope cpos] [] pos) (tE B (op1 (eVar i) sumBD)) := by
  refine PE.imp (pe_callB (sumHot hc) hg (by rw [O.mg]; exact hs0) hvs (pa_cons (lcHot hc hclos hcell hkind hnames hx hint (by rw [O.mg]; exact hi0) hN hv hd hcd hdx) pa_nil rfl)) fun σ H Q ⟨env, F, r, q⟩ => ?_
  rcases q.bind with ⟨d, ed, q⟩ | ⟨c, ed, q⟩
  · cases d with
    | lst l =>
      simp only [sumBD] at q
      cases hb : boolsD l with
      | none => rw [hb] at q; exact q.elim
      | some bs =>
        rw [hb] at q
        cases he : env[i]? with
        | none => simp only [eVar, he] at ed; cases ed
        | some o =>
          cases o with
          | none => simp only [eVar, he] at ed; cases ed
          | some sv =>
            cases sv with
            | fro d' =>
              simp only [eVar, he] at ed
              cases ed
              obtain ⟨v, h1, h2⟩ := r.slot i _ he
              have h2' : Rep B.K F v (.lst l) := h2
              cases h2' with
              | lst h3 h4 h5 =>
                rename_i a xs
                have ex := bools_rep h4 hb
                refine ⟨a, bs, h1, by rw [← ex]; exact r.ext.sub _ _ h3, fun m hm => ⟨m, bs.map fun b => if b then 1 else 0, rfl, SqL.of (by rw [upd_same, List.map_map]; rfl), ?_⟩⟩
                exact q _ _ F (Ext.own r.ext.sub r.ext.nt hm) (.int _)
            | ol l' => simp only [eVar, he] at ed; cases ed
            | od l' => simp only [eVar, he] at ed; cases ed
            | oq l' => simp only [eVar, he] at ed; cases ed
            | ob l' => simp only [eVar, he] at ed; cases ed
            | bh l' => simp only [eVar, he] at ed; cases ed
    | _ => exact q.elim
  · exfalso
    unfold eVar at ed
    split at ed <;> cases ed
end
def WordS (G : Gx) (k : Nat) (x : Str) (ws : List String) : Prop := ∃ (f : Addr) (fd : FuncData) (y : Str), G.mg x = some (.ref f) ∧ PySem.W.keepIn G.K (.ref f) = true ∧ Binds G.K fd [y] [] ∧
  ∀ c ∈ ws, ∀ (A : Around) (outer : List Env) (s : Shared) (H : Hp) (Q : VK) (a : Addr) (oe : Obj), RoomH k A → Hot1 A (a, oe) → PinOk outer H s (a, oe) → Env0 G.P G.w G.K G.mg G.base A outer s H → BindsTo s fd ⟨[.ref a], []⟩ [(y, .ref a)] → Zc (G.cm c) none oe → Tabs G.T H →
    (∀ H', ExtH G.T H H' → Q (.str (Str.ofString c)) H') → codeAny (model G.P G.w) A (.call (.ref f) ⟨[.ref a], []⟩) (CR C8.CX0 outer G.P G.w H s Q C8.E0) s
theorem word_def {G : Gx} {k : Nat} {x y : Str} {ws : List String} {st : Stmt} {f : Addr} {fd : FuncData} {N : List Str} (F : Fun G.K x x st f fd) (S : FnScope N [y] (defScope st)) (hm : G.mg x = some (.ref f)) (hb : Binds G.K fd [y] [])
    (body : ∀ c ∈ ws, ∀ (cdv : Value) (A : Around) (outer : List Env) (s : Shared) (H : Hp) (B : Bd) (a : Addr) (oe : Obj), OkX { G with hot := true } B k (cxH C8.CX0 G.P G.w G.K G.mg G.base N x (defScope st) f cdv A outer s H C8.E0 (a, oe)) →
      HotC (cxH C8.CX0 G.P G.w G.K G.mg G.base N x (defScope st) f cdv A outer s H C8.E0 (a, oe)) → Zc (G.cm c) none oe → (∃ vs, oe.data = .fields vs) →
      ∃ w, w (startE N.length [.obj a]) = R.ok (.rt (.str (Str.ofString c))) ∧ PSs (cxH C8.CX0 G.P G.w G.K G.mg G.base N x (defScope st) f cdv A outer s H C8.E0 (a, oe)) (defBody st) (tS B w)) : WordS G (k + 1) x ws := by
  have kp := F.kp
  obtain ⟨oc, od, kV, doc, pm, an, cdv, ct, osl, efd, lk, hcd⟩ := F.ex
  subst efd
  refine ⟨f, _, y, hm, kp, hb, fun c hc A outer s H Q a oe hr hot hpin e0 hbt hz tab q => ?_⟩
  have KX : G.K.In s.heap := e0.mod.kin.keeps fun b o e => (e0.bs b o e).1
  have lim : s.heap.NoLimit := e0.mod.nolimit.keeps fun b o e => (e0.bs b o e).1
  have hkind : ∀ z ∈ [y].zip [Value.ref a], (defScope st).names.lookup z.1 = some .local ∨ ((defScope st).names.lookup z.1 = some .cell ∧ ((cellsFrom (s.heap.objs.size + 1) (defScope st).names []).lookup z.1).isSome = true) := fun ⟨n, v⟩ hy => by
    rcases S.par n (List.of_mem_zip hy).1 with z | z
    · exact .inl z
    · exact .inr ⟨z, PySem.W.cellsFrom_some _ _ _ (.inl z)⟩
  refine codeAny_call_function hr.depth (KX _ _ lk) rfl S.co S.gen rfl (PySem.W.codeRec_of KX hcd) (hbt _ _ _ _ ?_)
  refine wpAny_newFunctionEnv_cells S.kind hkind fun env he s1 xx => ?_
  subst he
  refine ⟨lim.keeps xx.toInCall.keep, codeAny_func ?_⟩
  let B : Bd := ⟨G.w, G.K, G.T, H, fun _ => none, fun _ _ => False, 0⟩
  have O : OkX { G with hot := true } B k (cxH C8.CX0 G.P G.w G.K G.mg G.base N x (defScope st) f cdv A outer s H C8.E0 (a, oe)) :=
    ⟨rfl, rfl, rfl, rfl, rfl, rfl, rfl, (fun z => Bool.noConfusion (show true = false from z)), S.nd, hr.deeper _, (fun z => Bool.noConfusion (show true = false from z)), fun _ _ _ _ _ _ _ h => by
      obtain ⟨_, _, _, _, _, _, _, _, _, _, _, _, z⟩ := h
      obtain ⟨_, _, _, z⟩ := z
      exact z.elim, rfl⟩
  have hfl : ∃ vs, oe.data = .fields vs := by
    obtain ⟨_, vs, e, _⟩ := hot
    exact ⟨vs, e⟩
  obtain ⟨w, hw, ht⟩ := body c hc cdv A outer s H B a oe O ⟨(a, oe), hot, by show (a, oe) ∈ [(a, oe)]; simp⟩ hz hfl
  have I : Inv (cxH C8.CX0 G.P G.w G.K G.mg G.base N x (defScope st) f cdv A outer s H C8.E0 (a, oe)) [] (L2.start N [.ref a]) H s1 := inv_startH (us := [.ref a]) S hpin e0 rfl (.cons rfl .nil) xx
  have rel : Rel B (startE N.length [.obj a]) (L2.start N [.ref a]) H (fun _ => none) := rel_start (B := B) rfl rfl (.cons (.obj a) .nil) (fun _ _ z => nomatch z) (fun _ _ z => nomatch z) tab
  refine wpAny_mono (ht.run [] s1 (L2.start N [.ref a]) H { nx := fun _ _ => False, rt := Q } I ⟨_, _, rel, ?_⟩) (fun fl s' hs => ?_) fun e s' hs => hs
  · rw [hw]
    intro v H' F' e _ rv
    cases rv with
    | str _ _ => exact q H' e.h
  · cases fl with
    | ret u =>
      obtain ⟨v, σ', H', J, rv, q'⟩ := hs
      exact ⟨v, H', J.os, J.bare, J.base, J.hok, rv, q'⟩
    | next =>
      obtain ⟨σ', H', J, q'⟩ := hs
      exact q'.elim
    | brk =>
      obtain ⟨_, _, _, q'⟩ := hs
      exact False.elim q'
    | cont =>
      obtain ⟨_, _, _, q'⟩ := hs
      exact False.elim q'
end Mk
set_option maxHeartbeats 2000000
namespace Mk
open PySem PySem.Spec PyProof.Rows L2 HotX L2H LamX
def lamN (X : Cx) (A : Around) (outer : List Env) (s : Shared) (H : Hp) (E : XK) (scope : Scope) (f c' : Addr) : Cx :=
  (lamCx X A outer s H E scope f c').tr [] fun e s' => wpAny (model X.prog X.w) (A.deeper (lamEnv X scope s.heap.objs.size f c')) (leaving (lamEnv X scope s.heap.objs.size f c') e) (fun _ s'' => L2N.CX X.prog X.w outer H s E e s'') (fun e' s'' => L2N.CX X.prog X.w outer H s E e' s'') s'
section
variable {X : Cx} {pins : List (Addr × Obj)} {σ : L2.St} {H : Hp} {s : Shared}
theorem actN {Eg : XK} {Ng : List Str} {qg : Str} {sg : Scope} {g f c' : Addr} {cdg pm ctv : Value} {params : Arguments} {body : Expr} {scope : Scope} {k i : Nat} {a : Str} {pn : List (Addr × Obj)} {xe : Value → Shared → Prop} {W : WX} {E : XK} {tb : TE} {p1 p2 : Pos}
    (I : Inv X pins σ H s) (L : LamS X.env.scope scope) (hf : s.heap.get? f = some (PySem.W.kla_obj "<lambda>" (X.env.qual ++ "<lambda>") params body scope (cloFrom X.env.cells scope.names []) pm c' ctv)) (hfn : H f = none) (hfr : f ∉ frs X.stack)
    (hbind : bindArgs (PySem.W.kla_fn "<lambda>" (X.env.qual ++ "<lambda>") params body scope (cloFrom X.env.cells scope.names []) pm (.ref c') ctv) ⟨[], []⟩ = pure [])
    (tk : L2N.Takes ((cxOf C8.CX0 X.prog X.w X.K X.mg X.base Ng qg sg g cdg X.A X.stack s H Eg).tr pn xe) W) (hW : ∀ cls d σ' H', E cls d H' → W cls d σ' H') (hr : Room (k + 1) (X.A.deeper (envOfC qg sg s.heap.objs.size g cdg)))
    (hbody : ∀ (A : Around) (outer : List Env) (s : Shared) (H : Hp), Room k (A.deeper (lamEnv X scope s.heap.objs.size f c')) → PE (lamN X A outer s H E scope f c') body tb)
    (hN : Ng[i]? = some a) (hv : Vis sg a) (hd : (a == ("__debug__" : Str)) = false) (hcd : (a == ("__classdict__" : Str)) = false) :
    PE ((cxOf C8.CX0 X.prog X.w X.K X.mg X.base Ng qg sg g cdg X.A X.stack s H Eg).tr pn xe) (.Call (.Name a p1) [] [] p2)
      (fun τ HZ Q => τ[i]? = some (some (.ref f)) ∧ HZ c' = some (CodeO c' (X.env.qual ++ "<lambda>")) ∧ tb σ HZ Q) := by
  refine ⟨fun pinsZ sZ τ HZ Q IZ h => ?_⟩
  obtain ⟨hs, hc, ht⟩ := h
  refine wpAny_Call_Name_kw (thn ((pe_var (pos := p1) (i := i) hN hv hd hcd).run pinsZ sZ τ HZ (fun v H1 => v = .ref f ∧ H1 = HZ) IZ ⟨.ref f, hs, rfl, rfl⟩) fun u s1 ⟨v, H1, I1, r1, q1⟩ => ?_)
  obtain ⟨ev, eH⟩ := q1
  subst ev
  rw [eH] at I1
  obtain rfl : u = Value.ref f := r1
  have of1 : s1.heap.get? f = some (PySem.W.kla_obj "<lambda>" (X.env.qual ++ "<lambda>") params body scope (cloFrom X.env.cells scope.names []) pm c' ctv) := I1.base.keep f _ hf hfn hfr (fun z => nomatch (show f ∈ ([] : List Addr) from z))
  refine PySem.W.callWith_F0 ⟨_, _, _, _, of1⟩ ?_
  have un : Un (frs X.stack) [] H HZ s.heap s1.heap := I1.base
  obtain ⟨⟨oc, vs, t, hoc, hdc, hvc⟩, _, _⟩ := I1.hok c' _ hc
  have rc : codeAny (model X.prog X.w) (X.A.deeper (envOfC qg sg s.heap.objs.size g cdg)) (.call (.ref f) ⟨[], []⟩) (CR (L2N.CX X.prog X.w) (envOfC qg sg s.heap.objs.size g cdg :: X.stack) X.prog X.w HZ s1 Q E) s1 := by
    refine PySem.W.kla_callFunE hr.depth of1 rfl L.co L.gen rfl ⟨c', oc, vs, t, rfl, hoc, hdc, hvc⟩ ?_
    rw [hbind]
    refine wpAny_pure (wpAny_newFunctionEnv (fun y hy => (L.own y hy).2) (fun y hy => absurd hy (by simp)) (fun h₁ hns hsb => ⟨I1.nolimit.fresh _ hsb, ?_⟩) L.kind)
    show codeAny _ _ (.expr body (lamEnv X scope s1.heap.objs.size f c')) _ _
    have kp : ∀ b o, s1.heap.get? b = some o → h₁.get? b = some o := fun b o e => hsb.extBut b o (Nat.ne_of_lt (Heap.lt_size e)) (Heap.get?_push_of_some _ e)
    have J0 : Inv (lamCx X (X.A.deeper (envOfC qg sg s.heap.objs.size g cdg)) (envOfC qg sg s.heap.objs.size g cdg :: X.stack) s1 HZ E scope f c') [] σ HZ { s1 with heap := h₁, toks := s1.toks + ([] : List (Str × Value)).length } :=
      lam_start2 I L I1.env0 hr.hd un hns kp
    have J : Inv (lamN X (X.A.deeper (envOfC qg sg s.heap.objs.size g cdg)) (envOfC qg sg s.heap.objs.size g cdg :: X.stack) s1 HZ E scope f c') [] σ HZ { s1 with heap := h₁, toks := s1.toks + ([] : List (Str × Value)).length } := J0.toTry _
    refine PySem.W.kla_codeExpr (wpAny_mono ((hbody _ _ s1 HZ (hr.deeper _)).run [] _ _ HZ Q J ht) (fun v s' hq => ?_) fun e s' hq => hq)
    obtain ⟨w', H', J', rv, q⟩ := hq
    exact ⟨w', H', J'.os, J'.bare, J'.base, J'.hok, rv, q⟩
  have hx : Passes (L2N.CX X.prog X.w) ((cxOf C8.CX0 X.prog X.w X.K X.mg X.base Ng qg sg g cdg X.A X.stack s H Eg).tr pn xe) E := L2N.passes_call tk hW
  refine wpAny_call (codeAny_mono rc fun r s' hq => ?_)
  cases r with
  | error e => exact hx pinsZ τ HZ s1 e s' I1 hq
  | ok fl =>
    cases fl with
    | ret u => exact I1.after hq
    | next => exact False.elim hq
    | brk => exact False.elim hq
    | cont => exact False.elim hq
theorem takesNo {X : Cx} : L2N.Takes X (fun _ _ _ _ => False) := fun _ _ x => by
  obtain ⟨_, _, _, _, _, _, _, _, _, _, _, _, _, _, _, _, z⟩ := x
  exact z.elim
end
/-- the def that is handed the lambda: its text -/
structure ToldT (st : Stmt) (y err e word : Str) : Prop where
  body : ∃ p1 p2 p3 p4 p5 p6 p7 p8 p9 p10, defBody st = [.Try [.Return (some (.Call (.Name y p1) [] [] p2)) p3] [.ExceptHandler (some (.Name err p4)) (some e) [.Return (some (.Call (.Name word p5) [.Name e p6] [] p7)) p8] p9] [] [] p10]
  sc : FnScope [y, e] [y] (defScope st)
  ge : (defScope st).names.lookup err = some .globalImplicit
  gw : (defScope st).names.lookup word = some .globalImplicit
  le : (defScope st).names.lookup e = some .local
  ly : (defScope st).names.lookup y = some .local
  dy : (y == ("__debug__" : Str)) = false
  cy : (y == ("__classdict__" : Str)) = false
  de : (e == ("__debug__" : Str)) = false
  ce : (e == ("__classdict__" : Str)) = false
  dr : (err == ("__debug__" : Str)) = false
  dw : (word == ("__debug__" : Str)) = false
/-- what the top says of it -/
structure ToldG (G : Gx) (x : Str) (st : Stmt) (y err e word : Str) (ws : List String) : Prop where
  t : ToldT st y err e word
  fn : FD G x st [y]
  err : ∃ C, G.mg err = some (.ref C) ∧ ∀ c ∈ ws, PySem.W.exmOne G.K (G.cm c) (.ref C) = some true
  ok : ∀ c ∈ ws, SOk (Str.ofString c)
/-- where lambdas are made: the def's code object, its table -/
def LamAt (G : Gx) (X : Cx) : Prop := ∃ c P, X.env.code = .ref c ∧ TabB G.base G.mg c P ∧ (P, X.env.qual ++ "<lambda>") ∈ G.T ∧ ∀ p ∈ G.T, p.1 = P → p.2 = X.env.qual ++ "<lambda>"
def dropOwn : En → En := fun env => env.map fun o => match o with
  | some (.fro d) => some (.fro d)
  | _ => none
/-- .. but a house may be looked at -/
def dropH : En → En
  | [] => []
  | some (.fro d) :: l => some (.fro d) :: dropH l
  | some (.ob sh) :: l => some (.bh sh) :: dropOwn l
  | _ :: l => none :: dropH l
def toldR (ws : List String) : R D → R D
  | .ok d => .ok d
  | .exc c => if c ∈ ws then .ok (.str (Str.ofString c)) else .bad
  | .bad => .bad
def toldE (ws : List String) (f : En → R D) : En → R D := fun env => toldR ws (f (dropH env))
theorem dropOwn_at {env : En} {i : Nat} {s : SV} (h : (dropOwn env)[i]? = some (some s)) : ∃ d, s = .fro d ∧ env[i]? = some (some (.fro d)) := by
  unfold dropOwn at h
  rw [List.getElem?_map] at h
  cases q : env[i]? with
  | none => rw [q] at h; cases h
  | some o =>
    rw [q] at h
    cases o with
    | none => cases h
    | some sv =>
      cases sv with
      | fro d =>
        have := Option.some.inj (Option.some.inj h)
        exact ⟨d, this.symm, rfl⟩
      | ol l => cases h
      | od l => cases h
      | oq l => cases h
      | ob l => cases h
      | bh l => cases h
theorem dropH_len : ∀ env : En, (dropH env).length = env.length
  | [] => rfl
  | o :: l => by
    have st : ∀ o' : Option SV, dropH (o :: l) = o' :: dropH l → (dropH (o :: l)).length = (o :: l).length := fun o' e => by rw [e, List.length_cons, List.length_cons, dropH_len l]
    cases o with
    | none => exact st none rfl
    | some sv =>
      cases sv with
      | fro d => exact st (some (.fro d)) rfl
      | ol d => exact st none rfl
      | od d => exact st none rfl
      | oq d => exact st none rfl
      | bh d => exact st none rfl
      | ob sh =>
        show (some (SV.bh sh) :: dropOwn l).length = _
        unfold dropOwn
        rw [List.length_cons, List.length_cons, List.length_map]
/-- one house at most -/
theorem dropH_one : ∀ env : En, (∀ (i : Nat) (s : SV), (dropH env)[i]? = some (some s) → ∃ d, s = .fro d ∧ env[i]? = some (some (.fro d))) ∨
    ∃ (i0 : Nat) (sh : HSt), env[i0]? = some (some (.ob sh)) ∧ ∀ (i : Nat) (s : SV), (dropH env)[i]? = some (some s) → (∃ d, s = .fro d ∧ env[i]? = some (some (.fro d))) ∨ (i = i0 ∧ s = .bh sh)
  | [] => .inl fun i s h => by simp [dropH] at h
  | o :: l => by
    have step : ∀ o' : Option SV, dropH (o :: l) = o' :: dropH l → (∀ s, o' = some s → ∃ d, s = .fro d ∧ o = some (.fro d)) → ((∀ (i : Nat) (s : SV), (dropH (o :: l))[i]? = some (some s) → ∃ d, s = .fro d ∧ (o :: l)[i]? = some (some (.fro d))) ∨
        ∃ (i0 : Nat) (sh : HSt), (o :: l)[i0]? = some (some (.ob sh)) ∧ ∀ (i : Nat) (s : SV), (dropH (o :: l))[i]? = some (some s) → (∃ d, s = .fro d ∧ (o :: l)[i]? = some (some (.fro d))) ∨ (i = i0 ∧ s = .bh sh)) := fun o' e ho => by
      rw [e]
      rcases dropH_one l with ih | ⟨i0, sh, h0, ih⟩
      · refine .inl fun i s h => ?_
        cases i with
        | zero =>
          obtain ⟨d, e1, e2⟩ := ho s (Option.some.inj h)
          exact ⟨d, e1, by rw [e2]; rfl⟩
        | succ i => exact ih i s h
      · refine .inr ⟨i0 + 1, sh, h0, fun i s h => ?_⟩
        cases i with
        | zero =>
          obtain ⟨d, e1, e2⟩ := ho s (Option.some.inj h)
          exact .inl ⟨d, e1, by rw [e2]; rfl⟩
        | succ i =>
          rcases ih i s h with z | ⟨z1, z2⟩
          · exact .inl z
          · exact .inr ⟨by rw [z1], z2⟩
    cases o with
    | none => exact step none rfl fun s h => by cases h
    | some sv =>
      cases sv with
      | fro d => exact step (some (.fro d)) rfl fun s h => ⟨d, (Option.some.inj h).symm, rfl⟩
      | ol d => exact step none rfl fun s h => by cases h
      | od d => exact step none rfl fun s h => by cases h
      | oq d => exact step none rfl fun s h => by cases h
      | bh d => exact step none rfl fun s h => by cases h
      | ob sh =>
        refine .inr ⟨0, sh, rfl, fun i s h => ?_⟩
        cases i with
        | zero =>
          have : SV.bh sh = s := Option.some.inj (Option.some.inj h)
          exact .inr ⟨rfl, this.symm⟩
        | succ i =>
          obtain ⟨d, e1, e2⟩ := dropOwn_at (env := l) h
          exact .inl ⟨d, e1, e2⟩
section
variable {G : Gx} {B : Bd} {k : Nat} {X : Cx}
theorem wordH {j : Nat} {word e y x : Str} {ws : List String} {a : Addr} {oe : Obj} {c : String} {sg : Scope} {g : Addr} {cdg : Value} {A : Around} {outer : List Env} {s0 : Shared} {H0 : Hp} {pn : List (Addr × Obj)} {p5 p6 p7 : Pos} (W : WordS G j word ws) (hc : c ∈ ws) (hr : RoomH j (A.deeper (envOfC x sg s0.heap.objs.size g cdg)))
    (hz : L2N.Zn (G.cm c) none oe) (hf : ∃ vs, oe.data = .fields vs) (gw : sg.names.lookup word = some .globalImplicit) (le : sg.names.lookup e = some .local) (de : (e == ("__debug__" : Str)) = false) (ce : (e == ("__classdict__" : Str)) = false) (dw : (word == ("__debug__" : Str)) = false) :
    PE ((cxOf C8.CX0 G.P G.w G.K G.mg G.base [y, e] x sg g cdg A outer s0 H0 C8.E0).nox.suite a ((a, oe) :: pn)) (.Call (.Name word p5) [.Name e p6] [] p7) (fun σ H Q => σ[1]? = some (some (.ref a)) ∧ Tabs G.T H ∧ ∀ H', ExtH G.T H H' → Q (.str (Str.ofString c)) H') := by
  refine ⟨fun pins s σ H Q I h => ?_⟩
  obtain ⟨h1, h2, h3⟩ := h
  obtain ⟨f, fd, y', hm, hk, hb, run⟩ := W
  refine wpAny_Call_Name_kw (ld_glob I gw hm ?_ dw)
  refine PySem.W.callWith_K (h₀ := G.base) I.ok.mod.kin hk (thn ((pa_cons (pe_var (i := 1) rfl (.inl le) de ce) pa_nil rfl).run p7 pins s σ H (fun vs H1 => vs = [.ref a] ∧ H1 = H) I ⟨.ref a, h1, rfl, rfl⟩) fun us s1 ⟨vs, H1, I1, r, ev, eH⟩ => ⟨I1.kIn, ?_⟩) rfl rfl
  subst ev
  rw [eH] at I1
  have eu : us = [.ref a] := by
    cases r with
    | cons r1 r2 => cases r2; cases r1; rfl
  subst eu
  have P1 := I1.pin (a, oe) (List.mem_append_left _ List.mem_cons_self)
  have hpin : PinOk (envOfC x sg s0.heap.objs.size g cdg :: outer) H s1 (a, oe) := ⟨P1.1, P1.2.1, fun hmm => (List.mem_cons.mp (I1.stkSub a hmm)).elim P1.2.2.1 P1.2.2.2.1, P1.2.2.2.2⟩
  obtain ⟨vs, hv⟩ := hf
  have hot : Hot1 ((A.deeper (envOfC x sg s0.heap.objs.size g cdg)).mark (some (.ref a))) (a, oe) := ⟨rfl, vs, hv, hz.2.2 vs hv⟩
  have bt := hb s1 [.ref a] I1.kIn rfl
  refine wpAny_call (codeAny_mono (run c hc _ _ s1 H Q a oe ⟨hr.dp, hr.un⟩ hot hpin I1.env0 bt hz.zc h2 h3) fun r s' hq => ?_)
  cases r with
  | error e => exact (show False from hq).elim
  | ok fl =>
    cases fl with
    | ret u => exact I1.after hq
    | next => exact False.elim hq
    | brk => exact False.elim hq
    | cont => exact False.elim hq
theorem OkX.lam {E : XK} {A : Around} {outer : List Env} {s : Shared} {H F : Hp} {scope : Scope} {f c' : Addr} [Calm G] (O : OkX G B k X) {j : Nat} (hr : Room j (A.deeper (lamEnv X scope s.heap.objs.size f c'))) (wx : String → Hp → Prop) (hE : ∀ c H', wx c H' → E (G.cm c) none H') :
    OkX G ⟨B.w, B.K, B.T, H, F, wx, hs⟩ j (lamN X A outer s H E scope f c') where
  K := O.K
  prog := O.prog
  w := O.w
  GK := O.GK
  mg := O.mg
  base := O.base
  T := O.T
  calm := fun _ => rfl
  nd := O.nd
  room := L2H.roomH_of hr
  hd := fun _ => hr.hd
  Bw := O.Bw
  pass := by
    refine L2N.passes_call (W := fun cls d _ H => EB G ⟨B.w, B.K, B.T, H, F, wx, hs⟩ cls d H) ?_ fun cls d σ H z => z
    refine L2N.Takes.imp (W := fun cls d _ H => E cls d H) (L2N.takes_of rfl rfl rfl rfl) fun cls d σ H z => ?_
    obtain ⟨c, e1, e2, e3⟩ := z
    rw [e1, e2]
    exact hE c H e3
theorem e_told {j : Nat} {x y err e word : Str} {ws : List String} {st : Stmt} {f : En → R D} {params : Arguments} {body : Expr} {scope : Scope} {p lpos pos : Pos} [Calm G] (O : OkX G B k X) (la : LamAt G X) (T : ToldG G x st y err e word ws) (W : WordS G j word ws) (hj : j + 1 ≤ k) (m : Nat) (hm : m + 2 ≤ k)
    (hbody : ∀ (A : Around) (outer : List Env) (s : Shared) (H : Hp) (E : XK) (f0 c' : Addr) (B' : Bd), OkX G B' m (lamN X A outer s H E scope f0 c') → PE (lamN X A outer s H E scope f0 c') body (tE B' f)) (L : lamSB X.env.scope scope = true := by kernel_rfl) (hg : Gl X x := by rfl) (hdb : (x == ("__debug__" : Str)) = false := by decide)
    (hdef : defaultsOf params X.env = ([], []) := by rfl) (hbind : ∀ (q : Str) (cl : List (Str × Addr)) (pm cv ctv : Value), bindArgs (PySem.W.kla_fn "<lambda>" q params body scope cl pm cv ctv) ⟨[], []⟩ = pure [] := by intro _ _ _ _ _; rfl) :
    PE X (.Call (.Name x p) [.Lambda params body scope lpos] [] pos) (tE B (toldE ws f)) := by
  refine ⟨fun pins s σ H Q I ⟨env, F, rel, q⟩ => ?_⟩
  obtain ⟨c, P, hcode, TB, hmT, hu⟩ := la
  obtain ⟨⟨⟨p1, p2, p3, p4, p5, p6, p7, p8, p9, p10, hbd⟩, Sg, ge, gw, le, ly, dy, cy, de, ce, dr, dw⟩, ⟨g, fd, Fg, gm, gb⟩, ⟨C, gC, exm⟩, sokW⟩ := T
  have kg := Fg.kp
  obtain ⟨oc, od, kV, doc, pm, an, cdv, ct, osl, efd, lk, hcd⟩ := Fg.ex
  subst efd
  have L' := lamS_by L
  have hT : Tabs G.T H := by rw [← O.T]; exact rel.tab
  refine wpAny_Call_Name_kw (ld_glob I hg (by rw [O.mg]; exact gm) ?_ hdb)
  refine PySem.W.callWith_K (h₀ := X.base) I.ok.mod.kin (by rw [O.GK]; exact kg) ?_ (by rfl) (by rfl)
  show wpAny _ _ (spliced ((false, eval (.Lambda params body scope lpos) X.env) :: backTo pos (starEach [] X.env))) _ _ s
  refine Calls.spliced_cons (lam_make2 I (by rw [O.base, O.mg]; exact TB) hcode hmT hu hT hdef (L'.has I.ok) fun f0 c' pm' ctv H1 s' I1 eN T1 hf hfn hfr hco => ?_)
  refine Calls.spliced_nil ⟨I1.kIn, ?_⟩
  -- from H on to H1
  have x1 : Ext B.T H F H1 F := ⟨eN, fun _ => by rw [O.T]; exact T1, Same.refl F, fun b o h => eN b o (rel.ext.sub b o h) fun ps z => rel.ext.nt b ps (by rw [← z]; exact h), rel.ext.nt, fun _ _ h => .inl h⟩
  have rel1 := rel.mono x1
  have rc : codeAny (model X.prog X.w) X.A (.call (.ref g) ⟨[.ref f0], []⟩) (CR C8.CX0 X.stack X.prog X.w H1 s' Q C8.E0) s' := by
    refine run_ofS (k := m + 1) (N := [y, e]) (ps := [y]) (us := [.ref f0]) (vs := [.ref f0]) (by rw [O.GK]; exact lk) (by rw [O.GK]; exact hcd) Sg (O.roomX.mono hm) I1.env0 (gb s' [.ref f0] (by rw [← O.GK]; exact I1.kIn) rfl) (.cons rfl .nil) rfl fun hr' => ?_
    have hrw : RoomH j (X.A.deeper (envOfC x (defScope st) s'.heap.objs.size g cdv)) := (L2H.RoomH.deeper (k := j) (O.room.mono hj) _)
    let EE : XK := fun cls d H' => ∃ c0, cls = G.cm c0 ∧ d = none ∧ c0 ∈ ws ∧ Tabs G.T H' ∧ ∀ H'', ExtH G.T H' H'' → Q (.str (Str.ofString c0)) H''
    have act : ∀ (W : WX) (pn : List (Addr × Obj)) (xe : Value → Shared → Prop) (E : XK) (tb : TE), L2N.Takes ((cxOf C8.CX0 X.prog X.w X.K X.mg X.base [y, e] x (defScope st) g cdv X.A X.stack s' H1 C8.E0).tr pn xe) W → (∀ cls d σ' H', E cls d H' → W cls d σ' H') →
        (∀ (A : Around) (outer : List Env) (s : Shared) (H : Hp), Room m (A.deeper (lamEnv X scope s.heap.objs.size f0 c')) → PE (lamN X A outer s H E scope f0 c') body tb) →
        PE ((cxOf C8.CX0 X.prog X.w X.K X.mg X.base [y, e] x (defScope st) g cdv X.A X.stack s' H1 C8.E0).tr pn xe) (.Call (.Name y p1) [] [] p2) (fun τ HZ Q => τ[0]? = some (some (.ref f0)) ∧ HZ c' = some (CodeO c' (X.env.qual ++ "<lambda>")) ∧ tb σ HZ Q) :=
      fun W pn xe E tb tk hW hbd => actN (i := 0) I1 L' hf hfn hfr (hbind _ _ _ _ _) tk hW hr' hbd rfl (.inl ly) dy cy
    rw [hbd]
    refine ⟨_, PSs.nox (pss_one (L2N.ps_try_as (X := (cxOf C8.CX0 X.prog X.w X.K X.mg X.base [y, e] x (defScope st) g cdv X.A X.stack s' H1 C8.E0).nox) (c := .ref C) (i := 1) (Wout := fun _ _ _ _ => False)
      (tb := fun W D τ H => (∀ cls d σ' H', EE cls d H' → W cls d σ' H') ∧ τ[0]? = some (some (.ref f0)) ∧ H c' = some (CodeO c' (X.env.qual ++ "<lambda>")) ∧ H = H1 ∧ ∀ v H', (∃ d F', f (dropH env) = .ok d ∧ Ext B.T H1 F H' F' ∧ Rep B.K F' v d) → D.rt v H')
      (ts := fun a cls d D τ H => (∃ σ' : L2.St, τ = σ'.set 1 (some (.ref a))) ∧ ∃ c0, cls = G.cm c0 ∧ d = none ∧ c0 ∈ ws ∧ Tabs G.T H ∧ ∀ H'', ExtH G.T H H'' → D.rt (.str (Str.ofString c0)) H'')
      rfl rfl Sg.nd rfl le ⟨ge, dr, .inl (by rw [show (cxOf C8.CX0 X.prog X.w X.K X.mg X.base [y, e] x (defScope st) g cdv X.A X.stack s' H1 C8.E0).nox.mg = X.mg from rfl, O.mg]; exact gC)⟩ takesNo (fun W pn xe tk _ => ?_) (fun a oe cls d pn hz hfl => ?_))), ?_⟩
    · refine ⟨fun pinsZ sZ τ HZ D IZ h => ?_⟩
      obtain ⟨hW, h1, h2, h3, h4⟩ := h
      have tb0 : ∀ (A : Around) (outer : List Env) (s : Shared) (H : Hp), Room m (A.deeper (lamEnv X scope s.heap.objs.size f0 c')) → PE (lamN X A outer s H EE scope f0 c') body (fun σ0 H0 Q0 => σ0 = σ ∧ H0 = H1 ∧ ∀ v H', (∃ d F', f (dropH env) = .ok d ∧ Ext B.T H1 F H' F' ∧ Rep B.K F' v d) → Q0 v H') := by
        intro A outer s9 H9 hr
        refine ⟨fun pins2 s2 σ2 H2 Q2 I2 ⟨e1, e2, e3⟩ => ?_⟩
        subst e1
        subst e2
        -- the lambda's body stands over its own ground
        have one : ∃ hs : Addr, ∀ (i : Nat) (sv : SV), (dropH env)[i]? = some (some sv) → (∃ d, sv = .fro d ∧ env[i]? = some (some (.fro d))) ∨ ∃ sh dx v1 v2 ha hb xs ys, sv = .bh sh ∧ σ2[i]? = some (some (.ref hs)) ∧ HsAt B.K H2 F hs dx v1 v2 ha hb xs ys sh := by
          rcases dropH_one env with h0 | ⟨i0, sh, h0, h1⟩
          · exact ⟨0, fun i sv hi => .inl (h0 i sv hi)⟩
          · obtain ⟨v, k1, hq, dx, v1, v2, ha, hb, xs, ys, ke, hs, _⟩ := rel1.slot i0 _ h0
            refine ⟨hq, fun i sv hi => ?_⟩
            rcases h1 i sv hi with z | ⟨z1, z2⟩
            · exact .inl z
            · rw [z1]
              exact .inr ⟨sh, dx, v1, v2, ha, hb, xs, ys, z2, by rw [k1, ke], hs⟩
        obtain ⟨hs, one⟩ := one
        let B' : Bd := ⟨B.w, B.K, B.T, H2, F, fun c0 H' => ∃ z : c0 ∈ ws, Tabs G.T H' ∧ ∀ H'', ExtH G.T H' H'' → Q (.str (Str.ofString c0)) H'', hs⟩
        have O' : OkX G B' m (lamN X A outer s9 H9 EE scope f0 c') := by
          have := OkX.lam (hs := hs) (E := EE) (A := A) (outer := outer) (s := s9) (H := H9) (F := F) (scope := scope) (f := f0) (c' := c') O hr (fun c0 H' => ∃ z : c0 ∈ ws, Tabs G.T H' ∧ ∀ H'', ExtH G.T H' H'' → Q (.str (Str.ofString c0)) H'') (fun c0 H' ⟨z, z1, z2⟩ => ⟨c0, rfl, rfl, z, z1, z2⟩)
          exact ⟨this.K, this.prog, this.w, this.GK, this.mg, this.base, this.T, this.calm, this.nd, this.room, this.hd, this.pass, this.Bw⟩
        refine (hbody A outer s9 H9 EE f0 c' B' O').run pins2 s2 _ _ Q2 I2 ⟨dropH env, F, ?_, ?_⟩
        · refine ⟨.stay rel1.ext.sub rel1.ext.nt, rel1.tab, by rw [dropH_len]; exact rel1.len, fun i sv hi => ?_, fun i j' sv sv' _ hi _ o1 _ => ?_⟩
          · rcases one i sv hi with ⟨d, rfl, hd⟩ | ⟨sh, dx, v1, v2, ha, hb, xs, ys, rfl, k1, k2⟩
            · exact rel1.slot i _ hd
            · exact ⟨_, k1, dx, v1, v2, ha, hb, xs, ys, rfl, k2⟩
          · rcases one i sv hi with ⟨d, rfl, hd⟩ | ⟨sh, dx, v1, v2, ha, hb, xs, ys, rfl, k1, k2⟩ <;> cases o1
        · have q' : Good B H F Q (toldR ws (f (dropH env))) := q
          cases hfd : f (dropH env) with
          | ok d => exact fun v H' F' x2 rv => e3 v H' ⟨d, F', hfd, x2, rv⟩
          | exc c0 =>
            have q' : Good B H F Q (if c0 ∈ ws then .ok (.str (Str.ofString c0)) else .bad) := by
              rw [hfd] at q'
              exact q'
            intro H' x2
            by_cases hc0 : c0 ∈ ws
            · rw [if_pos hc0] at q'
              refine ⟨hc0, by rw [← O.T]; exact x2.tabs rel1.tab, fun H'' x3 => ?_⟩
              have x4 : ExtH B.T _ H'' := x2.trans (by rw [O.T]; exact x3)
              exact q' _ H'' F (x1.trans ⟨x4.same, x4.tabs, Same.refl F, fun b o hb => x4.same b o (rel1.ext.sub b o hb) fun ps z => rel1.ext.nt b ps (by rw [← z]; exact hb), rel1.ext.nt, fun _ _ h => .inl h⟩) (.str _ (sokW c0 hc0))
            · rw [if_neg hc0] at q'; exact q'.elim
          | bad => rw [hfd] at q'; exact q'.elim
      have hp := act W pn xe EE _ tk hW tb0
      have hq := pss_one (ps_ret (pos := p3) hp)
      exact hq.run pinsZ sZ τ HZ D IZ ⟨h1, h2, rfl, h3, h4⟩
    · refine ⟨fun pinsZ sZ τ HZ D IZ h => ?_⟩
      obtain ⟨⟨σ1, e0⟩, c0, e1, e2, hc0, h2, h3⟩ := h
      have h1 : τ[1]? = some (some (.ref a)) := by
        have hl : τ.length = 2 := IZ.len
        rw [e0, List.length_set] at hl
        rw [e0, List.getElem?_set_self (by omega)]
      subst e1
      subst e2
      obtain ⟨oP, ow, oK, omg, ob⟩ := And.intro O.prog (And.intro O.w (And.intro O.GK (And.intro O.mg O.base)))
      revert IZ
      rw [oP, ow, oK, omg, ob]
      intro IZ
      have hq := pss_one (ps_ret (pos := p8) (wordH (outer := X.stack) (H0 := H1) (s0 := s') (p5 := p5) (p6 := p6) (p7 := p7) (pn := pn) (y := y) (a := a) W hc0 hrw hz hfl gw le de ce dw))
      exact hq.run pinsZ sZ τ HZ D IZ ⟨h1, h2, h3⟩
    · refine ⟨fun cls d σ' H' ⟨c0, e1, e2, hc0, h2, h3⟩ => ⟨true, by rw [e1, show (cxOf C8.CX0 X.prog X.w X.K X.mg X.base [y, e] x (defScope st) g cdv X.A X.stack s' H1 C8.E0).nox.K = X.K from rfl, O.GK]; exact exm c0 hc0, fun _ a na => ?_, fun z => Bool.noConfusion z⟩, rfl, hco, rfl, fun v H' ⟨d, F', hd, x2, rv⟩ => ?_⟩
      · exact ⟨⟨σ', rfl⟩, c0, e1, e2, hc0, h2, h3⟩
      · have q' : Good B H F Q (toldR ws (f (dropH env))) := q
        rw [hd] at q'
        exact q' v H' F' (x1.trans x2) rv
  refine wpAny_call (codeAny_mono rc fun r s2 hq => ?_)
  cases r with
  | error e => exact (show False from hq).elim
  | ok fl =>
    cases fl with
    | ret u => exact I1.after hq
    | next => exact False.elim hq
    | brk => exact False.elim hq
    | cont => exact False.elim hq
end
end Mk
set_option maxHeartbeats 2000000
namespace Mk
open PySem PySem.Spec PyProof.Rows L2 HotX L2H LamX
theorem sSeq_nx {f g : En → R Out} {env env' : En} (h : f env = .ok (.nx env')) : sSeq f g env = g env' := by
  unfold sSeq
  rw [h]
  rfl
def lamQ (x : Str) : Str := (x ++ ".<locals>.") ++ "<lambda>"
def mkG (P : Program) (w : World) (K : PySem.W.Frag) (mg : Str → Option Value) (base : Heap) (tf : List He.Defn) : Gx :=
  ⟨P, w, K, mg, base, tf.map fun p => ((He.cT K p).2, lamQ p.1), fun c => .ref (He.ga K (Str.ofString c)), false⟩
instance {P : Program} {w : World} {K : PySem.W.Frag} {mg : Str → Option Value} {base : Heap} {tf : List He.Defn} : Calm (mkG P w K mg base tf) := ⟨rfl⟩
/-- a def with lambdas in it -/
def FDL (G : Gx) (x : Str) (st : Stmt) (ps : List Str) : Prop := ∃ (a : Addr) (fd : FuncData), Fun G.K x x st a fd ∧ G.mg x = some (.ref a) ∧ Binds G.K fd ps [] ∧
  ∃ c P, fd.code = .ref c ∧ TabB G.base G.mg c P ∧ (P, lamQ x) ∈ G.T ∧ ∀ p ∈ G.T, p.1 = P → p.2 = lamQ x
section
variable {P : Program} {w : World} {K : PySem.W.Frag} {mg : Str → Option Value} {base h : Heap} {tf : List He.Defn}
theorem fun_of {x : Str} {st : Stmt} {f : Addr} {fd : FuncData} (F : FunD K x x (defArgs st) (defBody st) (defScope st) [] [] f fd) : Fun K x x st f fd := by
  obtain ⟨oc, od, dV, kV, doc, pm, an, cdv, ct, osl, e1, e2, e3, e4, _⟩ := F.ex
  refine ⟨⟨oc, od, kV, doc, pm, an, cdv, ct, osl, ?_, e2, e3⟩, F.kp⟩
  rcases e4 with ⟨_, e5⟩ | ⟨e5, _⟩
  · rw [e1, e5]
  · exact (e5 rfl).elim
theorem g_int {x : Str} {i : Int} (X : K.In h) (G : h.Ns mainGlobals mg) (c : (He.Fa.int x i).ok K = true) : GC (mkG P w K mg base tf) x (.int i) := by
  obtain ⟨t, e⟩ := He.int_ok X G c
  exact ⟨_, .int i, e, ⟨t, rfl⟩, fun F => .int i⟩
theorem g_str {x z : Str} (hz : SOk z) (X : K.In h) (G : h.Ns mainGlobals mg) (c : (He.Fa.str x z).ok K = true) : GC (mkG P w K mg base tf) x (.str z) := by
  obtain ⟨t, e⟩ := He.str_ok X G c
  exact ⟨_, .str z, e, ⟨t, rfl⟩, fun F => .str z hz⟩
theorem g_exc {x : String} (X : K.In h) (G : h.Ns mainGlobals mg) (c : (He.Fa.glo (Str.ofString x)).ok K = true) (c2 : (He.Fa.exc (Str.ofString x)).ok K = true) : ∃ C, ClsF (mkG P w K mg base tf) x C := by
  obtain ⟨e1, e2, e3, e4⟩ := He.exc_ok c2
  exact ⟨_, rfl, He.glo_ok X G c, e2, e1, e3, e4⟩
def scV : D → V
  | .bl b => .bl b
  | .int i => .int i
  | .str s => .str s
  | _ => .non
def scOk : D → Bool
  | .non => true
  | .bl _ => true
  | .int _ => true
  | .str s => sokB s
  | _ => false
theorem scRep {F : Hp} : ∀ {ds : List D}, ds.all scOk = true → RepL K F (ds.map scV) ds
  | [], _ => .nil
  | d :: ds, h => by
    rw [List.all_cons, Bool.and_eq_true] at h
    refine .cons ?_ (scRep h.2)
    have h1 := h.1
    cases d with
    | non => exact .non
    | bl b => exact .bl b
    | int i => exact .int i
    | str s => exact .str s (sok_of h1)
    | _ => cases h1
def tupB (K : PySem.W.Frag) (x : Str) (ds : List D) : Bool := ds.all scOk && (decide (ds.length ≤ 1000) && (match K.lookup (He.ga K x) with
  | some ⟨.type c, _, .seq its _, _⟩ => decide (c = "tuple") && He.relAll (ds.map scV) its.toList
  | _ => false))
theorem g_tupK {x : Str} {ds : List D} (X : K.In h) (G : h.Ns mainGlobals mg) (c : (He.Fa.glo x).ok K = true) (e : tupB K x ds = true) : GC (mkG P w K mg base tf) x (.tup ds) := by
  obtain ⟨e1, e⟩ := He.ba e
  obtain ⟨e2, e3⟩ := He.ba e
  have hl : ds.length ≤ 1000 := of_decide_eq_true e2
  refine ⟨_, .ref (He.ga K x), He.glo_ok X G c, rfl, fun F => ?_⟩
  cases q : K.lookup (He.ga K x) with
  | none => rw [q] at e3; cases e3
  | some o =>
    obtain ⟨oc, od, dt, osl⟩ := o
    rw [q] at e3
    cases oc with
    | type cc =>
      cases dt with
      | seq its n =>
        obtain ⟨e4, e5⟩ := He.ba e3
        have ec : cc = "tuple" := of_decide_eq_true e4
        subst ec
        have rv := He.relAll_ok e5
        have hs : its.size ≤ sizeLine := by
          have e6 : ds.length = its.toList.length := by rw [← rv.length, List.length_map]
          have e8 : its.toList.length = its.size := Array.length_toList
          have e7 := sizeLine_eq
          omega
        exact .tup (.inr ⟨_, its, n, q, rfl, rfl, hs, rv⟩) (scRep e1) (by have e7 := sizeLine_eq; omega)
      | _ => cases e3
    | _ => cases dt <;> cases e3
/-- tables of different defs are different -/
def apartB (tf : List He.Defn) (K : PySem.W.Frag) : Bool := tf.all fun p => tf.all fun q => !((He.cT K p).2 == (He.cT K q).2) || decide (p.1 = q.1)
theorem g_def {x : Str} {st : Stmt} {ps : List Str} (X : K.In h) (G : h.Ns mainGlobals mg) (c : (He.Fa.glo x).ok K = true) (d : ∃ fd, FunD K x x (defArgs st) (defBody st) (defScope st) [] [] (He.fAd K (x, none)) fd)
    (b : ∀ (kV doc pm : Value) (an : Option Addr) (cdv ct : Value) (us : List Value), us.length = ps.length → bindArgs (PySem.W.fnOf x x (defArgs st) (defBody st) (defScope st) .none kV doc pm an cdv ct) ⟨us, []⟩ = pure (ps.zip us)) : FD (mkG P w K mg base tf) x st ps := by
  obtain ⟨fd, F⟩ := d
  exact ⟨_, fd, fun_of F, He.glo_ok X G c, (fun_of F).binds (fun kV doc pm an cdv ct us hl => b kV doc pm an cdv ct us hl)⟩
theorem g_defL {x : Str} {st : Stmt} {ps : List Str} (X : K.In h) (G : h.Ns mainGlobals mg) (c : (He.Fa.glo x).ok K = true) (d : ∃ fd, FunD K x x (defArgs st) (defBody st) (defScope st) [] [] (He.fAd K (x, none)) fd)
    (b : ∀ (kV doc pm : Value) (an : Option Addr) (cdv ct : Value) (us : List Value), us.length = ps.length → bindArgs (PySem.W.fnOf x x (defArgs st) (defBody st) (defScope st) .none kV doc pm an cdv ct) ⟨us, []⟩ = pure (ps.zip us))
    (ap : apartB tf K = true) (hx : (x, none) ∈ tf) (tb : ∀ p ∈ tf.map (He.cT K), TabB base mg p.1 p.2) : FDL (mkG P w K mg base tf) x st ps := by
  obtain ⟨fd, F⟩ := d
  have F' := fun_of F
  obtain ⟨oc, od, kV, doc, pm, an, cdv, ct, osl, efd, lk, hcd⟩ := F'.ex
  obtain ⟨cc, hcc⟩ := He.codeIn_ref hcd
  have ecode : fd.code = .ref cc := by rw [efd]; exact hcc
  have ec : (He.cT K (x, none)).1 = cc := He.codeOf_eq lk ecode
  refine ⟨_, fd, F', He.glo_ok X G c, F'.binds (fun kV doc pm an cdv ct us hl => b kV doc pm an cdv ct us hl), (He.cT K (x, none)).1, (He.cT K (x, none)).2, by rw [ec]; exact ecode, tb _ (List.mem_map.mpr ⟨_, hx, rfl⟩), List.mem_map.mpr ⟨(x, none), hx, rfl⟩, fun p hp e => ?_⟩
  obtain ⟨q, hq, rfl⟩ := List.mem_map.mp hp
  have h1 := List.all_eq_true.mp (List.all_eq_true.mp ap q hq) (x, none) hx
  have e' : (He.cT K q).2 = (He.cT K (x, none)).2 := e
  rw [e', beq_self_eq_true] at h1
  have h2 : q.1 = x := by simpa using h1
  show lamQ q.1 = lamQ x
  rw [h2]
def excB (K : PySem.W.Frag) (a : Addr) : Bool := decide (PySem.W.findIn K (.ref a) "__getattribute__" = some (some (.builtin "BaseException.__getattribute__"))) && (decide (PySem.W.findIn K (.ref a) "__getattr__" = some none) && (decide (PySem.W.subIn K (.ref a) (.type "BaseException") = some true) &&
  (PySem.W.hasDictIn K a && (decide (PySem.W.findIn K (.ref a) "__class__" = some (some (.builtin "object.__class__"))) && (decide (PySem.W.specialIn K (.builtin "object.__class__") "__get__" = some (some (.builtin "getset_descriptor.__get__"))) && (decide (PySem.W.takesIn K (.builtin "object.__class__") = some true) && decide (PySem.W.mroIn K a (.type "object") = some true)))))))
theorem excB_ok {a : Addr} (e : excB K a = true) : ExcC K a := by
  obtain ⟨e1, e⟩ := He.ba e
  obtain ⟨e2, e⟩ := He.ba e
  obtain ⟨e3, e⟩ := He.ba e
  obtain ⟨e4, e⟩ := He.ba e
  obtain ⟨e5, e⟩ := He.ba e
  obtain ⟨e6, e⟩ := He.ba e
  obtain ⟨e7, e8⟩ := He.ba e
  exact ⟨of_decide_eq_true e1, of_decide_eq_true e2, of_decide_eq_true e3, e4, of_decide_eq_true e5, of_decide_eq_true e6, of_decide_eq_true e7, of_decide_eq_true e8⟩
def wordB (ws : List String) (err : Str) (K : PySem.W.Frag) : Bool := ws.all fun c => excB K (He.ga K (Str.ofString c)) && (decide (PySem.W.kitOne K (.ref (He.ga K (Str.ofString c))) (.type "ValueError") = some true) &&
  (decide (PySem.W.exmOne K (.ref (He.ga K (Str.ofString c))) (.ref (He.ga K err)) = some true) && ws.all fun c' => decide (PySem.W.kitOne K (.ref (He.ga K (Str.ofString c))) (.ref (He.ga K (Str.ofString c'))) = some (c == c'))))
/-- what is told of the words' classes -/
structure WordF (G : Gx) (ws : List String) (err : Str) : Prop where
  exc : ∀ c ∈ ws, ∃ a, G.cm c = .ref a ∧ G.mg (Str.ofString c) = some (.ref a) ∧ ExcC G.K a ∧ PySem.W.kitOne G.K (.ref a) (.type "ValueError") = some true
  kit : ∀ c ∈ ws, ∀ c' ∈ ws, ∀ a a', G.cm c = .ref a → G.cm c' = .ref a' → PySem.W.kitOne G.K (.ref a) (.ref a') = some (c == c')
  err : ∃ C, G.mg err = some (.ref C) ∧ ∀ c ∈ ws, PySem.W.exmOne G.K (G.cm c) (.ref C) = some true
theorem g_word {ws : List String} {err : Str} (X : K.In h) (G : h.Ns mainGlobals mg) (c : wordB ws err K = true) (ce : (He.Fa.glo err).ok K = true) (cs : ∀ c ∈ ws, (He.Fa.glo (Str.ofString c)).ok K = true) : WordF (mkG P w K mg base tf) ws err := by
  have at_ : ∀ c ∈ ws, excB K (He.ga K (Str.ofString c)) = true ∧ PySem.W.kitOne K (.ref (He.ga K (Str.ofString c))) (.type "ValueError") = some true ∧ PySem.W.exmOne K (.ref (He.ga K (Str.ofString c))) (.ref (He.ga K err)) = some true ∧
      ∀ c' ∈ ws, PySem.W.kitOne K (.ref (He.ga K (Str.ofString c))) (.ref (He.ga K (Str.ofString c'))) = some (c == c') := fun c0 hc => by
    obtain ⟨e1, e⟩ := He.ba (List.all_eq_true.mp c c0 hc)
    obtain ⟨e2, e⟩ := He.ba e
    obtain ⟨e3, e4⟩ := He.ba e
    exact ⟨e1, of_decide_eq_true e2, of_decide_eq_true e3, fun c' hc' => of_decide_eq_true (List.all_eq_true.mp e4 c' hc')⟩
  refine ⟨fun c0 hc => ⟨_, rfl, He.glo_ok X G (cs c0 hc), excB_ok (at_ c0 hc).1, (at_ c0 hc).2.1⟩, fun c0 hc c' hc' a a' e e' => ?_, _, He.glo_ok X G ce, fun c0 hc => (at_ c0 hc).2.2.1⟩
  cases e
  cases e'
  exact (at_ c0 hc).2.2.2 c' hc'
end
def noTab (H : Hp) : Hp := fun b => match H b with
  | some (.tbl _) => none
  | o => o
theorem walk_end {l : PySem.W.OpenLaw} {q : Program} {loose : List Str} {XP : (Str → Option Value) → Heap → Prop} {d : DefRec} {n k : Nat} {fa : List He.Fa} {fn : List He.DefD} {ts : List He.Tab} {tf : List He.Defn} {ex : PySem.W.Frag → Bool} {f : List D → R D} {x : Str} (hn : l.most = some n) (hn2 : n ≤ sizeLine) (hdf : d.params.defaults = []) (hr : Room k callerA)
    (main : ∀ (w : World) (K : PySem.W.Frag) (mg : Str → Option Value) (h base : Heap), K.In h → h.Ns mainGlobals mg → He.SaysX fa fn ts tf ex w h K → (∀ p ∈ tf.map (He.cT K), TabB base mg p.1 p.2) → K.In base → base.Ns mainGlobals mg → FnSp (mkG l.prog w K mg base tf) k d.name [x] f)
    (bind : ∀ (w : World) (K : PySem.W.Frag) (mg : Str → Option Value) (h : Heap), K.In h → h.Ns mainGlobals mg → He.SaysX fa fn ts tf ex w h K → ∃ (a : Addr) (fd : FuncData) (oc : Value) (od : Option Addr) (osl : Array (Option Value)), mg d.name = some (.ref a) ∧ K.lookup a = some ⟨oc, od, .func fd, osl⟩ ∧ ∀ (s : Shared) (u : Value), BindsTo s fd ⟨[u], []⟩ [(x, u)])
    (math : ∀ ns : List Int, ns.length ≤ n → f [.scr ns] = .ok (.bl true)) : PySem.W.WalkO q loose XP (He.hookX 4 fa fn ts tf ex).says l.row.toRowW d [] (fun f vs => PySem.call f vs) := by
  refine LamX.walk_ofTsE (n := n) (k := k) (x := x) (CX := fun w => L2N.CX l.prog w) hn hn2 hdf hr ?_ (fun w H s e s' z => by
    obtain ⟨_, _, _, _, _, _, _, _, _, _, _, _, z⟩ := z
    exact z)
  intro w mg fa' h ⟨K, KX, c⟩ G hmg
  refine ⟨K, KX, ?_⟩
  obtain ⟨a, fd, oc, od, osl, e1, lk, hbd⟩ := bind w K mg h KX G c
  have ea : fa' = a := by
    rw [hmg] at e1
    cases e1
    rfl
  subst ea
  refine ⟨fd, tf.map (He.cT K), spF (mkG l.prog w K mg h tf) f, fun p hp => ?_, fun p hp => ?_, fun p hp => ?_, hbd, fun H a ns hl _ hT hS => ?_, fun base hKb hGb hTB => ?_⟩
  · obtain ⟨q, hq, rfl⟩ := List.mem_map.mp hp
    exact c.empty q hq
  · obtain ⟨q, hq, rfl⟩ := List.mem_map.mp hp
    exact c.out q hq
  · obtain ⟨q, hq, rfl⟩ := List.mem_map.mp hp
    exact PySem.W.codeHd_of_K KX (c.hd q hq)
  · refine ⟨[.scr ns], noTab H, .cons (.scr ?_) .nil, fun b o hb => ?_, fun b ps hb => ?_, fun p hp => ?_, ?_⟩
    · rcases hS with (z | ⟨o, z⟩) | z
      · exact .inl (.inl (by unfold noTab; rw [z]))
      · exact .inl (.inr ⟨o, by unfold noTab; rw [z]⟩)
      · exact .inr z
    · unfold noTab at hb
      split at hb
      · cases hb
      · exact hb
    · unfold noTab at hb
      split at hb
      · cases hb
      · rename_i hne
        exact hne ps hb
    · obtain ⟨q, hq, rfl⟩ := List.mem_map.mp hp
      exact TabS.nil (hT _ (List.mem_map.mpr ⟨q, hq, rfl⟩))
    · rw [math ns hl]
      intro v H' F' _ rv
      cases rv
      rfl
  · obtain ⟨a2, fd2, f1, f2, f3, f4, oc2, od2, osl2, f5⟩ := main w K mg h base KX G c hTB hKb hGb
    have f1' : mg d.name = some (.ref a2) := f1
    rw [hmg] at f1'
    cases f1'
    have f5' : K.lookup fa' = some ⟨oc2, od2, .func fd2, osl2⟩ := f5
    rw [lk] at f5'
    cases f5'
    exact f4
end Mk
set_option maxHeartbeats 2000000
namespace Mk
open PySem PySem.Spec PySem.Calls PyProof.Rows L2
theorem rv_adjust (n : Nat) : Builtin.Slice.sliceAdjust none none (-1) (n : Int) = ((n : Int) - 1, -1) := by
  first
    | rfl
    | (simp [Builtin.Slice.sliceAdjust])
theorem rv_places (n : Nat) : Builtin.Slice.slicePlaces ((n : Int) - 1) (-1) (-1) = n := by
  unfold Builtin.Slice.slicePlaces
  have h1 : ¬ ((-1 : Int) > 0) := by decide
  simp only [h1, if_false]
  split
  · rw [show (- -1 : Int) = 1 by decide, Int.ediv_one]
    omega
  · omega
theorem fm_congr {α β : Type} {f g : α → Option β} : ∀ {l : List α}, (∀ x ∈ l, f x = g x) → l.filterMap f = l.filterMap g
  | [], _ => rfl
  | a :: l, h => by
    rw [List.filterMap_cons, List.filterMap_cons, h a List.mem_cons_self, fm_congr (l := l) fun x hx => h x (List.mem_cons_of_mem _ hx)]
theorem rv_pick (xs : Array Value) : ((List.range xs.size).filterMap fun (m : Nat) => xs[((xs.size : Int) - 1 + (m : Int) * (-1)).toNat]?).toArray = xs.toList.reverse.toArray := by
  have h := congrArg List.reverse (PySem.W.krv_all xs)
  rw [← List.filterMap_reverse, ← PySem.W.krv_range, List.filterMap_map] at h
  rw [← h]
  congr 1
  refine fm_congr fun m hm => ?_
  have := List.mem_range.mp hm
  show xs[((xs.size : Int) - 1 + (m : Int) * (-1)).toNat]? = xs[xs.size - 1 - m]?
  rw [show ((xs.size : Int) - 1 + (m : Int) * (-1)).toNat = xs.size - 1 - m by omega]
section
variable {prog : Program} {w : World} {A : Around} {E : Value → Shared → Prop} {s : Shared}
theorem rv_applied {sl : Addr} {vl vu vs : Value} {n : Nat} {Q : Int × Int × Nat → Shared → Prop} (hs : s.heap.IsSliceOf sl vl vu vs) (pl : IsPart vl none) (pu : IsPart vu none) (ps : IsPart vs (some (-1)))
    (h : Q ((n : Int) - 1, -1, n) s) : wpAny (model prog w) A (Builtin.Slice.sliceApplied (.ref sl) (pure (n : Int))) Q E s := by
  obtain ⟨os, hos, hcs, hds⟩ := id hs
  unfold Builtin.Slice.sliceApplied Builtin.Slice.sliceFields
  refine wpAny_bind (wpAny_bind (wpAny_field hos hds (x := vl) rfl (wpAny_bind (wpAny_field hos hds (x := vu) rfl (wpAny_bind (wpAny_field hos hds (x := vs) rfl (wpAny_pure ?_)))))))
  refine wpAny_bind (HT.slicePart_ ps ?_)
  show wpAny _ _ (if ((-1 : Int) == 0) = true then _ else _) _ _ s
  rw [if_neg (by decide)]
  refine wpAny_bind (HT.slicePart_ pl (wpAny_bind (HT.slicePart_ pu (wpAny_bind (wpAny_pure ?_)))))
  show wpAny _ _ (match Builtin.Slice.sliceAdjust none none (-1) (n : Int) with | (lo, hi) => pure (lo, (-1 : Int), Builtin.Slice.slicePlaces lo hi (-1))) _ _ s
  rw [rv_adjust n]
  show wpAny _ _ (pure ((n : Int) - 1, (-1 : Int), Builtin.Slice.slicePlaces ((n : Int) - 1) (-1) (-1))) _ _ s
  rw [rv_places]
  exact wpAny_pure h
theorem rv_tuple {t sl : Addr} {items : Array Value} {vl vu vs : Value} {Q : Value → Shared → Prop} (ht : IsTup s.heap t items) (hs : s.heap.IsSliceOf sl vl vu vs) (pl : IsPart vl none) (pu : IsPart vu none) (ps : IsPart vs (some (-1)))
    (h : Q (.ref s.heap.objs.size) { s with heap := s.heap.push { cls := .type "tuple", data := .seq items.toList.reverse.toArray } })
    (hsz : items.size ≤ sizeLine) : wpAny (model prog w) A (getItem (.ref t) (.ref sl)) Q E s := by
  have htake : sizeOk (.seq items.toList.reverse.toArray) := by
    show items.toList.reverse.toArray.size ≤ sizeLine
    rw [List.size_toArray, List.length_reverse, Array.length_toList]
    exact hsz
  obtain ⟨os, hos, hcs, hds⟩ := id hs
  have hTs : s.TypeIs (.ref sl) "slice" := ⟨os, hos, hcs⟩
  unfold getItem
  try with_reducible refine wpAny_holding ?_
  first | refine wpAny_bind (wpAny_pure ?_) | skip
  refine wpAny_bind (wpAny_sequenceKey ht.typeIs (by decide) ?_)
  refine wpAny_bind (wpAny_callSpecial?_slot (name := Str.ofString "__getitem__") ht.typeIs PyProof.Rows.slot_tuple_getitem (wpAny_call_entry PyProof.Rows.slot_tuple_getitem ht.typeIs entry_tuple_getitem ?_ (args_tuple_getitem _ _)))
  show wpAny _ _ (Builtin.Tuple.tupleItemsOf (.ref t) >>= _) _ _ s
  refine wpAny_bind (tupleItemsOf_ ht ?_)
  refine wpAny_bind (wpAny_typeOf hTs ?_)
  rw [if_pos (by decide)]
  refine wpAny_bind (rv_applied hs pl pu ps ?_)
  have hno : ¬ (((items.size : Int) - 1 == 0 && (-1 : Int) == 1 && items.size == items.size) = true) := by
    intro q
    rw [Bool.and_eq_true, Bool.and_eq_true] at q
    exact absurd q.1.2 (by decide)
  show wpAny _ _ (if ((items.size : Int) - 1 == 0 && (-1 : Int) == 1 && items.size == items.size) = true then _ else _) _ _ s
  rw [if_neg hno, rv_pick]
  first
    | exact wpAny_bind (m := Builtin.Tuple.tupleExact _) (wpAny_newObj_type (wpAny_pure ⟨_, rfl, wpAny_pure h⟩) htake)
    | exact wpAny_bind (m := Builtin.Tuple.tupleExact _) (wpAny_newObj_type (wpAny_bind (wpAny_pure (wpAny_pure ⟨_, rfl, wpAny_pure h⟩))) htake)
    | exact wpAny_bind (wpAny_bind (m := Builtin.Tuple.tupleExact _) (wpAny_newObj_type (wpAny_pure (wpAny_pure ⟨_, rfl, wpAny_pure h⟩)) htake))
    | exact wpAny_bind (wpAny_bind (m := Builtin.Tuple.tupleExact _) (wpAny_newObj_type (wpAny_pure ⟨_, rfl, wpAny_pure h⟩) htake))
end
section
variable {G : Gx} {B : Bd} {k : Nat} {X : Cx} {a : Expr} {f : En → R D} {pos : Pos}
def tRvA (K : PySem.W.Frag) (te : TE) : TE := fun σ H Q => te σ H fun x H1 => (∃ a xs, x = .ref a ∧ SqL K H1 a xs ∧ ∀ p, H1 p = none → Q (.ref p) (upd H1 p (.lst xs.reverse))) ∨ (∃ a xs, x = .ref a ∧ SqT K H1 a xs ∧ ∀ p, H1 p = none → Q (.ref p) (upd H1 p (.tup xs.reverse)))
theorem pe_rvA {e : Expr} {te : TE} {k : Nat} {p1 p2 p3 pos : Pos} (he : PE X e te) : PE X (.Subscript e (.Slice none none (some (.UnaryOp .USub (.Constant (.int 1) k p1) p2)) p3) pos) (tRvA X.K te) := by
  refine ⟨fun pins s σ H Q I h => ?_⟩
  refine Subscript_ (thn (he.run pins s σ H _ I h) fun v s1 ⟨x, H1, I1, r1, q1⟩ => ?_)
  have hst : PO X (some (.UnaryOp .USub (.Constant (.int 1) k p1) p2)) (tPart (tUn (rU fun i => .int (-i)) (tC (.int 1)))) := po_some (pe_un un_neg pe_int)
  have ⟨a, ex⟩ : ∃ a, x = V.ref a := by
    rcases q1 with ⟨a, xs, ex, _⟩ | ⟨a, xs, ex, _⟩
    · exact ⟨a, ex⟩
    · exact ⟨a, ex⟩
  subst ex
  cases r1
  refine wpAny_Slice (thn (po_none.run pins s1 σ H1 (fun o H2 => o = none ∧ H2 = H1) I1 ⟨rfl, rfl⟩) fun vl s2 ⟨l, H2, I2, pl, el, e2⟩ => ?_)
  subst el e2
  refine thn (po_none.run pins s2 σ H2 (fun o H3 => o = none ∧ H3 = H2) I2 ⟨rfl, rfl⟩) fun vu s3 ⟨u, H3, I3, pu, eu, e3⟩ => ?_
  subst eu e3
  refine thn (hst.run pins s3 σ H3 (fun o H4 => o = some (-1) ∧ H4 = H3) I3 ⟨1, rfl, -1, rfl, rfl, rfl⟩) fun vs s4 ⟨o, H4, I4, ps, eo, e4⟩ => ?_
  subst eo e4
  have I5 : Inv X pins σ H4 { s4 with heap := s4.heap.push { cls := .type "slice", data := .fields #[vl, vu, vs] } } := I4.kept (t' := s4.toks) fun b ob q => Heap.get?_push_of_some _ q
  show wpAny (model X.prog X.w) X.A (subscriptTail e (.Slice none none (some (.UnaryOp .USub (.Constant (.int 1) k p1) p2)) p3) (.ref a) (.ref s4.heap.objs.size)) (EP X pins σ Q) X.xe { s4 with heap := s4.heap.push { cls := .type "slice", data := .fields #[vl, vu, vs] } }
  rcases q1 with ⟨a', xs, ex, hx, q⟩ | ⟨a', xs, ex, hx, q⟩
  · injection ex with ex
    subst ex
    obtain ⟨its, r, ht, hz⟩ := I5.list hx
    have hlen := r.length
    refine tail_any (ops := [.ref a, .ref s4.heap.objs.size]) ht.isList.typeIs (PySem.slot_list_getitem.lookup) ?_ (by with_unfolding_all rfl)
    refine wpAny_getItem_list_slice ht.isList (Heap.IsSliceOf.new _ vl vu vs) pl pu ps (by decide) ?_ (by rw [List.size_toArray]; omega)
    rw [PySem.W.krv_pick]
    refine ⟨.ref _, _, I5.laid (t' := s4.toks) (o := .lst xs.reverse) (fun b ob q => Heap.get?_push_of_some _ q) (Nat.le_refl _) ?_, rfl, q _ (I5.hok.fresh (Nat.le_refl _))⟩
    exact ⟨by rw [List.length_reverse]; exact hz, _, 0, r.reverse, Heap.get?_push_size _ rfl⟩
  · injection ex with ex
    subst ex
    obtain ⟨its, r, ht, hz⟩ := I5.tuple hx
    have hlen := r.length
    refine tail_any (ops := [.ref a, .ref s4.heap.objs.size]) ht.typeIs (PyProof.Rows.slot_tuple_getitem.lookup) ?_ (by with_unfolding_all rfl)
    refine rv_tuple ht (Heap.IsSliceOf.new _ vl vu vs) pl pu ps ?_ (by rw [List.size_toArray]; omega)
    refine ⟨.ref _, _, I5.laid (t' := s4.toks) (o := .tup xs.reverse) (fun b ob q => Heap.get?_push_of_some _ q) (Nat.le_refl _) ?_, rfl, q _ (I5.hok.fresh (Nat.le_refl _))⟩
    exact ⟨by rw [List.length_reverse]; exact hz, _, r.reverse, IsTup.new _ _⟩
def revD : D → R D
  | .tup l => .ok (.tup l.reverse)
  | .lst l => .ok (.lst l.reverse)
  | _ => .bad
theorem repL_rev {K : PySem.W.Frag} {F : Hp} : ∀ {xs : List V} {l : List D}, RepL K F xs l → RepL K F xs.reverse l.reverse
  | _, _, .nil => .nil
  | _, _, .cons h r => by
    rw [List.reverse_cons, List.reverse_cons]
    exact (repL_rev r).append (.cons h .nil)
theorem e_rev {kk : Nat} {p1 p2 p3 : Pos} (O : OkX G B k X) (ha : PE X a (tO B f)) : PE X (.Subscript a (.Slice none none (some (.UnaryOp .USub (.Constant (.int 1) kk p1) p2)) p3) pos) (tE B (op1 f revD)) := by
  refine PE.imp (pe_rvA ha) fun σ H Q ⟨env, F, rel, q⟩ => ⟨env, F, rel, ?_⟩
  unfold op1 at q
  cases hf : f env with
  | exc c => rw [hf] at q; exact q
  | bad => rw [hf] at q; exact q
  | ok d =>
    rw [hf] at q
    intro x H1 F1 e1 rx
    simp only [R.bind] at q
    have r1 := rel.mono e1
    have q1 := Good.mono e1 q
    have sub := r1.ext.sub
    cases d with
    | tup ds =>
      obtain ⟨a1, xs, ex, h1, r2, z1, w1⟩ := rx.tup
      refine .inr ⟨a1, xs, ex, O.tupH sub h1, fun p hp => ?_⟩
      have E := r1.frz (o := .tup xs.reverse) hp (fun ps z => by cases z)
      exact q1 _ _ _ E (.tup (.inl (.inl upd_same)) ((repL_rev r2).mono E.fsame) (by rw [List.length_reverse]; exact z1))
    | lst ds =>
      obtain ⟨a1, xs, ex, h1, r2, z1⟩ := rx.lst sub
      refine .inl ⟨a1, xs, ex, SqL.of h1, fun p hp => ?_⟩
      have E := r1.frz (o := .lst xs.reverse) hp (fun ps z => by cases z)
      exact q1 _ _ _ E (.lst upd_same ((repL_rev r2).mono E.fsame) (by rw [List.length_reverse]; exact z1))
    | _ => exact q1.elim
end
end Mk
set_option maxHeartbeats 4000000
namespace Mk
open PySem PySem.Spec PyProof.Rows L2
theorem mul_same (l : Addr) (items : Array Value) (n : Nat) (dd : Option Addr) (sl : Array (Option Value)) (x : Int) (u : Tok) (c0 : (decide (x < -(2 ^ 63)) || decide (x ≥ 2 ^ 63)) = false) (c1 : (items.isEmpty || x == 1) = true) :
    Meets (Builtin.«tuple.__mul__» ⟨[.ref l, .int x u], []⟩) (fun _ R s => s.heap.get? l = some { cls := .type "tuple", dict := dd, data := .seq items n, slots := sl } ∧ R (.ok (.ret (Value.ref l))) s) :=
  .of_wp fun prog w A R s h => by
    obtain ⟨hp, g, d, tk, os⟩ := s
    obtain ⟨hl, h⟩ := h
    have f1 := AutoSeq1.idx_int
    wp_walk using wpAny_loadPart' hl
    repeat (first
      | (refine wpAny_ite_false (decide_eq_false (by rw [c0]; exact Bool.false_ne_true)) ?_; wp_walk using wpAny_loadPart' hl)
      | (refine wpAny_ite_true (decide_eq_true c1) ?_; wp_walk using wpAny_loadPart' hl))
    exact ⟨_, rfl, h⟩
theorem mul_none (l : Addr) (items : Array Value) (n : Nat) (dd : Option Addr) (sl : Array (Option Value)) (x : Int) (u : Tok) (c0 : (decide (x < -(2 ^ 63)) || decide (x ≥ 2 ^ 63)) = false) (c1 : (items.isEmpty || x == 1) = false) (c2 : (decide (x ≤ 0) || items.isEmpty) = true) :
    Meets (Builtin.«tuple.__mul__» ⟨[.ref l, .int x u], []⟩) (fun _ R s => s.heap.get? l = some { cls := .type "tuple", dict := dd, data := .seq items n, slots := sl } ∧
      R (.ok (.ret (Value.ref s.heap.objs.size))) { s with heap := s.heap.push { cls := Value.type "tuple", data := Data.seq #[] }, toks := s.toks }) :=
  .of_wp fun prog w A R s h => by
    obtain ⟨hp, g, d, tk, os⟩ := s
    obtain ⟨hl, h⟩ := h
    have f1 := AutoSeq1.idx_int
    wp_walk using wpAny_loadPart' hl
    repeat (first
      | (refine wpAny_ite_false (decide_eq_false (by rw [c0]; exact Bool.false_ne_true)) ?_; wp_walk using wpAny_loadPart' hl)
      | (refine wpAny_ite_false (decide_eq_false (by rw [c1]; exact Bool.false_ne_true)) ?_; wp_walk using wpAny_loadPart' hl)
      | (refine wpAny_ite_true (decide_eq_true c2) ?_; wp_walk using wpAny_loadPart' hl))
    exact ⟨_, rfl, h⟩
section
variable {X : Cx}
def rRep1 (K : PySem.W.Frag) : R2 := fun x y H Q => ∃ l xs, x = .ref l ∧ y = .int 1 ∧ SqT K H l xs ∧ Q (.ref l) H
theorem op_rep1 : OpR X (binaryOp .Mult) (rRep1 X.K) := by
  intro pins s σ H x y v u Q I rx ry h
  obtain ⟨l, xs, rfl, rfl, hT, q⟩ := h
  cases rx
  obtain ⟨t, rfl⟩ := ry
  obtain ⟨its, r, ⟨⟨cls, dd, data, sl⟩, ho, hc, n, hd⟩, hs⟩ := I.tuple hT
  simp only at hc hd
  subst hc hd
  have c1 : (its.toArray.isEmpty || (1 : Int) == 1) = true := by cases its.toArray.isEmpty <;> rfl
  exact wpAny_binaryOp_repeat_ref (T := "tuple") (U := "int") (by decide) ⟨_, ho, rfl⟩ (fun s' => typeIs_int s' 1 t) noFill_tuple_mul F.fills_int_mul F.slot_int_rmul repeat_tuple F.slot_int_index.lookup
    (call_meets F.slot_int_rmul (typeIs_int s 1 t) F.entry_int_rmul (F.args_int_rmul_2 _ _) (int_rmul_tuple 1 t l its.toArray n dd sl)
      ⟨ho, rfl, ⟨_, ho, rfl⟩, call_meets F.slot_tuple_mul ⟨_, ho, rfl⟩ F.entry_tuple_mul (F.args_tuple_mul_2 _ _) (mul_same l its.toArray n dd sl 1 t (by decide) c1) ⟨ho, ⟨.ref l, H, I, rfl, q⟩⟩⟩)
def rRep0 (K : PySem.W.Frag) : R2 := fun x y H Q => ∃ l k xs, x = .ref l ∧ y = .int k ∧ SqT K H l xs ∧ xs ≠ [] ∧ k ≤ 0 ∧ -1000 < k ∧ ∀ p, H p = none → Q (.ref p) (upd H p (.tup []))
theorem op_rep0 : OpR X (binaryOp .Mult) (rRep0 X.K) := by
  intro pins s σ H x y v u Q I rx ry h
  obtain ⟨l, k, xs, rfl, rfl, hT, hne, h1, h2, q⟩ := h
  cases rx
  obtain ⟨t, rfl⟩ := ry
  obtain ⟨its, r, ⟨⟨cls, dd, data, sl⟩, ho, hc, n, hd⟩, hs⟩ := I.tuple hT
  simp only at hc hd
  subst hc hd
  have hle : its.length = xs.length := r.length.symm
  have hn : its ≠ [] := fun e => hne (by
    rw [e] at hle
    exact List.eq_nil_of_length_eq_zero hle.symm)
  have hi : its.toArray.isEmpty = false := by
    cases its with
    | nil => exact absurd rfl hn
    | cons a b => rfl
  have c0 : (decide (k < -(2 ^ 63)) || decide (k ≥ 2 ^ 63)) = false := by
    rw [decide_eq_false (by omega), decide_eq_false (by omega)] <;> rfl
  have c1 : (its.toArray.isEmpty || k == 1) = false := by
    rw [hi, Bool.false_or]
    exact beq_eq_false_iff_ne.mpr (by omega)
  have c2 : (decide (k ≤ 0) || its.toArray.isEmpty) = true := by
    rw [decide_eq_true h1]; rfl
  refine wpAny_binaryOp_repeat_ref (T := "tuple") (U := "int") (by decide) ⟨_, ho, rfl⟩ (fun s' => typeIs_int s' k t) noFill_tuple_mul F.fills_int_mul F.slot_int_rmul repeat_tuple F.slot_int_index.lookup
    (call_meets F.slot_int_rmul (typeIs_int s k t) F.entry_int_rmul (F.args_int_rmul_2 _ _) (int_rmul_tuple k t l its.toArray n dd sl)
      ⟨ho, rfl, ⟨_, ho, rfl⟩, call_meets F.slot_tuple_mul ⟨_, ho, rfl⟩ F.entry_tuple_mul (F.args_tuple_mul_2 _ _) (mul_none l its.toArray n dd sl k t c0 c1 c2) ⟨ho, ?_⟩⟩)
  refine ⟨.ref s.heap.objs.size, _, I.laid (t' := s.toks) (o := .tup []) (fun b ob q => Heap.get?_push_of_some _ q) (Nat.le_refl _) ?_, rfl, q _ (I.hok.fresh (Nat.le_refl _))⟩
  exact ⟨Nat.zero_le _, [], .nil, IsTup.new _ _⟩
end
section
variable {G : Gx} {B : Bd} {k : Nat} {X : Cx} {a b : Expr} {f g : En → R D} {pos : Pos}
def mulTD : D → D → R D
  | .tup l, .int k => if k < 1000 ∧ -1000 < k ∧ l.length ≤ 1000 ∧ l.isEmpty = false then .ok (.tup (List.replicate k.toNat l).flatten) else .bad
  | _, _ => .bad
theorem e_mulT (O : OkX G B k X) (ha : PE X a (tO B f)) (hb : PE X b (tO B g)) : PE X (.BinOp a .Mult b pos) (tE B (op2 f g mulTD)) := by
  refine PE.imp (pe_op (op_repT.or (op_rep1.or op_rep0)) ha hb) fun σ H Q => tOp_of fun x y a b H F env Q r rx ry q => ?_
  have sub := r.ext.sub
  cases a with
  | tup l =>
    cases b with
    | int j =>
      simp only [mulTD] at q
      split at q
      · rename_i hm
        obtain ⟨m1, m2, m3, m4⟩ := hm
        obtain ⟨a1, xs, ex, h1, r2, z1, w1⟩ := rx.tup
        have hne : xs ≠ [] := fun e => by
          subst e
          cases r2
          cases m4
        by_cases j1 : j = 1
        · subst j1
          refine .inr (.inl ⟨a1, xs, ex, ry.int, O.tupH sub h1, ?_⟩)
          have e : (List.replicate (1 : Int).toNat l).flatten = l := by
            show (List.replicate 1 l).flatten = l
            simp
          rw [e] at q
          rw [← ex]
          exact q.now r w1
        · by_cases j0 : j ≤ 0
          · refine .inr (.inr ⟨a1, j, xs, ex, ry.int, O.tupH sub h1, hne, j0, m2, fun p hp => ?_⟩)
            have e : (List.replicate j.toNat l).flatten = [] := by
              rw [show j.toNat = 0 by omega]; rfl
            rw [e] at q
            have E := r.frz (o := .tup []) hp (fun ps z => by cases z)
            exact q _ _ _ E (.tup (.inl (.inl upd_same)) .nil (Nat.zero_le _))
          · refine .inl ⟨a1, j, xs, ex, ry.int, O.tupH sub h1, hne, by omega, by omega, by rw [r2.length]; exact m3, fun p hp => ?_⟩
            have hl : (List.replicate j.toNat l).flatten.length ≤ sizeLine := by
              have h1 : (List.replicate j.toNat l).flatten.length = j.toNat * l.length := by simp
              rw [h1, sizeLine_eq]
              calc j.toNat * l.length ≤ 1000 * 1000 := Nat.mul_le_mul (by omega) m3
                _ ≤ 16777216 := by decide
            have E := r.frz (o := .tup (List.replicate j.toNat xs).flatten) hp (fun ps z => by cases z)
            exact q _ _ _ E (.tup (.inl (.inl upd_same)) ((repL_flatten r2 _).mono E.fsame) hl)
      · exact q.elim
    | _ => exact q.elim
  | _ => exact q.elim
end
end Mk
set_option maxHeartbeats 2000000
namespace Mk
open PySem PySem.Spec PyProof.Rows L2 HotX L2H LamX
def putD (l : List (Key × D)) (k : Key) (d : D) : List (Key × D) := if (l.any fun kv => decide (kv.1 = k)) = true then l.map fun kv => if kv.1 = k then (kv.1, d) else kv else l ++ [(k, d)]
theorem repK_any {K : PySem.W.Frag} {F : Hp} {k : Key} : ∀ {vs : List (Key × V)} {l : List (Key × D)}, RepK K F vs l → (vs.any fun kv => decide (kv.1 = k)) = l.any fun kv => decide (kv.1 = k)
  | _, _, .nil => rfl
  | _, _, .cons h r => by simp only [List.any_cons, repK_any r]
theorem repK_map {K : PySem.W.Frag} {F : Hp} {k : Key} {v : V} {d : D} (hv : Rep K F v d) : ∀ {vs : List (Key × V)} {l : List (Key × D)}, RepK K F vs l → RepK K F (vs.map fun kv => if kv.1 = k then (kv.1, v) else kv) (l.map fun kv => if kv.1 = k then (kv.1, d) else kv)
  | _, _, .nil => .nil
  | _, _, @RepK.cons _ _ k' v' vs d' ds h r => by
    show RepK K F ((if k' = k then (k', v) else (k', v')) :: _) ((if k' = k then (k', d) else (k', d')) :: _)
    by_cases e : k' = k
    · rw [if_pos e, if_pos e]; exact .cons hv (repK_map hv r)
    · rw [if_neg e, if_neg e]; exact .cons h (repK_map hv r)
theorem repK_snoc {K : PySem.W.Frag} {F : Hp} {k : Key} {v : V} {d : D} (hv : Rep K F v d) : ∀ {vs : List (Key × V)} {l : List (Key × D)}, RepK K F vs l → RepK K F (vs ++ [(k, v)]) (l ++ [(k, d)])
  | _, _, .nil => .cons hv .nil
  | _, _, .cons h r => .cons h (repK_snoc hv r)
theorem repK_put {K : PySem.W.Frag} {F : Hp} {k : Key} {v : V} {d : D} {vs : List (Key × V)} {l : List (Key × D)} (r : RepK K F vs l) (hv : Rep K F v d) : RepK K F (putK vs k v) (putD l k d) := by
  unfold putK putD
  rw [repK_any r]
  split
  · exact repK_map hv r
  · exact repK_snoc hv r
theorem repK_len {K : PySem.W.Frag} {F : Hp} : ∀ {vs : List (Key × V)} {l : List (Key × D)}, RepK K F vs l → vs.length = l.length
  | _, _, .nil => rfl
  | _, _, .cons h r => by rw [List.length_cons, List.length_cons, repK_len r]
theorem repK_keys {K : PySem.W.Frag} {F : Hp} : ∀ {vs : List (Key × V)} {l : List (Key × D)}, RepK K F vs l → vs.map (·.1) = l.map (·.1)
  | _, _, .nil => rfl
  | _, _, .cons h r => by rw [List.map_cons, List.map_cons, repK_keys r]
theorem putD_len (l : List (Key × D)) (k : Key) (d : D) : (putD l k d).length ≤ l.length + 1 := by
  unfold putD
  split
  · rw [List.length_map]; omega
  · rw [List.length_append, List.length_singleton]; exact Nat.le_refl _
section
variable {G : Gx} {B : Bd} {k : Nat} {X : Cx} {a b e : Expr} {f g fe fk : En → R D} {pos : Pos}
theorem Rel.putO {env : En} {σ : L2.St} {H F : Hp} (r : Rel B env σ H F) {i : Nat} {a : Addr} {vs : List (Key × V)} {l : List (Key × D)} (h1 : H a = some (.dK vs)) (h2 : Free B.H0 a) (h3 : F a = none) (h4 : RepK B.K F vs l) (h5 : l.length ≤ sizeLine) (no : NoOwn env σ a) : Rel B (env.set i (some (.od l))) (σ.set i (some (.ref a))) H F where
  ext := r.ext
  tab := r.tab
  len := by rw [List.length_set, List.length_set, r.len]
  slot := fun j s h => by
    by_cases e : i = j
    · subst e
      by_cases hl : i < env.length
      · rw [List.getElem?_set_self hl] at h
        have hs : SV.od l = s := Option.some.inj (Option.some.inj h)
        subst hs
        exact ⟨.ref a, List.getElem?_set_self (by rw [← r.len]; exact hl), a, vs, rfl, h1, h2, h3, h4, h5⟩
      · rw [List.getElem?_eq_none (by rw [List.length_set]; omega)] at h
        cases h
    · rw [List.getElem?_set_ne e] at h ⊢
      exact r.slot j s h
  dist := fun j m s s' hne q1 q2 o1 o2 => by
    have key : ∀ (j m : Nat) (s' : SV), i = j → j ≠ m → (env.set i (some (.od l)))[j]? ≠ none → (env.set i (some (.od l)))[m]? = some (some s') → s'.isOwn = true → (σ.set i (some (.ref a)))[j]? ≠ (σ.set i (some (.ref a)))[m]? := fun j m s' e hne q1 q2 o2 => by
      subst e
      have hi : i < σ.length := by
        cases hz : (env.set i (some (.od l)))[i]? with
        | none => exact (q1 hz).elim
        | some t =>
          have := (List.getElem?_eq_some_iff.mp hz).1
          rw [List.length_set, r.len] at this
          exact this
      rw [List.getElem?_set_self hi, List.getElem?_set_ne hne]
      rw [List.getElem?_set_ne hne] at q2
      exact fun z => no m s' q2 o2 z.symm
    by_cases e1 : i = j
    · exact key j m s' e1 hne (by rw [q1]; exact fun z => by cases z) q2 o2
    · by_cases e2 : i = m
      · exact fun z => key m j s e2 (Ne.symm hne) (by rw [q2]; exact fun z => by cases z) q1 o1 z.symm
      · rw [List.getElem?_set_ne e1] at q1 ⊢
        rw [List.getElem?_set_ne e2] at q2 ⊢
        exact r.dist j m s s' hne q1 q2 o1 o2
theorem ownD_at {env : En} {σ : L2.St} {H F : Hp} (r : Rel B env σ H F) {i : Nat} {l : List (Key × D)} (h : env[i]? = some (some (.od l))) : ∃ a vs, σ[i]? = some (some (.ref a)) ∧ H a = some (.dK vs) ∧ Free B.H0 a ∧ F a = none ∧ RepK B.K F vs l ∧ l.length ≤ sizeLine ∧ NoOwn (env.set i none) (σ.set i none) a := by
  obtain ⟨v, h1, a, vs, rfl, h2, h3, h4, h5, h6⟩ := r.slot i _ h
  refine ⟨a, vs, h1, h2, h3, h4, h5, h6, fun j s hs ow e => ?_⟩
  have hij : i ≠ j := fun z => by
    subst z
    have hl := (List.getElem?_eq_some_iff.mp h).1
    rw [List.getElem?_set_self hl] at hs
    cases hs
  rw [List.getElem?_set_ne hij] at hs e
  exact r.dist i j _ s hij h hs rfl ow (h1.trans e.symm)
theorem Rel.chgD {env : En} {σ : L2.St} {H F : Hp} (r : Rel B env σ H F) {i : Nat} {l' : List (Key × D)} {a : Addr} {vs vs' : List (Key × V)} (hσ : σ[i]? = some (some (.ref a))) (h2 : H a = some (.dK vs)) (h3 : Free B.H0 a) (h4 : F a = none) (no : NoOwn (env.set i none) (σ.set i none) a) (h5 : RepK B.K F vs' l') (h6 : l'.length ≤ sizeLine) :
    Rel B (env.set i (some (.od l'))) σ (upd H a (.dK vs')) F := by
  have r1 := (rel_drop r i).mut h3 (tabs_mutK (o := .dK vs') h2) h4 no (soft_dK h2)
  have r2 := r1.putO (i := i) upd_same h3 h4 h5 h6 no
  have e1 : (env.set i none).set i (some (.od l')) = env.set i (some (.od l')) := List.set_set ..
  have e2 : (σ.set i none).set i (some (V.ref a)) = σ := by
    rw [List.set_set]
    refine List.ext_getElem? fun j => ?_
    by_cases e : i = j
    · subst e
      rw [List.getElem?_set_self (List.getElem?_eq_some_iff.mp hσ).1, hσ]
    · rw [List.getElem?_set_ne e]
  rw [e1, e2] at r2
  exact r2
end
end Mk
set_option maxHeartbeats 2000000
namespace Mk
open PySem PySem.Spec PyProof.Rows L2 HotX L2H LamX
section
variable {G : Gx} {B : Bd} {k : Nat} {X : Cx} {pins : List (Addr × Obj)} {σ : L2.St} {H F : Hp} {s : Shared}
theorem Rel.putS {env : En} (r : Rel B env σ H F) {i : Nat} {a : Addr} {sv : SV} (hv : SlotR B H F (.ref a) sv) (no : NoOwn env σ a) : Rel B (env.set i (some sv)) (σ.set i (some (.ref a))) H F where
  ext := r.ext
  tab := r.tab
  len := by rw [List.length_set, List.length_set, r.len]
  slot := fun j s h => by
    by_cases e : i = j
    · subst e
      by_cases hl : i < env.length
      · rw [List.getElem?_set_self hl] at h
        have hs : sv = s := Option.some.inj (Option.some.inj h)
        subst hs
        exact ⟨.ref a, List.getElem?_set_self (by rw [← r.len]; exact hl), hv⟩
      · rw [List.getElem?_eq_none (by rw [List.length_set]; omega)] at h
        cases h
    · rw [List.getElem?_set_ne e] at h ⊢
      exact r.slot j s h
  dist := fun j m s s' hne q1 q2 o1 o2 => by
    have key : ∀ (j m : Nat) (s' : SV), i = j → j ≠ m → (env.set i (some sv))[j]? ≠ none → (env.set i (some sv))[m]? = some (some s') → s'.isOwn = true → (σ.set i (some (.ref a)))[j]? ≠ (σ.set i (some (.ref a)))[m]? := fun j m s' e hne q1 q2 o2 => by
      subst e
      have hi : i < σ.length := by
        cases hz : (env.set i (some sv))[i]? with
        | none => exact (q1 hz).elim
        | some t =>
          have := (List.getElem?_eq_some_iff.mp hz).1
          rw [List.length_set, r.len] at this
          exact this
      rw [List.getElem?_set_self hi, List.getElem?_set_ne hne]
      rw [List.getElem?_set_ne hne] at q2
      exact fun z => no m s' q2 o2 z.symm
    by_cases e1 : i = j
    · exact key j m s' e1 hne (by rw [q1]; exact fun z => by cases z) q2 o2
    · by_cases e2 : i = m
      · exact fun z => key m j s e2 (Ne.symm hne) (by rw [q2]; exact fun z => by cases z) q1 o1 z.symm
      · rw [List.getElem?_set_ne e1] at q1 ⊢
        rw [List.getElem?_set_ne e2] at q2 ⊢
        exact r.dist j m s s' hne q1 q2 o1 o2
end
end Mk
set_option maxHeartbeats 2000000
namespace Mk
open PySem PySem.Spec PyProof.Rows L2 HotX L2H LamX
theorem callR_locked {X : Cx} {f : Value} {r : List V → Hp → VK → Prop} (h : CallR X f r) : CallR X f (fun xs H Q => r xs H fun v H' => ∃ d u, v = .ref d ∧ H' d = some u ∧ Mut (some u) ∧ ∀ od, Q v (upd H' d (.frz od u))) := by
  intro pins s σ H xs us Q I rv hq
  exact thn (h pins s σ H xs us _ I rv hq) fun u s1 ⟨x, H1, I1, rx, d, o, e, hd, mu, q⟩ => by
    obtain ⟨od, I2⟩ := I1.lock hd mu
    exact ⟨x, _, I2, rx, q od⟩
def pairsD : List D → Option (List (Key × D))
  | [] => some []
  | .tup [k, v] :: l => (kOf k).bind fun kk => (pairsD l).map ((kk, v) :: ·)
  | _ :: _ => none
def dictD : D → R D
  | .dic l => .ok (.dic l)
  | .lst l => match pairsD l with
    | some kvs => if (kvs.map (·.1)).Nodup ∧ kvs.length ≤ LIM then .ok (.dic kvs) else .bad
    | none => .bad
  | _ => .bad
def getD3 : D → D → D → R D
  | .dic l, y, z => match kOf y with
    | some kk => .ok ((lookK l kk).getD z)
    | none => .bad
  | _, _, _ => .bad
def eGet (f g h : En → R D) : En → R D := fun env => (f env).bind fun a => match a with
  | .dic l => (g env).bind fun b => (h env).bind fun c => getD3 (.dic l) b c
  | _ => .bad
def keyD : Key → D
  | .inl i => .int i
  | .inr s => .str s
def kyOk : Key → Bool
  | .inl _ => true
  | .inr s => sokB s
def itK : D → R (List D)
  | .dic l => if l.all (fun kv => kyOk kv.1) = true then .ok (l.map fun kv => keyD kv.1) else .bad
  | _ => .bad
theorem key_rep {K : PySem.W.Frag} {F : Hp} {k : Key} (h : kyOk k = true) : Rep K F (kV k) (keyD k) := by
  cases k with
  | inl i => exact .int i
  | inr s => exact .str s (sok_of h)
theorem pairs_cons {d : D} {l : List D} {kvs : List (Key × D)} (h : pairsD (d :: l) = some kvs) : ∃ dk dv kk rest, d = .tup [dk, dv] ∧ kOf dk = some kk ∧ pairsD l = some rest ∧ kvs = (kk, dv) :: rest := by
  unfold pairsD at h
  split at h
  · rename_i e; cases e
  · rename_i dk dv l' e
    cases e
    cases hk : kOf dk with
    | none => rw [hk] at h; cases h
    | some kk =>
      rw [hk] at h
      simp only [Option.bind_some] at h
      cases hr : pairsD l with
      | none => rw [hr] at h; cases h
      | some rest =>
        rw [hr] at h
        cases h
        exact ⟨dk, dv, kk, rest, rfl, hk, rfl, rfl⟩
  · cases h
theorem pairs_rep {K K' : PySem.W.Frag} {F H : Hp} (eK : K = K') (sub : Same F H) : ∀ {xs : List V} {l : List D} {kvs : List (Key × D)}, RepL K F xs l → pairsD l = some kvs →
    ∃ (ps : List Addr) (kw : List (Key × V)), xs = ps.map V.ref ∧ Paired (fun p kv => SqT K' H p [kV kv.1, kv.2]) ps kw ∧ RepK K F kw kvs
  | _, _, _, .nil, h => by
    cases h
    exact ⟨[], [], rfl, .nil, .nil⟩
  | _, _, _, .cons hd r, h => by
    obtain ⟨dk, dv, kk, rest, rfl, hk, hr, rfl⟩ := pairs_cons h
    cases hd with
    | tup h1 r1 z1 =>
      cases r1 with
      | cons k1 r1 =>
        cases r1 with
        | cons k2 r1 =>
          cases r1
          obtain ⟨ps, kw, e1, e2, e3⟩ := pairs_rep eK sub r hr
          refine ⟨_ :: ps, (kk, _) :: kw, by rw [List.map_cons, ← e1], .cons ?_ e2, .cons k2 e3⟩
          rw [← eK]
          show SqT K H _ [kV kk, _]
          rw [← kOf_V k1 hk]
          exact sqT_mono sub h1
section
variable {G : Gx} {B : Bd} {k : Nat} {X : Cx} {a b c tg : Expr} {f g h : En → R D} {pos : Pos}
theorem e_dict0 : PE X (.Dict [] [] pos) (tE B (eC (.dic []))) := by
  refine PE.imp (pe_locked pe_dnewK) fun σ H Q ⟨env, F, r, q⟩ p hp => ?_
  refine ⟨p, .dK [], rfl, upd_same, trivial, fun od => ?_⟩
  rw [upd_upd]
  have E := r.frz (o := .frz od (.dK [])) hp (fun ps z => by cases z)
  exact q _ _ _ E (.dic upd_same .nil (Nat.zero_le _))
theorem t_dict [Calm G] : FunS G B k (.type "dict") dictD := fun X O => ⟨_, callR_locked (call_dictD.or (call_dictP O.calmX)), fun x a H F σ env Q r rx q => by
  cases a with
  | dic l =>
    obtain ⟨a1, xs, e1, h1, r1, z1⟩ := rx.dic r.ext.sub
    subst e1
    refine .inl ⟨a1, xs, rfl, h1, fun p hp => ⟨p, .dK xs, rfl, upd_same, trivial, fun od => ?_⟩⟩
    rw [upd_upd]
    have E := r.frz (o := .frz od (.dK xs)) hp (fun ps z => by cases z)
    exact q _ _ _ E (.dic upd_same (r1.mono E.fsame) z1)
  | lst l =>
    simp only [dictD] at q
    cases hk : pairsD l with
    | none => rw [hk] at q; exact q.elim
    | some kvs =>
      rw [hk] at q
      simp only at q
      by_cases hc : (kvs.map (·.1)).Nodup ∧ kvs.length ≤ LIM
      · rw [if_pos hc] at q
        obtain ⟨a1, xs, e1, h1, r1, z1⟩ := rx.lst r.ext.sub
        subst e1
        obtain ⟨ps, kw, ex, pr, rk⟩ := pairs_rep O.K r.ext.sub r1 hk
        refine .inr ⟨a1, ps, kw, rfl, by rw [← ex]; exact SqL.of h1, pr, fun p hp => ⟨p, _, rfl, upd_same, trivial, fun od => ?_⟩⟩
        rw [upd_upd, merge_nodup [] kw (fun _ _ _ z => nomatch z) (by rw [repK_keys rk]; exact hc.1), List.nil_append]
        have E := r.frz (o := .frz od (.dK kw)) hp (fun ps z => by cases z)
        exact q _ _ _ E (.dic upd_same (rk.mono E.fsame) (by rw [← LIM_eq]; exact hc.2))
      · rw [if_neg hc] at q; exact q.elim
  | _ => exact q.elim⟩
theorem e_get {apos cpos : Pos} (O : OkX G B k X) (ha : PE X a (tE B f)) (hb : PE X b (tE B g)) (hc : PE X c (tE B h)) (m1 : attributeBase a "get" X.env (eval a X.env) = eval a X.env := by rfl)
    (m2 : ((backTo cpos (starEach [b, c] X.env)).all (fun x => !x.1) && (backToKw cpos (keywordEach [] X.env)).all (fun x => x.1.isSome) && decide (([b, c] : List Expr).length + ([] : List Keyword).length + (if ([] : List Keyword).isEmpty then 0 else 1) < 30)) = true := by rfl)
    (m3 : (apos.endLine == cpos.line) = true := by rfl) (m4 : backTo cpos (starEach [b, c] X.env) = [(false, eval b X.env), (false, eval c X.env)] := by rfl) :
    PE X (.Call (.Attribute a "get" apos) [b, c] [] cpos) (tE B (eGet f g h)) := by
  refine PE.imp (pe_dget2 (by have := O.room.units; omega) ha hb hc ⟨m1, m2, m3, m4⟩) fun σ H Q ⟨env, F, rel, q⟩ => ⟨env, F, rel, ?_⟩
  rcases q.bind with ⟨d, ea, q⟩ | ⟨c, ea, q⟩
  · rw [ea]
    intro x H1 F1 e1 rx
    cases d with
    | dic l =>
      cases rx with
      | dic h1 r1 z1 =>
        refine ⟨_, rfl, .inl ⟨_, .inr ⟨_, (rel.mono e1).ext.sub _ _ h1⟩⟩, env, F1, rel.mono e1, ?_⟩
        rcases q.bind with ⟨d2, eb, q⟩ | ⟨c, eb, q⟩
        · rw [eb]
          intro y H2 F2 e2 ry
          refine ⟨env, F2, rel.mono (e1.trans e2), ?_⟩
          rcases q.bind with ⟨d3, ec, q⟩ | ⟨c, ec, q⟩
          · rw [ec]
            intro z H3 F3 e3 rz
            cases hk : kOf d2 with
            | none =>
              have q' : Good B H F Q .bad := by
                have := q
                simp only [getD3, hk] at this
                exact this
              exact q'.elim
            | some kk =>
              simp only [getD3, hk] at q
              have s3 := (rel.mono ((e1.trans e2).trans e3)).ext.sub
              have f3 := (e2.trans e3).fsame
              refine ⟨_, .inl ⟨_, kk, .inr ⟨_, s3 _ _ (f3 _ _ h1)⟩, kOf_V ry hk, rfl⟩, q _ _ _ ((e1.trans e2).trans e3) ?_⟩
              obtain ⟨g1, g2⟩ := repK_look (k := kk) r1
              cases hv : valV _ kk with
              | none => rw [g2 hv]; exact rz
              | some v =>
                obtain ⟨d', hd, rd⟩ := g1 v hv
                rw [hd]
                exact rd.mono f3
          · rw [ec]; exact q
        · rw [eb]; exact q
    | _ => exact q.elim
  · rw [ea]; exact q
theorem i_keys (O : OkX G B k X) (ha : PE X a (tE B f)) : PI X tg a (tI B (opI f itK)) := by
  refine PI.imp (pi_keys ha) fun σ H Q ⟨env, F, rel, q⟩ => ⟨env, F, rel, ?_⟩
  unfold opI at q
  cases hf : f env with
  | exc c => rw [hf] at q; exact q
  | bad => rw [hf] at q; exact q
  | ok d =>
    rw [hf] at q
    intro x H1 F1 e1 rx
    cases d with
    | dic l =>
      simp only [R.bind, itK] at q
      by_cases hk : l.all (fun kv => kyOk kv.1) = true
      · rw [if_pos hk] at q
        cases rx with
        | dic h1 r1 z1 =>
          rename_i a1 ob xs
          refine ⟨a1, ob, rfl, .inl ⟨xs, (rel.mono e1).ext.sub _ _ h1, q _ _ _ e1 ⟨fun H' => H' a1 = some (.frz ob (.dK xs)), _, (by rw [List.length_map, ← repK_len r1]; exact walk_keys), fun H' hs => hs _ _ h1, fun i H' F' x H'' hi s1 s2 nt y => ?_⟩⟩⟩
          obtain ⟨rfl, kk, v, hx, rfl⟩ := y
          have ek := repK_keys r1
          have el : (l.map (·.1))[i]? = some kk := by
            rw [← ek, List.getElem?_map, hx]
            rfl
          rw [List.getElem?_map] at el
          obtain ⟨kv, hkv, rfl⟩ := Option.map_eq_some_iff.mp el
          exact ⟨F', keyD kv.1, .stay s2 nt, by rw [List.getElem?_map, hkv]; rfl, key_rep (List.all_eq_true.mp hk kv (List.mem_of_getElem? hkv))⟩
      · rw [if_neg hk] at q; exact q.elim
    | _ => exact q.elim
def listK : D → R D
  | .dic l => if l.all (fun kv => kyOk kv.1) = true then .ok (.lst (l.map fun kv => keyD kv.1)) else .bad
  | _ => .bad
theorem repL_keys {K : PySem.W.Frag} {F F' : Hp} : ∀ {vs : List (Key × V)} {l : List (Key × D)}, RepK K F vs l → l.all (fun kv => kyOk kv.1) = true → RepL K F' (vs.map fun kv => kV kv.1) (l.map fun kv => keyD kv.1)
  | _, _, .nil, _ => .nil
  | _, _, .cons h r, hk => by
    simp only [List.all_cons, Bool.and_eq_true] at hk
    exact .cons (key_rep hk.1) (repL_keys r hk.2)
theorem t_listK [Calm G] : FunS G B k (.type "list") listK := fun X O => ⟨_, call_listD O.calmX, fun x a H F σ env Q r rx q => by
  cases a with
  | dic l =>
    simp only [listK] at q
    by_cases hk : l.all (fun kv => kyOk kv.1) = true
    · rw [if_pos hk] at q
      obtain ⟨a1, xs, e1, h1, r1, z1⟩ := rx.dic r.ext.sub
      subst e1
      refine ⟨a1, xs, rfl, h1, fun p hp => ?_⟩
      have E := r.frz (o := .lst (xs.map fun kv => kV kv.1)) hp (fun ps z => by cases z)
      exact q _ _ _ E (.lst upd_same (repL_keys r1 hk) (by rw [List.length_map]; exact z1))
    · rw [if_neg hk] at q; exact q.elim
  | _ => exact q.elim⟩
def leS (a b : Str) : Bool := !ltCps b.cps.toList a.cps.toList
theorem leS_iff {a b : Str} : leS a b = true ↔ a.cps.toList ≤ b.cps.toList := by
  unfold leS
  rw [ltCps_eq, Bool.not_eq_true', decide_eq_false_iff_not, List.not_lt]
theorem sorted_pw : ∀ {l : List Str}, sortedS l = true → l.Pairwise fun a b => a.cps.toList ≤ b.cps.toList
  | [], _ => .nil
  | [x], _ => List.pairwise_singleton _ _
  | x :: y :: r, h => by
    have h' : (!ltCps y.cps.toList x.cps.toList && risingS y r) = true := h
    rw [Bool.and_eq_true] at h'
    have ih := sorted_pw (l := y :: r) h'.2
    have xy : x.cps.toList ≤ y.cps.toList := leS_iff.mp h'.1
    refine List.pairwise_cons.mpr ⟨fun z hz => ?_, ih⟩
    rcases List.mem_cons.mp hz with rfl | hz
    · exact xy
    · exact List.le_trans xy ((List.pairwise_cons.mp ih).1 z hz)
theorem strS_ext {x y : Str} (h : x.cps.toList = y.cps.toList) : x = y := by
  cases x
  cases y
  congr
  exact Array.toList_inj.mp h
theorem srtS_uniq : ∀ {l m : List Str}, l.Perm m → (l.Pairwise fun a b => a.cps.toList ≤ b.cps.toList) → (m.Pairwise fun a b => a.cps.toList ≤ b.cps.toList) → l = m
  | [], m, h, _, _ => (List.Perm.nil_eq h)
  | a :: l, [], h, _, _ => by have := h.length_eq; simp at this
  | a :: l, b :: m, h, h1, h2 => by
    have ha : a ∈ b :: m := h.mem_iff.mp List.mem_cons_self
    have hb : b ∈ a :: l := h.mem_iff.mpr List.mem_cons_self
    have e1 : b.cps.toList ≤ a.cps.toList := by
      rcases List.mem_cons.mp ha with z | z
      · rw [z]; exact List.le_refl _
      · exact (List.pairwise_cons.mp h2).1 a z
    have e2 : a.cps.toList ≤ b.cps.toList := by
      rcases List.mem_cons.mp hb with z | z
      · rw [z]; exact List.le_refl _
      · exact (List.pairwise_cons.mp h1).1 b z
    have e : a = b := strS_ext (List.le_antisymm e2 e1)
    subst e
    rw [srtS_uniq ((List.perm_cons a).mp h) (List.pairwise_cons.mp h1).2 (List.pairwise_cons.mp h2).2]
def insS (x : Str) : List Str → List Str
  | [] => [x]
  | y :: l => if leS x y = true then x :: y :: l else y :: insS x l
def srtS : List Str → List Str
  | [] => []
  | x :: l => insS x (srtS l)
theorem insS_perm (x : Str) : ∀ l : List Str, (insS x l).Perm (x :: l)
  | [] => .refl _
  | y :: l => by
    unfold insS
    split
    · exact .refl _
    · exact ((insS_perm x l).cons y).trans (.swap x y l)
theorem srtS_perm : ∀ l : List Str, (srtS l).Perm l
  | [] => .refl _
  | x :: l => (insS_perm x _).trans ((srtS_perm l).cons x)
theorem insS_pw (x : Str) : ∀ {l : List Str}, (l.Pairwise fun a b => a.cps.toList ≤ b.cps.toList) → (insS x l).Pairwise fun a b => a.cps.toList ≤ b.cps.toList
  | [], _ => List.pairwise_singleton _ _
  | y :: l, h => by
    unfold insS
    obtain ⟨h1, h2⟩ := List.pairwise_cons.mp h
    split
    · rename_i e
      have xy := leS_iff.mp e
      refine List.pairwise_cons.mpr ⟨fun z hz => ?_, h⟩
      rcases List.mem_cons.mp hz with rfl | hz
      · exact xy
      · exact List.le_trans xy (h1 z hz)
    · rename_i e
      refine List.pairwise_cons.mpr ⟨fun z hz => ?_, insS_pw x h2⟩
      rcases List.mem_cons.mp ((insS_perm x l).mem_iff.mp hz) with rfl | hz
      · rcases List.le_total z.cps.toList y.cps.toList with q | q
        · exact absurd (leS_iff.mpr q) e
        · exact q
      · exact h1 z hz
theorem srtS_pw : ∀ l : List Str, (srtS l).Pairwise fun a b => a.cps.toList ≤ b.cps.toList
  | [] => .nil
  | x :: l => insS_pw x (srtS_pw l)
theorem srtS_is {l ys : List Str} (h1 : ys.Perm l) (h2 : sortedS ys = true) : ys = srtS l := srtS_uniq (h1.trans (srtS_perm l).symm) (sorted_pw h2) (srtS_pw l)
def strK : List (Key × D) → Option (List Str)
  | [] => some []
  | (.inr s, _) :: l => (strK l).map (s :: ·)
  | (.inl _, _) :: _ => none
theorem strK_keys : ∀ {l : List (Key × D)} {ks : List Str}, strK l = some ks → l.map (·.1) = ks.map Sum.inr
  | [], ks, h => by cases h; rfl
  | (.inr s, d) :: l, ks, h => by
    unfold strK at h
    cases hz : strK l with
    | none => rw [hz] at h; cases h
    | some k2 =>
      rw [hz] at h
      cases h
      rw [List.map_cons, strK_keys hz]
      rfl
  | (.inl _, _) :: _, ks, h => by cases h
def srtT : D → R D
  | .dic l => match strK l with
    | some ks => if ks.length < 64 ∧ ks.all sokB = true then .ok (.lst ((srtS ks).map .str)) else .bad
    | none => .bad
  | .lst l => match strsD l with
    | some ks => if ks.length < 64 ∧ ks.all sokB = true then .ok (.lst ((srtS ks).map .str)) else .bad
    | none => .bad
  | _ => .bad
theorem all_perm {l m : List Str} (h : l.Perm m) (ha : m.all sokB = true) : l.all sokB = true := List.all_eq_true.mpr fun x hx => List.all_eq_true.mp ha x (h.mem_iff.mp hx)
theorem b_sortedT [Calm G] : FunS G B k (.builtin "sorted") srtT := fun X O => ⟨_, (call_sortedD O.calmX).or cr_sortedS, fun x a H F σ env Q r rx q => by
  have fin : ∀ (ks ys : List Str) (p : Addr), ks.length < 64 ∧ ks.all sokB = true → Good B H F Q (.ok (.lst ((srtS ks).map .str))) → ys.Perm ks → sortedS ys = true → H p = none → Q (.ref p) (upd H p (.lst (ys.map V.str))) := fun ks ys p hc q h1 h2 hp => by
    have ey := srtS_is h1 h2
    subst ey
    have E := r.frz (o := .lst ((srtS ks).map V.str)) hp (fun ps z => by cases z)
    refine q _ _ _ E (.lst upd_same (repL_strs (all_perm (srtS_perm ks) hc.2)) ?_)
    rw [List.length_map, (srtS_perm ks).length_eq]
    exact Nat.le_trans (Nat.le_of_lt hc.1) (by decide)
  cases a with
  | dic l =>
    simp only [srtT] at q
    cases hk : strK l with
    | none => rw [hk] at q; exact q.elim
    | some ks =>
      rw [hk] at q
      simp only at q
      by_cases hc : ks.length < 64 ∧ ks.all sokB = true
      · rw [if_pos hc] at q
        obtain ⟨a1, xs, e1, h1, r1, z1⟩ := rx.dic r.ext.sub
        subst e1
        exact .inl ⟨a1, xs, ks, rfl, h1, by rw [repK_keys r1]; exact strK_keys hk, hc.1, fun ys p => fin ks ys p hc q⟩
      · rw [if_neg hc] at q; exact q.elim
  | lst l =>
    simp only [srtT] at q
    cases hk : strsD l with
    | none => rw [hk] at q; exact q.elim
    | some ks =>
      rw [hk] at q
      simp only at q
      by_cases hc : ks.length < 64 ∧ ks.all sokB = true
      · rw [if_pos hc] at q
        obtain ⟨a1, xs, e1, h1, r1, z1⟩ := rx.lst r.ext.sub
        subst e1
        have ex := strs_rep r1 hk
        subst ex
        exact .inr ⟨a1, ks, rfl, SqL.of h1, hc.1, fun ys p => fin ks ys p hc q⟩
      · rw [if_neg hc] at q; exact q.elim
  | _ => exact q.elim⟩
theorem op_eq0 {X : Cx} (hu : X.A.units < cLine) : OpR X (compareOp .Eq) (fun x y H Q => ∃ a b xs ys, x = .ref a ∧ y = .ref b ∧ SqL X.K H a xs ∧ SqL X.K H b ys ∧ ((xs = [] ∧ ys = [] ∧ Q (.bl true) H) ∨ (xs.length ≠ ys.length ∧ Q (.bl false) H))) := by
  intro pins s σ H x y v u Q I rx ry hq
  obtain ⟨a, b, xs, ys, rfl, rfl, h1, h2, h3⟩ := hq
  cases rx
  cases ry
  obtain ⟨i1, v1, p1, _⟩ := I.list h1
  obtain ⟨i2, v2, p2, _⟩ := I.list h2
  rcases h3 with ⟨rfl, rfl, q⟩ | ⟨hn, q⟩
  · cases v1
    cases v2
    exact SeqAt.RcAt.lists (e := fun _ => true) p1.isList p2.isList rfl hu (fun j h1 _ => by simp at h1) _ _ _ _ ⟨.bl true, H, I, rfl, q⟩
  · refine SeqAt.RcAt.lists_lengths p1.isList p2.isList ?_ hu _ _ _ _ ⟨.bl false, H, I, rfl, q⟩
    rw [List.size_toArray, List.size_toArray, ← v1.length, ← v2.length]
    simpa using hn
theorem op_ne0 {X : Cx} (hu : X.A.units < cLine) : OpR X (compareOp .NotEq) (fun x y H Q => ∃ a b xs ys, x = .ref a ∧ y = .ref b ∧ SqL X.K H a xs ∧ SqL X.K H b ys ∧ ((xs = [] ∧ ys = [] ∧ Q (.bl false) H) ∨ (xs.length ≠ ys.length ∧ Q (.bl true) H))) := by
  intro pins s σ H x y v u Q I rx ry hq
  obtain ⟨a, b, xs, ys, rfl, rfl, h1, h2, h3⟩ := hq
  cases rx
  cases ry
  obtain ⟨i1, v1, p1, _⟩ := I.list h1
  obtain ⟨i2, v2, p2, _⟩ := I.list h2
  rcases h3 with ⟨rfl, rfl, q⟩ | ⟨hn, q⟩
  · cases v1
    cases v2
    exact SeqAt.RcNeAt.lists (e := fun _ => true) p1.isList p2.isList rfl hu (fun j h1 _ => by simp at h1) _ _ _ _ ⟨.bl false, H, I, rfl, q⟩
  · refine SeqAt.RcNeAt.lists_lengths p1.isList p2.isList ?_ hu _ _ _ _ ⟨.bl true, H, I, rfl, q⟩
    rw [List.size_toArray, List.size_toArray, ← v1.length, ← v2.length]
    simpa using hn
def eq0D : D → D → R Bool
  | .lst [], .lst [] => .ok true
  | .lst (_ :: _), .lst [] => .ok false
  | _, _ => .bad
def ne0D : D → D → R Bool
  | .lst [], .lst [] => .ok false
  | .lst (_ :: _), .lst [] => .ok true
  | _, _ => .bad
theorem c_eq0 : CmpS G B k .Eq eq0D := fun X O => ⟨_, op_eq0 O.room.units0, fun x y a b H F σ env Q r rx ry q => by
  have sub := r.ext.sub
  unfold eq0D at q
  split at q
  · obtain ⟨a1, xs, e1, h1, r1, z1⟩ := rx.lst sub
    obtain ⟨a2, ys, e2, h2, r2, z2⟩ := ry.lst sub
    cases r1
    cases r2
    exact ⟨a1, a2, [], [], e1, e2, SqL.of h1, SqL.of h2, .inl ⟨rfl, rfl, _, rfl, q.now r⟩⟩
  · obtain ⟨a1, xs, e1, h1, r1, z1⟩ := rx.lst sub
    obtain ⟨a2, ys, e2, h2, r2, z2⟩ := ry.lst sub
    cases r2
    refine ⟨a1, a2, xs, [], e1, e2, SqL.of h1, SqL.of h2, .inr ⟨?_, _, rfl, q.now r⟩⟩
    rw [r1.length]
    simp
  · exact q.elim⟩
theorem c_ne0 : CmpS G B k .NotEq ne0D := fun X O => ⟨_, op_ne0 O.room.units0, fun x y a b H F σ env Q r rx ry q => by
  have sub := r.ext.sub
  unfold ne0D at q
  split at q
  · obtain ⟨a1, xs, e1, h1, r1, z1⟩ := rx.lst sub
    obtain ⟨a2, ys, e2, h2, r2, z2⟩ := ry.lst sub
    cases r1
    cases r2
    exact ⟨a1, a2, [], [], e1, e2, SqL.of h1, SqL.of h2, .inl ⟨rfl, rfl, _, rfl, q.now r⟩⟩
  · obtain ⟨a1, xs, e1, h1, r1, z1⟩ := rx.lst sub
    obtain ⟨a2, ys, e2, h2, r2, z2⟩ := ry.lst sub
    cases r2
    refine ⟨a1, a2, xs, [], e1, e2, SqL.of h1, SqL.of h2, .inr ⟨?_, _, rfl, q.now r⟩⟩
    rw [r1.length]
    simp
  · exact q.elim⟩
end
end Mk
set_option maxHeartbeats 3200000
namespace Mk
open PySem PySem.Spec PyProof.Rows L2 HotX L2H LamX
def dstep (σ : List Str) (v : Str) : List Str := if σ.any (· == v) = true then σ else σ ++ [v]
def dfold (ks : List Str) : List Str := ks.foldl dstep []
theorem dfold_snoc (ks : List Str) (v : Str) : dfold (ks ++ [v]) = dstep (dfold ks) v := by
  unfold dfold
  rw [List.foldl_append]
  rfl
theorem dstep_any (σ : List Str) (v k : Str) : (dstep σ v).any (· == k) = (σ.any (· == k) || decide (k = v)) := by
  unfold dstep
  split
  · rename_i h
    by_cases e : k = v
    · rw [e, h]; simp
    · rw [decide_eq_false e, Bool.or_false]
  · rw [List.any_append]
    congr 1
    by_cases e : k = v
    · rw [e]; simp
    · rw [decide_eq_false e]
      have : ¬ v = k := fun z => e z.symm
      simp [this]
theorem dstep_len (σ : List Str) (v : Str) : (dstep σ v).length = if σ.any (· == v) = true then σ.length else σ.length + 1 := by
  unfold dstep
  split
  · rfl
  · rw [List.length_append]; rfl
theorem dfold_le (ks : List Str) : (dfold ks).length ≤ ks.length := by
  have : ∀ (l : List Str) (σ : List Str), (l.foldl dstep σ).length ≤ σ.length + l.length := by
    intro l
    induction l with
    | nil => intro σ; exact Nat.le_refl _
    | cons x l ih =>
      intro σ
      have h1 := ih (dstep σ x)
      have h2 := dstep_len σ x
      rw [List.foldl_cons, List.length_cons]
      split at h2 <;> omega
  have := this ks []
  simpa [dfold] using this
section
variable {P : Program} {w : World} {A : Around} {E : Value → Shared → Prop} {s : Shared}
theorem setT_kept {h h' : Heap} {a : Addr} {S : Str → Bool} {n : Nat} (R : h.SetOf (PySem.strKind P w) a S n) (k : ∀ o, h.get? a = some o → h'.get? a = some o) : h'.SetOf (PySem.strKind P w) a S n := by
  obtain ⟨o, es, ep, t, ho, r⟩ := R
  exact ⟨o, es, ep, t, k o ho, r⟩
theorem setT_as {h : Heap} {a : Addr} {S S' : Str → Bool} {n n' : Nat} (R : h.SetOf (PySem.strKind P w) a S n) (e : ∀ k, S k = S' k) (en : n = n') : h.SetOf (PySem.strKind P w) a S' n' := by
  have : S = S' := funext e
  subst this
  subst en
  exact R
theorem txt_update {I : Addr} {fp wr : List Addr} {G : Array GenState → Array GenState → Prop} {n : Nat} {Pv : Nat → Value → Prop} {St : Nat → Shared → Prop} {R : Result → Shared → Prop} (W : WalksS P w A.in1 I fp wr G n Pv St) (S : Addr) (apart : S ∉ fp)
    (ks : List Str) (en : n = ks.length) (few : ks.length < 64) (item : ∀ i v, Pv i v → ∃ x t, ks[i]? = some x ∧ v = .str x t) :
    ∀ (m i : Nat) (s : Shared), n - i = m → i ≤ n → St i s → s.heap.SetOf (PySem.strKind P w) S (fun k => (dfold (ks.take i)).any (· == k)) (dfold (ks.take i)).length →
      (∀ s', Moved (S :: wr) G s s' → s'.heap.SetOf (PySem.strKind P w) S (fun k => (dfold ks).any (· == k)) (dfold ks).length → R (.ok (.ret .none)) s') →
      codeAny (model P w) A (.builtin "set.update.loop" ⟨[.ref S, .ref I], []⟩) R s := by
  have Swr : S ∉ wr := fun z => apart (W.sub _ z)
  have wider : ∀ b ∈ wr, b ∈ S :: wr := fun b z => List.mem_cons_of_mem _ z
  intro m
  induction m with
  | zero =>
    intro i s em li st B fin
    have ei : i = n := by omega
    subst ei
    refine codeAny_builtin F.entry_set_update_loop ?_
    rw [Around.under_plainId F.plain_set_update_loop _]
    show wpAny _ A.in1 (pyNext (.ref I) >>= _) _ _ s
    refine wpAny_bind (W.done s _ _ st fun s' mv => ?_)
    show wpAny _ A.in1 (ret Value.none) _ _ s'
    rw [en, List.take_length] at B
    exact wpAny_pure (fin s' (mv.mono wider) (setT_kept B fun o e => mv.heap S o Swr e))
  | succ m ih =>
    intro i s em li st B fin
    have lt : i < n := by omega
    refine codeAny_builtin F.entry_set_update_loop ?_
    rw [Around.under_plainId F.plain_set_update_loop _]
    show wpAny _ A.in1 (pyNext (.ref I) >>= _) _ _ s
    refine wpAny_bind (W.item i s _ _ lt st fun v s' pv st' mv => ?_)
    obtain ⟨x, t, hx, rfl⟩ := item i v pv
    have B' := setT_kept B fun o e => mv.heap S o Swr e
    have tk : ks.take (i + 1) = ks.take i ++ [x] := by
      rw [List.take_succ, hx]
      rfl
    show wpAny _ A.in1 (holding [Value.str x t] (setAdd S (.str x t)) >>= _) _ _ s'
    refine wpAny_bind (wpAny_holding ?_)
    unfold setAdd
    have isx : (PySem.strKind P w).is x (.str x t) = true := PySem.Froz.is_str x t
    refine wpAny_holding (wpAny_bind ((PySem.strKind P w).pyHash (k := x) isx ?_))
    have rm : (dfold (ks.take i)).length + 1 < scanBound := by
      have := dfold_le (ks.take i)
      have := List.length_take_le i ks
      unfold scanBound
      omega
    refine wpAny_setAddHashed_of (knd := PySem.strKind P w) (s := { s' with toks := s'.toks + 1 }) isx rfl B' rm fun h' sb B2 => ?_
    have B3 : h'.SetOf (PySem.strKind P w) S (fun k => (dfold (ks.take (i + 1))).any (· == k)) (dfold (ks.take (i + 1))).length := setT_as B2 (fun k => by rw [tk, dfold_snoc, dstep_any]) (by rw [tk, dfold_snoc, dstep_len])
    refine wpAny_pure ⟨plainId_quiet F.plain_set_update_loop _, ih (i + 1) _ (by omega) lt (W.frame _ s' _ _ st' (Nat.le_succ _) fun b hb o e => ?_) B3 fun s2 mv2 B4 => ?_⟩
    · rw [sb.2 b (fun z => apart (by rw [← z]; exact hb))]; exact e
    · refine fin s2 (Moved.trans W.gtrans ((mv.mono wider).then_heap (Nat.le_succ _) fun b o hb e => ?_) mv2) B4
      rw [sb.2 b (fun z => hb (by rw [z]; exact List.mem_cons_self))]; exact e
theorem txt_of_list {l : Addr} {items : Array Value} (ks : List Str) {Q : Value → Shared → Prop} (calm0 : A.handled = none) (isl : s.heap.IsList l items) (its : StrsAre items.toList ks) (few : ks.length < 64)
    (h : ∀ (h' : Heap) (tk : Nat), h'.SetOf (PySem.strKind P w) s.heap.objs.size (fun k => (dfold ks).any (· == k)) (dfold ks).length → (∀ b o, s.heap.get? b = some o → h'.get? b = some o) → Q (.ref s.heap.objs.size) { s with heap := h', toks := tk }) :
    wpAny (model P w) A (call (.type "set") [.ref l]) Q E s := by
  have szn : items.size = ks.length := by rw [← StrsAre.len_eq its, Array.length_toList]
  obtain ⟨c, tl, m0⟩ := F.called_set.mro
  have m1 := F.called_set.made
  have m2 := F.called_set.sub
  refine wpAny_call (codeAny_of_tree ?_)
  show wpAny _ _ (callAny (.type "set") _) _ _ _
  refine wpAny_pure ⟨Code.quiet_builtin _ (by decide +kernel), codeAny_builtin F.entry_type_call ?_⟩
  rw [Around.under_plain (weight_type_call_type "set" [.ref l] []) rfl]
  have m3 := F.called_set.notType
  have m4 := F.called_set.canCreate
  have m5 := F.typeCall_set_1 (.ref l)
  repeat (any_goals (first | assumption | wp_step))
  refine codeAny_mono (code_set_led1 (.ref l) (E := E) (Q₁ := fun obj s₁ => obj = .ref s.heap.objs.size ∧ s₁ = { s with heap := s.heap.push (newSet w) }) ⟨rfl, rfl⟩) fun r s₁ rr0 => ?_
  cases r with
  | error e => exact rr0
  | ok fl =>
    cases fl with
    | ret obj =>
      obtain ⟨rfl, rfl⟩ := rr0
      have atS : (s.heap.push (newSet w)).get? s.heap.objs.size = some (newSet w) := Heap.get?_push_size _ rfl
      have tyS : Shared.TypeIs { s with heap := s.heap.push (newSet w) } (.ref s.heap.objs.size) "set" := ⟨_, atS, rfl⟩
      have m6 := F.called_set.init.lookup
      have m7 := F.called_set.init.bind (.ref s.heap.objs.size)
      repeat (any_goals (first | assumption | wp_step))
      refine codeAny_mono (codeAny_call_builtin (R := wants (fun r s₂ => r = .none ∧ ∃ h' tk, s₂ = { s with heap := h', toks := tk } ∧ h'.SetOf (PySem.strKind P w) s.heap.objs.size (fun k => (dfold ks).any (· == k)) (dfold ks).length ∧
          (∀ b o, s.heap.get? b = some o → h'.get? b = some o)) E) F.called_set.init.plain F.entry_set_init (check_set_init_1 tyS ?_)) fun r₂ s₂ rr2 => ?_
      · obtain ⟨ol, atl, cl0, nl, dl0⟩ := isl
        obtain ⟨ocls, odict, odata, oslots⟩ := ol
        simp only at cl0 dl0
        subst cl0; subst dl0
        have atl' : (s.heap.push (newSet w)).get? l = some { cls := .type "list", dict := odict, data := .seq items nl, slots := oslots } := Heap.get?_push_of_some _ atl
        have m8 := F.sub_list_set
        have m9 := F.sub_list_frozenset
        have nd0 : (Value.type "list" == Value.type "dict") = false := by decide
        have isl1 : (s.heap.push (newSet w)).IsList l items := ⟨_, atl', rfl, nl, rfl⟩
        unfold Builtin.«set.__init__» noKeywords Builtin.Frozenset.updateFrom
        generalize ePI : pyIter = pI
        wp_walk
        subst ePI
        refine wpAny_pyIter_list isl1 ?_
        refine wpAny_bind (wpAny_runValue ?_)
        have ltl : l < s.heap.objs.size := Heap.lt_size atl
        have calm3 : A.in1.in1.in1.handled = none := by simp [calm0]
        have neI : l ≠ (s.heap.push (newSet w)).objs.size := by
          rw [Heap.size_push]; exact Nat.ne_of_lt (Nat.lt_succ_of_lt ltl)
        have nfp : s.heap.objs.size ∉ [(s.heap.push (newSet w)).objs.size, l] := by
          rw [Heap.size_push]; simp only [List.mem_cons, List.mem_singleton, List.not_mem_nil, or_false, not_or]
          exact ⟨Nat.ne_of_lt (Nat.lt_succ_self _), Nat.ne_of_gt ltl⟩
        have vals : ∀ (i : Nat) (v : Value), items[i]? = some v → ∃ x t, ks[i]? = some x ∧ v = .str x t := fun i v hv => by
          have q : items.toList[i]? = some v := by rw [Array.getElem?_toList]; exact hv
          have hi : i < ks.length := by rw [← szn]; exact (Array.getElem?_eq_some_iff.mp hv).1
          obtain ⟨t, e⟩ := SS.strs_at its i v q
          refine ⟨ks[i], t, List.getElem?_eq_getElem hi, ?_⟩
          rw [e, List.getD_eq_getElem?_getD, List.getElem?_eq_getElem hi]
          rfl
        refine txt_update ((Walks.list calm3 _ l neI items).toS) s.heap.objs.size nfp ks szn few vals (items.size - 0) 0 _ (by omega) (Nat.zero_le _)
          ⟨⟨_, Heap.get?_push_size _ rfl, rfl, rfl⟩, (isl1.push _)⟩ ?cS0 ?cR
        case cS0 =>
          have get0 : ((s.heap.push (newSet w)).push { cls := .type "list_iterator", data := .fields #[.ref l, .int 0 0] }).get? s.heap.objs.size
              = some (newSet w) := Heap.get?_push_of_some _ atS
          exact setT_as ((PyProof.Rows.setObjOf_fresh (knd := PySem.strKind P w) (!w.params.followText "set-order")).setOf get0 (by unfold scanBound; omega)) (fun _ => rfl) rfl
        case cR =>
          intro s' mv B'
          obtain ⟨h', g2, d', tk', os'⟩ := s'
          have e1 : g2 = s.gens := mv.gens
          have e2 : d' = s.drawn := mv.drawn
          have e3 : os' = s.os := mv.os
          subst e1; subst e2; subst e3
          show wpAny _ _ _ _ _ _
          refine wpAny_pure ?_
          show wpAny _ _ (ret Value.none) _ _ _
          refine wpAny_pure ⟨rfl, h', tk', rfl, B', fun b o e => ?_⟩
          have hb := Heap.lt_size e
          refine mv.heap b o ?_ (Heap.get?_push_of_some _ (Heap.get?_push_of_some _ e))
          simp only [List.mem_cons, List.mem_singleton, List.not_mem_nil, or_false, not_or]
          exact ⟨Nat.ne_of_lt hb, by rw [Heap.size_push]; exact Nat.ne_of_lt (Nat.lt_succ_of_lt hb)⟩
      · cases r₂ with
        | error e => exact rr2
        | ok fl₂ =>
          cases fl₂ with
          | ret r =>
            obtain ⟨rfl, h', tk, rfl, B', kp'⟩ := rr2
            repeat (any_goals (first | assumption | wp_step))
            exact h _ _ B' kp'
          | _ => exact rr2.elim
    | _ => exact rr0.elim
end
def lsetD : D → R D
  | .lst l => match strsD l with
    | some ks => if ks.length < 64 then .ok (.int (dfold ks).length) else .bad
    | none => .bad
  | _ => .bad
section
variable {G : Gx} {B : Bd} {k : Nat} {X : Cx} {a : Expr} {f : En → R D} {pos : Pos}
theorem e_lset [Calm G] {p p2 p3 : Pos} (O : OkX G B k X) (hm : G.mg "len" = none) (hm2 : G.mg "set" = none) (ha : PE X a (tO B f)) (hg : Gl X "len" := by rfl) (hg2 : Gl X "set" := by rfl) (na : starEach [a] X.env = (false, eval a X.env) :: starEach [] X.env := by rfl) :
    PE X (.Call (.Name "len" p) [.Call (.Name "set" p2) [a] [] p3] [] pos) (tE B (op1 f lsetD)) := by
  refine ⟨fun pins s σ H Q I ⟨env, F, rel, q⟩ => ?_⟩
  refine Call_ (ld_blt I hg (by rw [O.mg]; exact hm) boot_len ?_)
  refine PyProof.Rows.callWith_builtin1 (PyProof.Rows.args_cons ?_ rfl) rfl rfl
  refine Call_ (ld_blt I hg2 (by rw [O.mg]; exact hm2) boot_set ?_)
  rcases q.bind with ⟨d, ea, q⟩ | ⟨c, ea, q⟩
  · refine PyProof.Rows.callWith_type1 (PyProof.Rows.args_cons (thn (ha.run pins s σ H (fun x H1 => ∃ F1, Ext B.T H F H1 F1 ∧ RepO B H1 F1 x d) I ⟨env, F, rel, by rw [ea]; exact fun v H' F' e r => ⟨F', e, r⟩⟩) fun v s1 ⟨x, H1, I1, r1, F1, e1, ro⟩ => PyProof.Rows.args_nil ?_) na) na rfl
    cases d with
    | lst l =>
      simp only [lsetD] at q
      cases hk : strsD l with
      | none => rw [hk] at q; exact q.elim
      | some ks =>
        rw [hk] at q
        simp only at q
        by_cases h64 : ks.length < 64
        · rw [if_pos h64] at q
          obtain ⟨a1, xs, ex, h1, r2, z1⟩ := ro.lst (rel.mono e1).ext.sub
          subst ex
          cases r1
          have exs := strs_rep r2 hk
          subst exs
          obtain ⟨its, rv, pl, hz⟩ := I1.list (SqL.of h1)
          refine txt_of_list ks (I1.ok.hd O.calmX) pl.isList (by simpa using strsAre_of rv) h64 fun h' tk hS kp => PyProof.Rows.args_nil ?_
          obtain ⟨o, es, ep, t, ho, hex, hd, _, _, _, hf, hn⟩ := hS
          have I2 : Inv X pins σ H1 { s1 with heap := h', toks := tk } := I1.kept kp
          have hlen := dfold_le ks
          refine call_len_set ho hex hd hf (by rw [hn]; omega) ⟨.int ((dfold ks).length : Nat), H1, I2.tok _, ⟨_, by rw [hn]⟩, q _ _ _ e1 (.int _)⟩
        · rw [if_neg h64] at q; exact q.elim
    | _ => exact q.elim
  · exact PyProof.Rows.callWith_type1 (PyProof.Rows.args_cons (thn (ha.run pins s σ H (fun _ _ => False) I ⟨env, F, rel, by rw [ea]; exact q⟩) fun v s1 ⟨x, H1, I1, r1, z⟩ => z.elim) na) na rfl
end
end Mk
set_option maxHeartbeats 3200000
namespace Mk
open PySem PySem.Spec PyProof.Rows L2 HotX L2H LamX
section
variable {G : Gx} {B : Bd} {k : Nat} {X : Cx} {a b e : Expr} {f g fe fk : En → R D} {pos : Pos}
/-- what a slot held alone never changes from now on -/
theorem Rel.fzO {env : En} {σ : L2.St} {H F : Hp} (r : Rel B env σ H F) {a : Addr} {o : HO} (h3 : Free B.H0 a) (h2 : H a = some o) (h4 : F a = none) (ho : ∀ ps, o ≠ .tbl ps) (no : NoOwn env σ a) (n1 : ∀ C dx fs, o ≠ .ins C dx fs) (n2 : ∀ b xs, o ≠ .frz b (.lst xs)) : Rel B env σ H (upd F a o) := by
  have sm := same_upd' (o := o) h4
  refine ⟨r.ext.fz h3 h2 h4 ho, r.tab, r.len, fun j s hs => ?_, r.dist⟩
  obtain ⟨v, q1, q2⟩ := r.slot j s hs
  refine ⟨v, q1, ?_⟩
  cases s with
  | fro d => exact Rep.mono sm q2
  | ol m =>
    obtain ⟨b, ws, rfl, w1, w2, w3, w4, w5⟩ := q2
    have hb : b ≠ a := fun z => no j _ hs rfl (by rw [q1, z])
    exact ⟨b, ws, rfl, w1, w2, by rw [upd_ne hb]; exact w3, w4.mono sm, w5⟩
  | od m =>
    obtain ⟨b, ws, rfl, w1, w2, w3, w4, w5⟩ := q2
    have hb : b ≠ a := fun z => no j _ hs rfl (by rw [q1, z])
    exact ⟨b, ws, rfl, w1, w2, by rw [upd_ne hb]; exact w3, w4.mono sm, w5⟩
  | oq m =>
    obtain ⟨b, ws, rfl, w1, w2, w3, w4, w5⟩ := q2
    have hb : b ≠ a := fun z => no j _ hs rfl (by rw [q1, z])
    exact ⟨b, ws, rfl, w1, w2, by rw [upd_ne hb]; exact w3, ⟨w4.1.mono sm, w4.2⟩, w5⟩
  | bh st => exact q2
  | ob st =>
    obtain ⟨p, dx, v1, v2, c, b, xs, ys, rfl, w1, ⟨⟨oa, w2⟩, ob, w3⟩, w4⟩ := q2
    have np : p ≠ a := fun z => by
      have := w1.hp
      rw [z, h2] at this
      exact n1 _ _ _ (Option.some.inj this)
    have nc : c ≠ a := fun z => by
      rw [z, h2] at w2
      exact n2 _ _ (Option.some.inj w2)
    have nb : b ≠ a := fun z => by
      rw [z, h2] at w3
      exact n2 _ _ (Option.some.inj w3)
    exact ⟨p, dx, v1, v2, c, b, xs, ys, rfl, ⟨w1.hp, w1.ha, w1.hb, w1.ab, by rw [upd_ne np]; exact w1.fp, by rw [upd_ne nc]; exact w1.fa, by rw [upd_ne nb]; exact w1.fb, w1.r1.mono sm, w1.r2.mono sm, w1.r3.mono sm, w1.r4.mono sm, w1.l3, w1.l4⟩, ⟨⟨oa, w2⟩, ob, w3⟩, w4⟩
/-- the slot's value stands there again -/
theorem set_back {σ : L2.St} {i : Nat} {v : V} (h : σ[i]? = some (some v)) : (σ.set i none).set i (some v) = σ := by
  rw [List.set_set]
  refine List.ext_getElem? fun j => ?_
  by_cases e : i = j
  · subst e
    rw [List.getElem?_set_self (List.getElem?_eq_some_iff.mp h).1, h]
  · rw [List.getElem?_set_ne e]
def fzD (i : Nat) (env : En) : En := match env[i]? with
  | some (some (.od l)) => env.set i (some (.fro (.dic l)))
  | _ => env
def sFzD (i : Nat) (f : En → R Out) : En → R Out := fun env => f (fzD i env)
theorem ss_fzD {rest : List Stmt} {f : En → R Out} (i : Nat) (h : PSs X rest (tS B f)) : PSs X rest (tS B (sFzD i f)) := ⟨fun pins s σ H Z I ⟨env, F, r, q⟩ => by
  unfold sFzD fzD at q
  split at q
  · rename_i l hi
    obtain ⟨a, vs, hσ, h2, h3, h4, h5, h6, no⟩ := ownD_at r hi
    obtain ⟨od, I1⟩ := I.lock h2 trivial
    have r1 := (rel_drop r i).mut (o := .frz od (.dK vs)) h3 (tabs_mutK h2) h4 no (soft_dK h2)
    have sm := same_upd' (o := .frz od (.dK vs)) h4
    have r2 := (r1.fzO h3 upd_same h4 (fun ps z => by cases z) no (fun _ _ _ z => by cases z) (fun _ _ z => by cases z)).put (i := i) (v := .ref a) (d := .dic l) (.dic upd_same (h5.mono sm) h6)
    rw [List.set_set, set_back hσ] at r2
    exact h.run pins s σ _ Z I1 ⟨_, _, r2, q.mono sm⟩
  · exact h.run pins s σ H Z I ⟨env, F, r, q⟩⟩
def sOwnDc (i : Nat) (f : En → R D) : En → R Out := fun env => (f env).bind fun d => match d with
  | .dic l => if i < env.length then .ok (.nx (env.set i (some (.od l)))) else .bad
  | _ => .bad
theorem s_ownDc (i : Nat) {x : Str} {p' p pd : Pos} (O : OkX G B k X) (hm : G.mg "dict" = none) (ha : PE X a (tO B f)) (hi : X.N[i]? = some x := by rfl) (hx : Loc X.env.scope x := by first | exact .inl rfl | exact .inr rfl) (hs : swapsWith (.Call (.Name "dict" p) [a] [] pd) (some (.Name x p')) pos.line X.env = pure false := by rfl) (hf : X.fn x = true ∨ X.env.scope.names.lookup x = some .local := by first | exact .inl rfl | exact .inr rfl)
    (hg : Gl X "dict" := by rfl) (hv : bootBuiltins "dict" = some (.type "dict") := by decide +kernel) (he : starEach [a] X.env = (false, eval a X.env) :: starEach [] X.env := by rfl) (hpl : (backTo pd (starEach [] X.env)).any (·.1) = false := by rfl) :
    PS X (.Assign [.Name x p'] (.Call (.Name "dict" p) [a] [] pd) pos) (tS B (sOwnDc i f)) :=
  PS.imp (ps_set O.nd hi hx (pe_callTy call_dictD hg (by rw [O.mg]; exact hm) hv (pa_cons ha pa_nil he) (by decide) (by decide) he hpl) hs hf) fun Z σ H ⟨env, F, r, q⟩ => ⟨env, F, r, by
    rcases q.bind with ⟨d, ea, q⟩ | ⟨c, ea, q⟩
    · rw [ea]
      intro x H1 F1 e1 rx
      have r1 := r.mono e1
      cases d with
      | dic l =>
        simp only at q
        by_cases hl : i < env.length
        · rw [if_pos hl] at q
          obtain ⟨a1, xs, ex, h1, rk, z1⟩ := rx.dic r1.ext.sub
          subst ex
          refine ⟨a1, xs, rfl, h1, fun p hp => ?_⟩
          have E : Ext B.T H1 F1 (upd H1 p (.dK xs)) F1 := Ext.own r1.ext.sub r1.ext.nt hp
          have fp : F1 p = none := by
            cases z : F1 p with
            | none => rfl
            | some o => rw [r1.ext.sub _ _ z] at hp; cases hp
          exact q _ _ _ ((r1.mono E).putO upd_same (Free.back r1.ext.same (.inl hp)) fp rk z1 (noOwn_free (H' := H1) (F' := F1) r1 (.inl hp))) e1.fsame
        · rw [if_neg hl] at q; exact q.elim
      | _ => exact q.elim
    · rw [ea]; exact q⟩
def sPutK (i : Nat) (fk fe : En → R D) : En → R Out := fun env => (fe env).bind fun d => match env[i]? with
  | some (some (.od l)) => (fk env).bind fun kk => match kOf kk with
    | some kz => if l.length < LIM then .ok (.nx (env.set i (some (.od (putD l kz d))))) else .bad
    | none => .bad
  | _ => .bad
theorem s_putK (i : Nat) {x : Str} {px tpos : Pos} (O : OkX G B k X) (he : PE X e (tE B fe)) (hk : PE X b (tE B fk)) (hN : X.N[i]? = some x := by rfl) (hv : Vis X.env.scope x := by first | exact Or.inl rfl | exact Or.inr (Or.inl rfl)) (hd : (x == ("__debug__" : Str)) = false := by decide) (hcd : (x == ("__classdict__" : Str)) = false := by decide)
    (hs : swapsWith e (some (.Subscript (.Name x px) b tpos)) pos.line X.env = pure false := by rfl) :
    PS X (.Assign [.Subscript (.Name x px) b tpos] e pos) (tS B (sPutK i fk fe)) := by
  refine PS.imp (ps_dput (by have := O.room.units; omega) (pe_var hN hv hd hcd) hk he hs) fun Z σ H ⟨env, F, r, q⟩ => ⟨env, F, r, ?_⟩
  rcases q.bind with ⟨d, eo, q⟩ | ⟨c, eo, q⟩
  · rw [eo]
    intro v H1 F1 E1 rv
    have r1 := r.mono E1
    have q := q.mono E1.fsame
    cases hi : env[i]? with
    | none => rw [hi] at q; exact q.elim
    | some o =>
      cases o with
      | none => rw [hi] at q; exact q.elim
      | some sv =>
        cases sv with
        | fro d => rw [hi] at q; exact q.elim
        | ol l => rw [hi] at q; exact q.elim
        | oq l => rw [hi] at q; exact q.elim
        | ob l => rw [hi] at q; exact q.elim
        | bh l => rw [hi] at q; exact q.elim
        | od l =>
          rw [hi] at q
          simp only at q
          obtain ⟨p, vs, hσ, _⟩ := ownD_at r1 hi
          refine ⟨.ref p, hσ, env, F1, r1, ?_⟩
          rcases q.bind with ⟨kk, ek, q⟩ | ⟨c, ek, q⟩
          · rw [ek]
            intro y H2 F2 E2 ry
            have r2 := r1.mono E2
            have q := q.mono E2.fsame
            obtain ⟨p', vs', hσ', k2, k3, k4, k5, k6, no'⟩ := ownD_at r2 hi
            have ep : p' = p := by
              rw [hσ] at hσ'
              injection hσ' with z1
              injection z1 with z2
              injection z2 with z3
              exact z3.symm
            subst ep
            cases hkz : kOf kk with
            | none => rw [hkz] at q; exact q.elim
            | some kz =>
              rw [hkz] at q
              simp only at q
              by_cases hz : l.length < LIM
              · rw [if_pos hz] at q
                have ey : y = kV kz := kOf_V ry hkz
                subst ey
                have hl : vs'.length < sizeLine := by rw [repK_len k5, ← LIM_eq]; exact hz
                refine ⟨p', _, rfl, DPut.k k2 hl, ?_⟩
                exact q _ _ _ (r2.chgD hσ' k2 k3 k4 no' (repK_put k5 (rv.mono E2.fsame)) (Nat.le_trans (putD_len l _ d) (by rw [← LIM_eq]; exact hz))) (Same.refl _)
              · rw [if_neg hz] at q; exact q.elim
          · rw [ek]; exact q
  · rw [eo]; exact q
end
section
variable {X : Cx}
theorem dict_at {pins : List (Addr × Obj)} {σ : L2.St} {H : Hp} {s : Shared} (I : Inv X pins σ H s) {a : Addr} {ks : List (Key × V)} (h : Rd H a (.dK ks)) : (a == sysModules) = false ∧ ∃ vs, KV ks vs ∧ s.heap.DictOf (mixKind X.prog X.w) a vs := by
  rcases h with h | ⟨o, h⟩
  · obtain ⟨_, y, vs, r, d⟩ := (show ObjOk X.prog X.w H s.heap a (.dK ks) from I.hok a _ h)
    exact ⟨y, vs, r, d⟩
  · obtain ⟨_, _, y, vs, r, d⟩ := (show ObjOk X.prog X.w H s.heap a (.frz o (.dK ks)) from I.hok a _ h)
    exact ⟨y, vs, r, d⟩
theorem op_eqDic (hu : X.A.units + 64 < cLine) : OpR X (compareOp .Eq) (fun x y H Q => ∃ a b ks ls, x = .ref a ∧ y = .ref b ∧ Rd H a (.dK ks) ∧ Rd H b (.dK ls) ∧ ks.length = ls.length ∧
    (∀ p ∈ ks, ∃ u, valV ls p.1 = some u ∧ ∃ d e, Dp X.K H p.2 d ∧ Dp X.K H u e ∧ (SeqAt.shaped d = true ∧ d.depth ≤ 60) ∧ SeqAt.shaped e = true ∧ PyData.eqv d e = true) ∧ Q (.bl true) H) := by
  intro pins s σ H x y v u Q I rx ry hq
  obtain ⟨a, b, ks, ls, rfl, rfl, ha, hb, hl, hp, q⟩ := hq
  cases rx
  cases ry
  obtain ⟨ya, va, ra, da⟩ := dict_at I ha
  obtain ⟨yb, vb, rb, db⟩ := dict_at I hb
  refine PySem.W.rcP_dicts (knd := mixKind X.prog X.w) (r := true) ya yb da db (by omega) (fun _ => hits_run (F := fun x y => ∃ d e, Dp X.K H x d ∧ Dp X.K H y e ∧ (SeqAt.shaped d = true ∧ d.depth ≤ 60) ∧ SeqAt.shaped e = true ∧ PyData.eqv d e = true) (fun x y v u ⟨d, e, h1, h2, h3, h4, h5⟩ r1 r2 => ?_) rb ra hp) _ _ ?_
  · obtain ⟨as, k1⟩ := Dp.reads I d x v h1 r1
    obtain ⟨bs, k2⟩ := Dp.reads I e y u h2 r2
    have k3 := SeqAt.eqAt_reads d e X.A.in1 s v u as bs k1 k2 (SeqAt.canLay_of_shaped h3.1) (SeqAt.canLay_of_shaped h4) (by
      have h6 : min d.depth e.depth ≤ d.depth := Nat.min_le_left _ _
      have h7 := h3.2
      show X.A.units + 1 + min d.depth e.depth < cLine
      omega)
    rw [h5] at k3
    exact k3.eqP
  · have e : va.length = vb.length := by rw [← ra.length, ← rb.length]; exact hl
    rw [show (va.length == vb.length && true) = true from by rw [e]; simp]
    exact ⟨.bl true, H, I, rfl, q⟩
end
def eqItem (m : List (Key × D)) (kv : Key × D) : Bool := match lookK m kv.1 with
  | some d => eqOk kv.2 d && decide (kv.2.py.depth ≤ 60) && PyData.eqv kv.2.py d.py
  | none => false
def eqDicD : D → D → R Bool
  | .dic l, .dic m => if l.length = m.length ∧ l.all (eqItem m) = true then .ok true else .bad
  | _, _ => .bad
theorem repK_mem {K : PySem.W.Frag} {F : Hp} : ∀ {vs : List (Key × V)} {l : List (Key × D)}, RepK K F vs l → ∀ p ∈ vs, ∃ d, (p.1, d) ∈ l ∧ Rep K F p.2 d
  | _, _, .nil, _, h => by cases h
  | _, _, .cons h r, p, hp => by
    rcases List.mem_cons.mp hp with rfl | hp
    · exact ⟨_, List.mem_cons_self, h⟩
    · obtain ⟨d, h1, h2⟩ := repK_mem r p hp
      exact ⟨d, List.mem_cons_of_mem _ h1, h2⟩
section
variable {G : Gx} {B : Bd} {k : Nat}
theorem c_eqDic : CmpS G B k .Eq eqDicD := fun X O => ⟨_, op_eqDic O.room.units, fun x y a b H F σ env Q r rx ry q => by
  have sub := r.ext.sub
  unfold eqDicD at q
  split at q
  · rename_i l m
    split at q
    · rename_i hc
      obtain ⟨a1, xs, e1, h1, r1, z1⟩ := rx.dic sub
      obtain ⟨a2, ys, e2, h2, r2, z2⟩ := ry.dic sub
      refine ⟨a1, a2, xs, ys, e1, e2, h1, h2, by rw [repK_len r1, repK_len r2]; exact hc.1, fun p hp => ?_, _, rfl, q.now r⟩
      obtain ⟨d, hd, rd⟩ := repK_mem r1 p hp
      have hi := List.all_eq_true.mp hc.2 _ hd
      unfold eqItem at hi
      cases hl : lookK m p.1 with
      | none => rw [hl] at hi; cases hi
      | some d2 =>
        rw [hl] at hi
        simp only [Bool.and_eq_true, decide_eq_true_eq] at hi
        obtain ⟨⟨k1, k2⟩, k3⟩ := hi
        obtain ⟨g1, g2⟩ := repK_look (k := p.1) r2
        cases hv : valV ys p.1 with
        | none => rw [g2 hv] at hl; cases hl
        | some u =>
          obtain ⟨d', hd', rd'⟩ := g1 u hv
          rw [hl] at hd'
          cases hd'
          obtain ⟨f1, f2, f3, f4⟩ := eqOk_of k1
          obtain ⟨p1, l1⟩ := repO_dp sub (.inl rd) f1
          obtain ⟨p2, l2⟩ := repO_dp sub (.inl rd') f2
          rw [O.K] at p1 p2
          exact ⟨u, rfl, d.py, d2.py, p1, p2, ⟨by unfold SeqAt.shaped; rw [l1]; simpa using f3, k2⟩, by unfold SeqAt.shaped; rw [l2]; simpa using f4, k3⟩
    · exact q.elim
  · exact q.elim⟩
end
end Mk
set_option maxHeartbeats 2000000
namespace Mk
open PySem PySem.Spec PyProof.Rows L2 HotX L2H LamX
def GoodEe (B : Bd) (F : Hp) (σ : L2.St) (Q : VK) : R (En × D) → Prop
  | .ok (env, d) => ∀ v H' F', Rel B env σ H' F' → Same F F' → Rep B.K F' v d → Q v H'
  | .exc c => ∀ H', ExtH B.T B.H0 H' → B.wx c H'
  | .bad => False
def GoodBe (B : Bd) (F : Hp) (σ : L2.St) (Q : Bool → Hp → Prop) : R (En × Bool) → Prop
  | .ok (env, b) => ∀ H' F', Rel B env σ H' F' → Same F F' → Q b H'
  | .exc c => ∀ H', ExtH B.T B.H0 H' → B.wx c H'
  | .bad => False
def tEe (B : Bd) (f : En → R (En × D)) : TE := fun σ H Q => ∃ env F, Rel B env σ H F ∧ GoodEe B F σ Q (f env)
def tQe (B : Bd) (f : En → R (En × Bool)) : TT := fun σ H Q => ∃ env F, Rel B env σ H F ∧ GoodBe B F σ Q (f env)
theorem GoodBe.mono {B : Bd} {F F' : Hp} {σ : L2.St} {Q : Bool → Hp → Prop} {r : R (En × Bool)} (s : Same F F') (h : GoodBe B F σ Q r) : GoodBe B F' σ Q r := by
  cases r with
  | ok p => exact fun H2 F2 r2 s2 => h H2 F2 r2 (s.trans s2)
  | exc c => exact h
  | bad => exact h
theorem GoodBe.bind {B : Bd} {F : Hp} {σ : L2.St} {Q : Bool → Hp → Prop} {α : Type} {r : R α} {f : α → R (En × Bool)} (h : GoodBe B F σ Q (r.bind f)) : (∃ a, r = .ok a ∧ GoodBe B F σ Q (f a)) ∨ (∃ c, r = .exc c ∧ ∀ H', ExtH B.T B.H0 H' → B.wx c H') := by
  cases r with
  | ok a => exact .inl ⟨a, rfl, h⟩
  | exc c => exact .inr ⟨c, rfl, h⟩
  | bad => exact h.elim
def liftQ (q : En → R Bool) : En → R (En × Bool) := fun env => (q env).bind fun b => .ok (env, b)
def cmpE (ea : En → R (En × D)) (fb : En → R D) (c : D → D → R Bool) : En → R (En × Bool) := fun env => (ea env).bind fun p => (fb p.1).bind fun d2 => (c p.2 d2).bind fun b => .ok (p.1, b)
def orE (p q : En → R (En × Bool)) : En → R (En × Bool) := fun env => (p env).bind fun x => if x.2 = true then .ok x else q x.1
def andE (p q : En → R (En × Bool)) : En → R (En × Bool) := fun env => (p env).bind fun x => if x.2 = true then q x.1 else .ok x
def notE (p : En → R (En × Bool)) : En → R (En × Bool) := fun env => (p env).bind fun x => .ok (x.1, !x.2)
def truE (ea : En → R (En × D)) : En → R (En × Bool) := fun env => (ea env).bind fun p => (truthD p.2).bind fun b => .ok (p.1, b)
def sIfE (q : En → R (En × Bool)) (f g : En → R Out) : En → R Out := fun env => (q env).bind fun x => if x.2 = true then f x.1 else g x.1
section
variable {G : Gx} {B : Bd} {k : Nat} {X : Cx} {a b e : Expr} {rest : List Expr} {pos : Pos}
theorem t_lift {q : En → R Bool} (h : PT X a (tQ B q)) : PT X a (tQe B (liftQ q)) := PT.imp h fun σ H Q ⟨env, F, r, g⟩ => ⟨env, F, r, by
  rcases g.bind with ⟨d, ea, g⟩ | ⟨c, ea, g⟩
  · rw [ea]; exact fun H' F' x => g H' F' (r.mono x) x.fsame
  · rw [ea]; exact g⟩
theorem t_cmpE {op : CmpOp} {c : D → D → R Bool} {ea : En → R (En × D)} {fb : En → R D} (O : OkX G B k X) (hc : CmpS G B k op c) (ha : PE X a (tEe B ea)) (hb : PE X b (tE B fb)) (hm : behindInMarks op b = false := by first | rfl | exact nomark _) :
    PT X (.Compare a [op] [b] pos) (tQe B (cmpE ea fb c)) := by
  obtain ⟨r, h1, h2⟩ := hc X O
  refine PT.imp (pt_cmpR h1 ha hb hm) fun σ H Q ⟨env, F, rel, q⟩ => ⟨env, F, rel, ?_⟩
  rcases q.bind with ⟨⟨env1, d⟩, e1, q⟩ | ⟨c, e1, q⟩
  · rw [e1]
    intro x H1 F1 r1 s1 rx
    refine ⟨env1, F1, r1, ?_⟩
    rcases q.bind with ⟨d2, e2, q⟩ | ⟨c, e2, q⟩
    · have e2' : fb env1 = .ok d2 := e2
      rw [e2']
      intro y H2 F2 x2 ry
      have r2 := r1.mono x2
      refine h2 x y d d2 H2 F2 σ env1 _ r2 (.inl (rx.mono x2.fsame)) (.inl ry) ?_
      have q' : GoodBe B F σ Q ((c d d2).bind fun b => .ok (env1, b)) := q
      cases hcd : c d d2 with
      | ok bb =>
        rw [hcd] at q'
        exact fun H3 F3 x3 => q' H3 F3 (r2.mono x3) ((s1.trans x2.fsame).trans x3.fsame)
      | exc c => rw [hcd] at q'; exact q'
      | bad => rw [hcd] at q'; exact q'
    · have e2' : fb env1 = .exc c := e2
      rw [e2']
      exact q
  · rw [e1]; exact q
theorem t_truE {ea : En → R (En × D)} (O : OkX G B k X) (ha : PE X a (tEe B ea)) (he : ∀ whole, isTrue a X.env whole = (do let v ← whole; standAt a.pos; holding [v] (truthy v)) := by intro _; rfl) : PT X a (tQe B (truE ea)) := by
  refine PT.imp (pt_truth ha he) fun σ H Q ⟨env, F, rel, q⟩ => ⟨env, F, rel, ?_⟩
  rcases q.bind with ⟨⟨env1, d⟩, e1, q⟩ | ⟨c, e1, q⟩
  · rw [e1]
    intro x H1 F1 r1 s1 rx
    have q' : GoodBe B F σ Q ((truthD d).bind fun b => .ok (env1, b)) := q
    obtain ⟨b, e, tv⟩ := truth_rep O r1.ext.sub (.inl rx) (fun z => by rw [z] at q'; exact q')
    rw [e] at q'
    exact ⟨b, tv, q' H1 F1 r1 s1⟩
  · rw [e1]; exact q
theorem t_notE {p : En → R (En × Bool)} (ha : PT X a (tQe B p)) : PT X (.UnaryOp .Not a pos) (tQe B (notE p)) := PT.imp (pt_not ha) fun σ H Q ⟨env, F, rel, q⟩ => ⟨env, F, rel, by
  rcases q.bind with ⟨⟨env1, d⟩, e1, q⟩ | ⟨c, e1, q⟩
  · rw [e1]; exact fun H1 F1 r1 s1 => q H1 F1 r1 s1
  · rw [e1]; exact q⟩
theorem w_or1E {p : En → R (En × Bool)} (ha : PT X a (tQe B p)) : PW X (.BoolOp .Or [a] pos) (tQe B p) := pw_or1 ha
theorem w_and1E {p : En → R (En × Bool)} (ha : PT X a (tQe B p)) : PW X (.BoolOp .And [a] pos) (tQe B p) := pw_and1 ha
theorem w_orE {p q : En → R (En × Bool)} (ha : PT X a (tQe B p)) (hb : PW X (.BoolOp .Or (b :: rest) pos) (tQe B q)) : PW X (.BoolOp .Or (a :: b :: rest) pos) (tQe B (orE p q)) := PW.imp (pw_or ha hb) fun σ H Q ⟨env, F, rel, g⟩ => ⟨env, F, rel, by
  rcases g.bind with ⟨⟨env1, d⟩, e1, g⟩ | ⟨c, e1, g⟩
  · rw [e1]
    intro H1 F1 r1 s1
    cases d with
    | true => exact g H1 F1 r1 s1
    | false => exact ⟨env1, F1, r1, GoodBe.mono s1 g⟩
  · rw [e1]; exact g⟩
theorem w_andE {p q : En → R (En × Bool)} (ha : PT X a (tQe B p)) (hb : PW X (.BoolOp .And (b :: rest) pos) (tQe B q)) : PW X (.BoolOp .And (a :: b :: rest) pos) (tQe B (andE p q)) := PW.imp (pw_and ha hb) fun σ H Q ⟨env, F, rel, g⟩ => ⟨env, F, rel, by
  rcases g.bind with ⟨⟨env1, d⟩, e1, g⟩ | ⟨c, e1, g⟩
  · rw [e1]
    intro H1 F1 r1 s1
    cases d with
    | true => exact ⟨env1, F1, r1, GoodBe.mono s1 g⟩
    | false => exact g H1 F1 r1 s1
  · rw [e1]; exact g⟩
theorem t_wE {p : En → R (En × Bool)} (h : PW X a (tQe B p)) : PT X a (tQe B p) := h.pt
theorem s_ifE {sa sb : List Stmt} {q : En → R (En × Bool)} {f g : En → R Out} (hc : PT X e (tQe B q)) (ha : PSs X sa (tS B f)) (hb : PSs X sb (tS B g)) : PS X (.If e sa sb pos) (tS B (sIfE q f g)) := PS.imp (ps_if hc ha hb) fun Z σ H ⟨env, F, r, z⟩ => ⟨env, F, r, by
  rcases z.bind with ⟨⟨env1, d⟩, e1, z⟩ | ⟨c, e1, z⟩
  · rw [e1]
    intro H1 F1 r1 s1
    cases d with
    | true => exact ⟨env1, F1, r1, z.mono s1⟩
    | false => exact ⟨env1, F1, r1, z.mono s1⟩
  · rw [e1]; exact z⟩
def tK (B : Bd) (W : En → Ends → L2.St → Hp → Hp → Prop) : TS := fun Z σ H => ∃ env F, Rel B env σ H F ∧ W env Z σ H F
def seqW (B : Bd) (f : En → R Out) (W : En → Ends → L2.St → Hp → Hp → Prop) : En → Ends → L2.St → Hp → Hp → Prop := fun env Z σ H F => match f env with
  | .ok (.nx env') => ∀ σ' H' F', Rel B env' σ' H' F' → Same F F' → W env' Z σ' H' F'
  | .exc c => ∀ H', ExtH B.T B.H0 H' → B.wx c H'
  | _ => False
theorem ss_consK {st : Stmt} {rs : List Stmt} {f : En → R Out} {W : En → Ends → L2.St → Hp → Hp → Prop} (h1 : PS X st (tS B f)) (h2 : PSs X rs (tK B W)) : PSs X (st :: rs) (tK B (seqW B f W)) := PSs.imp (pss_cons h1 h2) fun Z σ H ⟨env, F, r, q⟩ => ⟨env, F, r, by
  unfold seqW at q
  cases hf : f env with
  | ok o =>
    rw [hf] at q
    cases o with
    | nx env' => exact fun σ' H' F' r' s' => ⟨env', F', r', q σ' H' F' r' s'⟩
    | rt d => exact q.elim
    | bk d => exact q.elim
    | ct d => exact q.elim
  | exc c => rw [hf] at q; exact q
  | bad => rw [hf] at q; exact q⟩
end
end Mk
set_option maxHeartbeats 2000000
namespace Mk
open PySem PySem.Spec PyProof.Rows L2 HotX L2H LamX
abbrev hC (K : PySem.W.Frag) : Addr := He.ga K "House"
structure HsF (G : Gx) : Prop where
  cl : Cls G.K (hC G.K)
  nD : NoAttr G.K (hC G.K) "drafts"
  nN : NoAttr G.K (hC G.K) "now"
  nP : NoAttr G.K (hC G.K) "past"
  nA : NoAttr G.K (hC G.K) "ahead"
  gC : G.mg "House" = some (.ref (hC G.K))
  mkr : L2.Mk G.K (hC G.K) (He.ma G.K (hC G.K) "__init__")
structure HA where
  p : Addr
  dx : Addr
  a : Addr
  b : Addr
  v1 : V
  v2 : V
  xs : List V
  ys : List V
abbrev HsA (K : PySem.W.Frag) (H F : Hp) (h : HA) (st : HSt) : Prop := HsAt K H F h.p h.dx h.v1 h.v2 h.a h.b h.xs h.ys st
def Pl (H : Hp) (h : HA) : Prop := H h.a = some (.lst h.xs) ∧ H h.b = some (.lst h.ys)
def del3 (H : Hp) (h : HA) : Hp := fun x => if x = h.p ∨ x = h.a ∨ x = h.b then none else H x
theorem del3_of {H : Hp} {h : HA} {x : Addr} {o : HO} (e : del3 H h x = some o) : H x = some o ∧ x ≠ h.p ∧ x ≠ h.a ∧ x ≠ h.b := by
  unfold del3 at e
  split at e
  · cases e
  · rename_i n
    exact ⟨e, fun z => n (.inl z), fun z => n (.inr (.inl z)), fun z => n (.inr (.inr z))⟩
theorem del3_ne {H : Hp} {h : HA} {x : Addr} (n1 : x ≠ h.p) (n2 : x ≠ h.a) (n3 : x ≠ h.b) : del3 H h x = H x := by
  unfold del3
  rw [if_neg (fun z => by rcases z with z | z | z <;> contradiction)]
theorem free_del {H : Hp} {h : HA} {x : Addr} (f : Free (del3 H h) x) : x = h.p ∨ x = h.a ∨ x = h.b ∨ Free H x := by
  by_cases n1 : x = h.p
  · exact .inl n1
  · by_cases n2 : x = h.a
    · exact .inr (.inl n2)
    · by_cases n3 : x = h.b
      · exact .inr (.inr (.inl n3))
      · unfold Free at f
        rw [del3_ne n1 n2 n3] at f
        exact .inr (.inr (.inr f))
theorem free_to {H : Hp} {h : HA} {x : Addr} (f : Free H x) : Free (del3 H h) x := by
  by_cases n : x = h.p ∨ x = h.a ∨ x = h.b
  · exact .inl (if_pos n)
  · unfold Free del3
    rw [if_neg n]
    exact f
theorem free_in {H : Hp} {h : HA} {x : Addr} (n : x = h.p ∨ x = h.a ∨ x = h.b) : Free (del3 H h) x := .inl (if_pos n)
/-- tables, and the code that they tell, stand elsewhere -/
theorem tabs_by {T : List (Addr × Str)} {H H' : Hp} (h1 : ∀ x ps, H x = some (.tbl ps) → H' x = some (.tbl ps)) (h2 : ∀ x q, H x = some (CodeO x q) → H' x = some (CodeO x q)) (t : Tabs T H) : Tabs T H' := fun p hp => by
  obtain ⟨ps, e1, e2, e3⟩ := t p hp
  refine ⟨ps, h1 _ _ e1, e2, fun pos cv hc => ?_⟩
  obtain ⟨c, k1, k2⟩ := e3 pos cv hc
  exact ⟨c, k1, h2 _ _ k2⟩
theorem hs_kinds {K : PySem.W.Frag} {H F : Hp} {h : HA} {st : HSt} (s : HsA K H F h st) {x : Addr} {o : HO} (e : H x = some o) (n1 : ∀ C dx fs, o ≠ .ins C dx fs) (n2 : ∀ xs, o ≠ .lst xs) (n3 : ∀ b xs, o ≠ .frz b (.lst xs)) : x ≠ h.p ∧ x ≠ h.a ∧ x ≠ h.b := by
  refine ⟨fun z => ?_, fun z => ?_, fun z => ?_⟩
  · have := s.hp
    rw [← z, e] at this
    exact n1 _ _ _ (Option.some.inj this)
  · rcases s.ha with k | ⟨b, k⟩
    · rw [← z, e] at k; exact n2 _ (Option.some.inj k)
    · rw [← z, e] at k; exact n3 _ _ (Option.some.inj k)
  · rcases s.hb with k | ⟨b, k⟩
    · rw [← z, e] at k; exact n2 _ (Option.some.inj k)
    · rw [← z, e] at k; exact n3 _ _ (Option.some.inj k)
theorem tabs_del {T : List (Addr × Str)} {K : PySem.W.Frag} {H F : Hp} {h : HA} {st : HSt} (s : HsA K H F h st) (t : Tabs T H) : Tabs T (del3 H h) := by
  refine tabs_by (fun x ps e => ?_) (fun x q e => ?_) t
  · obtain ⟨a, b, c⟩ := hs_kinds s e (fun _ _ _ z => by cases z) (fun _ z => by cases z) (fun _ _ z => by cases z)
    rw [del3_ne a b c]; exact e
  · obtain ⟨a, b, c⟩ := hs_kinds s e (fun _ _ _ z => by unfold CodeO at z; cases z) (fun _ z => by unfold CodeO at z; cases z) (fun _ _ z => by unfold CodeO at z; cases z)
    rw [del3_ne a b c]; exact e
theorem tabs_undel {T : List (Addr × Str)} {H : Hp} {h : HA} (t : Tabs T (del3 H h)) : Tabs T H := tabs_by (fun x ps e => (del3_of e).1) (fun x q e => (del3_of e).1) t
/-- on from what stands beside a house -/
theorem Ext.del {T : List (Addr × Str)} {K : PySem.W.Frag} {H0 F0 H F H' F' : Hp} {h : HA} {st : HSt} (e : Ext T H0 F0 H F) (s : HsA K H F h st) (fp : Free H0 h.p) (fa : Free H0 h.a) (fb : Free H0 h.b) (e2 : Ext T (del3 H h) F H' F') : Ext T H0 F0 H' F' where
  same := fun x o q ht => by
    have n1 : x ≠ h.p := fun z => fp.some (by rw [← z]; exact q) ht
    have n2 : x ≠ h.a := fun z => fa.some (by rw [← z]; exact q) ht
    have n3 : x ≠ h.b := fun z => fb.some (by rw [← z]; exact q) ht
    exact e2.same x o (by rw [del3_ne n1 n2 n3]; exact e.same x o q ht) ht
  tabs := fun t => e2.tabs (tabs_del s (e.tabs t))
  fsame := e.fsame.trans e2.fsame
  sub := e2.sub
  nt := e2.nt
  new := fun x o q => by
    rcases e2.new x o q with z | z
    · exact e.new x o z
    · rcases free_del z with z | z | z | z
      · rw [z]; exact .inr fp
      · rw [z]; exact .inr fa
      · rw [z]; exact .inr fb
      · exact .inr (z.back e.same)
theorem Ext.del2 {T : List (Addr × Str)} {K : PySem.W.Frag} {H F H1 F1 H' F' : Hp} {h : HA} {st : HSt} (e : Ext T H F H1 F1) (s : HsA K H1 F1 h st) (e2 : Ext T (del3 H1 h) F1 H' F') : Ext T (del3 H h) F H' F' where
  same := fun x o q ht => by
    obtain ⟨q, n1, n2, n3⟩ := del3_of q
    exact e2.same x o (by rw [del3_ne n1 n2 n3]; exact e.same x o q ht) ht
  tabs := fun t => e2.tabs (tabs_del s (e.tabs (tabs_undel t)))
  fsame := e.fsame.trans e2.fsame
  sub := e2.sub
  nt := e2.nt
  new := fun x o q => by
    rcases e2.new x o q with z | z
    · rcases e.new x o z with z | z
      · exact .inl z
      · exact .inr (free_to z)
    · rcases free_del z with z | z | z | z
      · exact .inr (free_in (.inl z))
      · exact .inr (free_in (.inr (.inl z)))
      · exact .inr (free_in (.inr (.inr z)))
      · exact .inr (free_to (z.back e.same))
theorem free_del2 {T : List (Addr × Str)} {H F H1 F1 : Hp} {h : HA} {x : Addr} (e : Ext T H F H1 F1) (f : Free (del3 H1 h) x) : Free (del3 H h) x := by
  rcases free_del f with z | z | z | z
  · exact free_in (.inl z)
  · exact free_in (.inr (.inl z))
  · exact free_in (.inr (.inr z))
  · exact free_to (z.back e.same)
def spM (G : Gx) (m : HSt → List D → R (HSt × D)) : Sp := fun vs H Q E => ∃ (h : HA) (vs' : List V) (st : HSt) (ds : List D) (F : Hp), vs = .ref h.p :: vs' ∧ HsA G.K H F h st ∧ RepL G.K F vs' ds ∧ Same F H ∧ (∀ b ps, F b ≠ some (.tbl ps)) ∧ Tabs G.T H ∧
  match m st ds with
  | .ok (st', d) => Pl H h ∧ ∀ (v : V) (H' F' : Hp) (h' : HA), Ext G.T (del3 H h) F H' F' → HsA G.K H' F' h' st' → Pl H' h' → h'.p = h.p → Free (del3 H h) h'.a → Free (del3 H h) h'.b → Rep G.K F' v d → Q v H'
  | .exc c => ∀ H', ExtH G.T H H' → E (G.cm c) none H'
  | .bad => False
def spP (G : Gx) (m : HSt → List D → R D) : Sp := fun vs H Q E => ∃ (h : HA) (vs' : List V) (st : HSt) (ds : List D) (F : Hp), vs = .ref h.p :: vs' ∧ HsA G.K H F h st ∧ RepL G.K F vs' ds ∧ Same F H ∧ (∀ b ps, F b ≠ some (.tbl ps)) ∧ Tabs G.T H ∧
  match m st ds with
  | .ok d => ∀ (v : V) (H' F' : Hp), Ext G.T H F H' F' → Rep G.K F' v d → Q v H'
  | .exc c => ∀ H', ExtH G.T H H' → E (G.cm c) none H'
  | .bad => False
def MtS (G : Gx) (k : Nat) (x : Str) (sp : Sp) : Prop := ∃ (f : Addr) (fd : FuncData) (ps : List Str), Meth G.K (hC G.K) x f ∧ L2.Binds G.K fd ps [] ∧ FnOk G.P G.w G.K G.mg G.base (L2N.CX G.P G.w) k f fd ps sp
section
variable {G : Gx} {B : Bd} {k : Nat} {X : Cx} {e : Expr} {es : List Expr} {pos apos px : Pos} {x m : Str} {sp : Sp} {j i : Nat}
theorem OkX.eK (O : OkX G B k X) : B.K = G.K := O.K.trans O.GK
theorem pe_mt [Calm G] {pl : Sem Bool} {ta : TE} {t : TA} {o : Expr} (O : OkX G B k X) (hF : HsF G) (M : MtS G j m sp) (hj : j ≤ k) (ho : PE X o ta) (ha : PA X (e :: es) t) (hst : starEach (e :: es) X.env = (false, eval e X.env) :: starEach es X.env) (hpl : (backTo pos (starEach es X.env)).any (·.1) = false)
    (ht : eval (.Call (.Attribute o m apos) (e :: es) [] pos) X.env = (do
      let ov ← eval o X.env; standAt apos.atName; let (f, first) ← holding [ov] (getMethod ov m pl); callWith pos f first (backTo pos (starEach (e :: es) X.env)) (backToKw pos (keywordEach [] X.env)))) :
    PE X (.Call (.Attribute o m apos) (e :: es) [] pos) (tMeth (hC G.K) m sp [] (EB G B) ta t) := by
  obtain ⟨f, fd, ps, h1, h2, h3⟩ := M
  have h3' : FnOk X.prog X.w X.K X.mg X.base (L2N.CX X.prog X.w) j f fd ps sp := by
    rw [O.prog, O.w, O.GK, O.mg, O.base]
    exact h3
  exact pe_meth (pl := pl) ho (by rw [O.GK]; exact hF.cl) (by rw [O.GK]; exact h1) h3' (O.roomX.mono hj) (by rw [O.GK]; exact h2) .nil O.pass ha hst hpl ht
theorem pe_mt0 [Calm G] {pl : Sem Bool} {ta : TE} {o : Expr} (O : OkX G B k X) (hF : HsF G) (M : MtS G j m sp) (hj : j ≤ k) (ho : PE X o ta)
    (ht : eval (.Call (.Attribute o m apos) [] [] pos) X.env = (do
      let ov ← eval o X.env; standAt apos.atName; let (f, first) ← holding [ov] (getMethod ov m pl); callWith pos f first (backTo pos (starEach [] X.env)) (backToKw pos (keywordEach [] X.env)))) :
    PE X (.Call (.Attribute o m apos) [] [] pos) (tMeth (hC G.K) m sp [] (EB G B) ta tNil) := by
  obtain ⟨f, fd, ps, h1, h2, h3⟩ := M
  have h3' : FnOk X.prog X.w X.K X.mg X.base (L2N.CX X.prog X.w) j f fd ps sp := by
    rw [O.prog, O.w, O.GK, O.mg, O.base]
    exact h3
  exact pe_meth0 (pl := pl) ho (by rw [O.GK]; exact hF.cl) (by rw [O.GK]; exact h1) h3' (O.roomX.mono hj) (by rw [O.GK]; exact h2) .nil O.pass ht
/-- which house a slot may look at -/
def hsOf : Option (Option SV) → Option HSt
  | some (some (.bh st)) => some st
  | some (some (.ob st)) => some st
  | _ => none
theorem hs_slot {env : En} {σ : L2.St} {H F : Hp} {st : HSt} (O : OkX G B k X) (r : Rel B env σ H F) (h : hsOf env[i]? = some st) : ∃ h : HA, σ[i]? = some (some (.ref h.p)) ∧ HsA G.K H F h st := by
  cases he : env[i]? with
  | none => rw [he] at h; cases h
  | some o =>
    cases o with
    | none => rw [he] at h; cases h
    | some sv =>
      cases sv with
      | bh s =>
        rw [he] at h
        cases h
        obtain ⟨v, h1, dx, v1, v2, a, b, xs, ys, rfl, hs⟩ := r.slot i _ he
        exact ⟨⟨B.hs, dx, a, b, v1, v2, xs, ys⟩, h1, by rw [← O.eK]; exact hs.mono r.ext⟩
      | ob s =>
        rw [he] at h
        cases h
        obtain ⟨v, h1, p, dx, v1, v2, a, b, xs, ys, rfl, hs, _⟩ := r.slot i _ he
        exact ⟨⟨p, dx, a, b, v1, v2, xs, ys⟩, h1, by rw [← O.eK]; exact hs⟩
      | fro d => rw [he] at h; cases h
      | ol d => rw [he] at h; cases h
      | od d => rw [he] at h; cases h
      | oq d => rw [he] at h; cases h
/-- a deed that is refused -/
def eMX (i : Nat) (args : En → R (List D)) (mm : HSt → List D → R (HSt × D)) : En → R D := fun env => match hsOf env[i]? with
  | some st => (args env).bind fun ds => match mm st ds with
    | .exc c => .exc c
    | _ => .bad
  | none => .bad
/-- what a house tells -/
def eMP (i : Nat) (args : En → R (List D)) (mm : HSt → List D → R D) : En → R D := fun env => match hsOf env[i]? with
  | some st => (args env).bind fun ds => mm st ds
  | none => .bad
theorem e_mX {ce : Expr} {args : En → R (List D)} {mm : HSt → List D → R (HSt × D)} {t : TA} (O : OkX G B k X) (hc : PE X ce (tMeth (hC G.K) m (spM G mm) [] (EB G B) (fun σ H Q => ∃ v, σ[i]? = some (some v) ∧ Q v H) t))
    (ht : ∀ σ H Q, tL B args σ H Q → t σ H Q) (hm : ∀ v1 v2 a b, (hfs v1 v2 a b).lookup m = none) : PE X ce (tE B (eMX i args mm)) := PE.imp hc fun σ H Q ⟨env, F, r, q⟩ => by
  unfold eMX at q
  cases hh : hsOf env[i]? with
  | none => rw [hh] at q; exact q.elim
  | some st =>
    rw [hh] at q
    simp only at q
    obtain ⟨h, h1, hs⟩ := hs_slot O r hh
    refine ⟨.ref h.p, h1, h.p, h.dx, _, rfl, hs.hp, hm _ _ _ _, ht _ _ _ ⟨env, F, r, ?_⟩⟩
    rcases q.bind with ⟨ds, ea, q⟩ | ⟨c, ea, q⟩
    · rw [ea]
      intro vs H2 F2 e2 rv
      have r2 := r.mono e2
      rw [List.append_nil]
      refine ⟨h, vs, st, ds, F2, rfl, hs.mono e2, by rw [← O.eK]; exact rv, r2.ext.sub, r2.ext.nt, by rw [← O.T]; exact r2.tab, ?_⟩
      cases hmm : mm st ds with
      | ok p => rw [hmm] at q; exact q.elim
      | bad => rw [hmm] at q; exact q.elim
      | exc c =>
        rw [hmm] at q
        exact fun H' x => ⟨c, rfl, rfl, q H' (r2.ext.h.trans (by rw [O.T]; exact x))⟩
    · rw [ea]; exact q
theorem e_mP {ce : Expr} {args : En → R (List D)} {mm : HSt → List D → R D} {t : TA} (O : OkX G B k X) (hc : PE X ce (tMeth (hC G.K) m (spP G mm) [] (EB G B) (fun σ H Q => ∃ v, σ[i]? = some (some v) ∧ Q v H) t))
    (ht : ∀ σ H Q, tL B args σ H Q → t σ H Q) (hm : ∀ v1 v2 a b, (hfs v1 v2 a b).lookup m = none) : PE X ce (tE B (eMP i args mm)) := PE.imp hc fun σ H Q ⟨env, F, r, q⟩ => by
  unfold eMP at q
  cases hh : hsOf env[i]? with
  | none => rw [hh] at q; exact q.elim
  | some st =>
    rw [hh] at q
    simp only at q
    obtain ⟨h, h1, hs⟩ := hs_slot O r hh
    refine ⟨.ref h.p, h1, h.p, h.dx, _, rfl, hs.hp, hm _ _ _ _, ht _ _ _ ⟨env, F, r, ?_⟩⟩
    rcases q.bind with ⟨ds, ea, q⟩ | ⟨c, ea, q⟩
    · rw [ea]
      intro vs H2 F2 e2 rv
      have r2 := r.mono e2
      rw [List.append_nil]
      refine ⟨h, vs, st, ds, F2, rfl, hs.mono e2, by rw [← O.eK]; exact rv, r2.ext.sub, r2.ext.nt, by rw [← O.T]; exact r2.tab, ?_⟩
      cases hmm : mm st ds with
      | ok d =>
        rw [hmm] at q
        exact fun v H' F' x rv => q v H' F' (e2.trans (by rw [O.T]; exact x)) (by rw [O.eK]; exact rv)
      | bad => rw [hmm] at q; exact q.elim
      | exc c =>
        rw [hmm] at q
        exact fun H' x => ⟨c, rfl, rfl, q H' (r2.ext.h.trans (by rw [O.T]; exact x))⟩
    · rw [ea]; exact q
theorem tL_self {args : En → R (List D)} : ∀ (σ : L2.St) (H : Hp) (Q : List V → Hp → Prop), tL B args σ H Q → tL B args σ H Q := fun _ _ _ h => h
theorem tL_nil : ∀ (σ : L2.St) (H : Hp) (Q : List V → Hp → Prop), tL B aNil σ H Q → tNil σ H Q := fun σ H Q ⟨env, F, r, q⟩ => q [] H F r.stay .nil
def eNow (i : Nat) : En → R D := fun env => match hsOf env[i]? with
  | some st => .ok st.now
  | none => .bad
def eDr (i : Nat) : En → R D := fun env => match hsOf env[i]? with
  | some st => .ok st.dr
  | none => .bad
theorem e_now (i : Nat) (O : OkX G B k X) (hF : HsF G) (hN : X.N[i]? = some x := by rfl) (hv : Vis X.env.scope x := by first | exact Or.inl rfl | exact Or.inr (Or.inl rfl) | exact Or.inr (Or.inr rfl)) (hd : (x == ("__debug__" : Str)) = false := by decide) (hcd : (x == ("__classdict__" : Str)) = false := by decide)
    (hb : attributeBase (.Name x px) "now" X.env (eval (.Name x px) X.env) = eval (.Name x px) X.env := by rfl) : PE X (.Attribute (.Name x px) "now" pos) (tE B (eNow i)) :=
  PE.imp (pe_fld (pe_var hN hv hd hcd) hb) fun σ H Q ⟨env, F, r, q⟩ => by
    unfold eNow at q
    cases hh : hsOf env[i]? with
    | none => rw [hh] at q; exact q.elim
    | some st =>
      rw [hh] at q
      obtain ⟨h, h1, hs⟩ := hs_slot O r hh
      exact ⟨.ref h.p, h1, h.p, _, h.dx, _, h.v2, rfl, hs.hp, by rw [O.GK]; exact hF.cl, by rw [O.GK]; exact hF.nN, rfl, q.now r (by rw [O.eK]; exact hs.r2)⟩
theorem e_dr (i : Nat) (O : OkX G B k X) (hF : HsF G) (hN : X.N[i]? = some x := by rfl) (hv : Vis X.env.scope x := by first | exact Or.inl rfl | exact Or.inr (Or.inl rfl) | exact Or.inr (Or.inr rfl)) (hd : (x == ("__debug__" : Str)) = false := by decide) (hcd : (x == ("__classdict__" : Str)) = false := by decide)
    (hb : attributeBase (.Name x px) "drafts" X.env (eval (.Name x px) X.env) = eval (.Name x px) X.env := by rfl) : PE X (.Attribute (.Name x px) "drafts" pos) (tE B (eDr i)) :=
  PE.imp (pe_fld (pe_var hN hv hd hcd) hb) fun σ H Q ⟨env, F, r, q⟩ => by
    unfold eDr at q
    cases hh : hsOf env[i]? with
    | none => rw [hh] at q; exact q.elim
    | some st =>
      rw [hh] at q
      obtain ⟨h, h1, hs⟩ := hs_slot O r hh
      exact ⟨.ref h.p, h1, h.p, _, h.dx, _, h.v1, rfl, hs.hp, by rw [O.GK]; exact hF.cl, by rw [O.GK]; exact hF.nD, rfl, q.now r (by rw [O.eK]; exact hs.r1)⟩
/-- self.past == [], self.ahead == [] -/
def qNil (i : Nat) (pst : Bool) : En → R Bool := fun env => match hsOf env[i]? with
  | some st => .ok (if pst = true then st.past.isEmpty else st.ahead.isEmpty)
  | none => .bad
theorem t_nil {f : Str} {lp fpos : Pos} (i : Nat) (pst : Bool) (O : OkX G B k X) (hF : HsF G) (hf : f = if pst = true then "past" else "ahead") (hN : X.N[i]? = some x := by rfl) (hv : Vis X.env.scope x := by first | exact Or.inl rfl | exact Or.inr (Or.inl rfl) | exact Or.inr (Or.inr rfl)) (hd : (x == ("__debug__" : Str)) = false := by decide) (hcd : (x == ("__classdict__" : Str)) = false := by decide)
    (hb : attributeBase (.Name x px) f X.env (eval (.Name x px) X.env) = eval (.Name x px) X.env := by rfl) (hm : behindInMarks .Eq (.List [] lp) = false := by first | rfl | exact nomark _) :
    PT X (.Compare (.Attribute (.Name x px) f fpos) [.Eq] [.List [] lp] pos) (tQ B (qNil i pst)) := by
  subst hf
  refine PT.imp (pt_cmpR (op_eq0 O.room.units0) (pe_fld (pe_var hN hv hd hcd) hb) (pe_lst pa_nil) hm) fun σ H Q ⟨env, F, r, q⟩ => ?_
  unfold qNil at q
  cases hh : hsOf env[i]? with
  | none => rw [hh] at q; exact q.elim
  | some st =>
    rw [hh] at q
    obtain ⟨h, h1, hs⟩ := hs_slot O r hh
    have one : ∀ (c : Addr) (zs : List V) (l : List D), Rd H c (.lst zs) → RepL G.K F zs l → GoodB B H F Q (.ok l.isEmpty) → ∀ z, H z = none → (∃ a b xs ys, V.ref c = .ref a ∧ V.ref z = .ref b ∧ SqL X.K (upd H z (.lst [])) a xs ∧ SqL X.K (upd H z (.lst [])) b ys ∧
        ((xs = [] ∧ ys = [] ∧ ∃ b, V.bl true = .bl b ∧ Q b (upd H z (.lst []))) ∨ (xs.length ≠ ys.length ∧ ∃ b, V.bl false = .bl b ∧ Q b (upd H z (.lst []))))) := fun c zs l hc rl q z hz => by
      have E := Ext.own (T := B.T) (o := .lst []) r.ext.sub r.ext.nt hz
      have nz : c ≠ z := fun e => by
        rcases hc with k | ⟨_, k⟩ <;> rw [e, hz] at k <;> cases k
      have sq : SqL X.K (upd H z (.lst [])) c zs := by
        rcases hc with k | ⟨o, k⟩
        · exact .inl (.inl (by rw [upd_ne nz]; exact k))
        · exact .inl (.inr ⟨o, by rw [upd_ne nz]; exact k⟩)
      refine ⟨c, z, zs, [], rfl, rfl, sq, SqL.of upd_same, ?_⟩
      cases rl with
      | nil => exact .inl ⟨rfl, rfl, true, rfl, q _ _ E⟩
      | cons _ _ => exact .inr ⟨by simp, false, rfl, q _ _ E⟩
    cases pst with
    | true => exact ⟨.ref h.p, h1, h.p, _, h.dx, _, .ref h.a, rfl, hs.hp, by rw [O.GK]; exact hF.cl, by rw [O.GK]; exact hF.nP, rfl, Nat.zero_le _, one h.a h.xs st.past hs.ha hs.r3 q⟩
    | false => exact ⟨.ref h.p, h1, h.p, _, h.dx, _, .ref h.b, rfl, hs.hp, by rw [O.GK]; exact hF.cl, by rw [O.GK]; exact hF.nA, rfl, Nat.zero_le _, one h.b h.ys st.ahead hs.hb hs.r4 q⟩
end
end Mk
set_option maxHeartbeats 2000000
namespace Mk
open PySem PySem.Spec PyProof.Rows L2 HotX L2H LamX
def MD (G : Gx) (m qual : Str) (st : Stmt) (ps : List Str) : Prop := ∃ (f : Addr) (fd : FuncData), Meth G.K (hC G.K) m f ∧ Fun G.K m qual st f fd ∧ L2.Binds G.K fd ps []
def startH (n : Nat) (sh : HSt) (ds : List D) : En := some (.bh sh) :: startE (n - 1) ds
theorem Rel.consH {B : Bd} {env : En} {σ : L2.St} {H F : Hp} {v : V} {sh : HSt} (r : Rel B env σ H F) (hh : SlotR B H F v (.bh sh)) : Rel B (some (.bh sh) :: env) (some v :: σ) H F where
  ext := r.ext
  tab := r.tab
  len := by rw [List.length_cons, List.length_cons, r.len]
  slot := fun i s h => by
    cases i with
    | zero =>
      have e : SV.bh sh = s := Option.some.inj (Option.some.inj h)
      subst e
      exact ⟨v, rfl, hh⟩
    | succ i => exact r.slot i s h
  dist := fun i j s s' hne h1 h2 o1 o2 => by
    cases i with
    | zero =>
      have e : SV.bh sh = s := Option.some.inj (Option.some.inj h1)
      subst e
      cases o1
    | succ i =>
      cases j with
      | zero =>
        have e : SV.bh sh = s' := Option.some.inj (Option.some.inj h2)
        subst e
        cases o2
      | succ j => exact r.dist i j s s' (fun z => hne (by rw [z])) h1 h2 o1 o2
theorem start_cons {N : List Str} {v : V} {vs : List V} : L2.start N (v :: vs) = some v :: L2.start N.tail vs := by
  unfold L2.start
  rw [List.map_cons, List.cons_append, List.length_tail, List.length_cons]
  congr 3
  omega
theorem rel_startH {B : Bd} {N : List Str} {h : HA} {vs : List V} {ds : List D} {H F : Hp} {sh : HSt} (hB : B.H0 = H) (hF : B.F0 = F) (hh : B.hs = h.p) (s : HsA B.K H F h sh) (r : RepL B.K F vs ds) (sub : Same F H) (nt : ∀ b ps, F b ≠ some (.tbl ps)) (tab : Tabs B.T H) :
    Rel B (startH N.length sh ds) (L2.start N (.ref h.p :: vs)) H F := by
  have r0 := rel_start (N := N.tail) hB hF r sub nt tab
  rw [start_cons]
  unfold startH
  rw [List.length_tail] at r0
  exact r0.consH ⟨h.dx, h.v1, h.v2, h.a, h.b, h.xs, h.ys, by rw [hh], by rw [hh, hB, hF]; exact s⟩
section
variable {G : Gx} {k : Nat} {m qual : Str} {st : Stmt} {N ps : List Str}
theorem mt_of {sp : Sp} (M : MD G m qual st ps) (S : FnScope N ps (defScope st)) (len : ∀ vs H Q E, sp vs H Q E → vs.length = ps.length)
    (body : ∀ (f : Addr) (cdv : Value) (A : Around) (outer : List Env) (s : Shared) (H : Hp) (vs : List V) (Q : VK) (E : XK), Room k (A.deeper (envOfC qual (defScope st) s.heap.objs.size f cdv)) → sp vs H Q E →
      ∃ t, PSs (cxOf (L2N.CX G.P G.w) G.P G.w G.K G.mg G.base N qual (defScope st) f cdv A outer s H E) (defBody st) t ∧ t { nx := fun _ H' => Q .non H', rt := Q } (L2.start N vs) H) : MtS G (k + 1) m sp := by
  obtain ⟨f, fd, h1, h2, h3⟩ := M
  obtain ⟨oc, od, kV, doc, pm, an, cdv, ct, osl, efd, lk, hcd⟩ := h2.ex
  subst efd
  exact ⟨f, _, ps, h1, h3, fn_of lk hcd S len fun A outer s H vs Q E hr h => body f cdv A outer s H vs Q E hr h⟩
/-- the ground of a body -/
theorem mt_ok {f : Addr} {cdv : Value} {A : Around} {outer : List Env} {s : Shared} {H H0 F0 : Hp} {E : XK} {p : Addr} (S : FnScope N ps (defScope st)) (hr : Room k (A.deeper (envOfC qual (defScope st) s.heap.objs.size f cdv))) :
    L2N.Takes (cxOf (L2N.CX G.P G.w) G.P G.w G.K G.mg G.base N qual (defScope st) f cdv A outer s H E) (fun cls d _ H => EB G ⟨G.w, G.K, G.T, H0, F0, fun c H' => E (G.cm c) none H', p⟩ cls d H) ∧
      OkX G ⟨G.w, G.K, G.T, H0, F0, fun c H' => E (G.cm c) none H', p⟩ k (cxOf (L2N.CX G.P G.w) G.P G.w G.K G.mg G.base N qual (defScope st) f cdv A outer s H E) := by
  have tk0 : L2N.Takes (cxOf (L2N.CX G.P G.w) G.P G.w G.K G.mg G.base N qual (defScope st) f cdv A outer s H E) (fun cls d _ H => E cls d H) := L2N.takes_of rfl rfl rfl rfl
  have tk : L2N.Takes (cxOf (L2N.CX G.P G.w) G.P G.w G.K G.mg G.base N qual (defScope st) f cdv A outer s H E) (fun cls d _ H => EB G ⟨G.w, G.K, G.T, H0, F0, fun c H' => E (G.cm c) none H', p⟩ cls d H) := tk0.imp fun cls d σ H' ⟨c, e1, e2, e3⟩ => by
    rw [e1, e2]; exact e3
  exact ⟨tk, rfl, rfl, rfl, rfl, rfl, rfl, rfl, fun _ => rfl, S.nd, L2H.roomH_of hr, fun _ => hr.hd, L2N.passes_call tk (fun _ _ _ _ z => z), rfl⟩
def fnP (n m : Nat) (f : En → R Out) : HSt → List D → R D := fun sh ds => if ds.length + 1 = m then (f (startH n sh ds)).bind outD else .bad
theorem mt_P {w : En → R Out} (M : MD G m qual st ps) (S : FnScope N ps (defScope st))
    (body : ∀ (f : Addr) (cdv : Value) (A : Around) (outer : List Env) (s : Shared) (H : Hp) (E : XK) (B : Bd), OkX G B k (cxOf (L2N.CX G.P G.w) G.P G.w G.K G.mg G.base N qual (defScope st) f cdv A outer s H E) →
      L2N.Takes (cxOf (L2N.CX G.P G.w) G.P G.w G.K G.mg G.base N qual (defScope st) f cdv A outer s H E) (fun cls d _ H => EB G B cls d H) →
      PSs (cxOf (L2N.CX G.P G.w) G.P G.w G.K G.mg G.base N qual (defScope st) f cdv A outer s H E) (defBody st) (tS B w)) : MtS G (k + 1) m (spP G (fnP N.length ps.length w)) := by
  refine mt_of M S (fun vs H Q E ⟨h, vs', sh, ds, F, e, hs, rv, sub, nt, tab, q⟩ => ?_) fun f cdv A outer s H vs Q E hr ⟨h, vs', sh, ds, F, e, hs, rv, sub, nt, tab, q⟩ => ?_
  · unfold fnP at q
    by_cases hl : ds.length + 1 = ps.length
    · rw [e, List.length_cons, rv.length]; exact hl
    · rw [if_neg hl] at q; exact q.elim
  · subst e
    obtain ⟨tk, O⟩ := mt_ok (G := G) (H := H) (H0 := H) (F0 := F) (E := E) (p := h.p) (outer := outer) S hr
    refine ⟨_, body f cdv A outer s H E _ O tk, startH N.length sh ds, F, rel_startH rfl rfl rfl hs rv sub nt tab, ?_⟩
    unfold fnP at q
    by_cases hl : ds.length + 1 = ps.length
    · rw [if_pos hl] at q
      cases hw : w (startH N.length sh ds) with
      | bad => rw [hw] at q; exact q.elim
      | exc c => rw [hw] at q; exact q
      | ok o =>
        rw [hw] at q
        cases o with
        | nx env => exact fun σ' H' F' r' _ => q .non H' F' r'.ext .non
        | rt d => exact fun v H' F' x _ rv => q v H' F' x rv
        | bk env => exact q.elim
        | ct env => exact q.elim
    · rw [if_neg hl] at q; exact q.elim
def runW : List (En → R Out) → En → R En
  | [], env => .ok env
  | f :: fs, env => (f env).bind fun o => match o with
    | .nx env' => runW fs env'
    | _ => .bad
theorem foldW_run {B : Bd} {Z : Ends} {W : En → Ends → L2.St → Hp → Hp → Prop} : ∀ (fs : List (En → R Out)) (env : En) (σ : L2.St) (H F : Hp), Rel B env σ H F →
    (match runW fs env with | .ok env' => ∀ σ' H' F', Rel B env' σ' H' F' → W env' Z σ' H' F' | .exc c => ∀ H', ExtH B.T B.H0 H' → B.wx c H' | .bad => False) → (fs.foldr (seqW B) W) env Z σ H F
  | [], env, σ, H, F, r, h => h σ H F r
  | f :: fs, env, σ, H, F, r, h => by
    show seqW B f (fs.foldr (seqW B) W) env Z σ H F
    unfold seqW
    unfold runW at h
    cases hf : f env with
    | ok o =>
      rw [hf] at h
      cases o with
      | nx env1 => exact fun σ' H' F' r' _ => foldW_run fs env1 σ' H' F' r' h
      | rt d => exact h.elim
      | bk d => exact h.elim
      | ct d => exact h.elim
    | exc c => rw [hf] at h; exact h
    | bad => rw [hf] at h; exact h
def isBh : Option (Option SV) → Bool
  | some (some (.bh _)) => true
  | _ => false
def tailM (fs : List (En → R Out)) (args : En → R (List D)) (n m : Nat) (mb : HSt → List D → R (HSt × D)) : HSt → List D → R (HSt × D) := fun sh ds =>
  if ds.length + 1 = m then (runW fs (startH n sh ds)).bind fun env => if isBh env[0]? = true then (args env).bind fun ds' => mb sh ds' else .bad else .bad
def retW (G : Gx) (B : Bd) (args : En → R (List D)) (mb : HSt → List D → R (HSt × D)) : En → Ends → L2.St → Hp → Hp → Prop := fun env Z σ H F => isBh env[0]? = true ∧ match args env with
  | .ok ds => ∀ vs H2 F2, Ext B.T B.H0 B.F0 H2 F2 → Tabs B.T H2 → RepL B.K F2 vs ds → spM G mb (.ref B.hs :: vs) H2 Z.rt (EB G B)
  | .exc c => ∀ H', ExtH B.T B.H0 H' → B.wx c H'
  | .bad => False
theorem s_retM {B : Bd} {j : Nat} {X : Cx} {ce : Expr} {pos : Pos} {x : Str} {args : En → R (List D)} {mb : HSt → List D → R (HSt × D)} {t : TA} (O : OkX G B j X) (hc : PE X ce (tMeth (hC G.K) x (spM G mb) [] (EB G B) (fun σ H Q => ∃ v, σ[0]? = some (some v) ∧ Q v H) t))
    (ht : ∀ σ H Q, tL B args σ H Q → t σ H Q) (hm : ∀ v1 v2 a b, (hfs v1 v2 a b).lookup x = none) : PS X (.Return (some ce) pos) (tK B (retW G B args mb)) := PS.imp (ps_ret hc) fun Z σ H ⟨env, F, r, hb, q⟩ => by
  cases he : env[0]? with
  | none => rw [he] at hb; cases hb
  | some o =>
    cases o with
    | none => rw [he] at hb; cases hb
    | some sv =>
      cases sv with
      | bh sh =>
        obtain ⟨v, h1, dx, v1, v2, a, b, xs, ys, rfl, hs⟩ := r.slot 0 _ he
        refine ⟨.ref B.hs, h1, B.hs, dx, _, rfl, by rw [← O.eK]; exact (hs.mono r.ext).hp, hm _ _ _ _, ht _ _ _ ⟨env, F, r, ?_⟩⟩
        cases ha : args env with
        | ok ds =>
          rw [ha] at q
          intro vs H2 F2 e2 rv
          rw [List.append_nil]
          exact q vs H2 F2 (r.ext.trans e2) (e2.tabs r.tab) rv
        | exc c => rw [ha] at q; exact q
        | bad => rw [ha] at q; exact q
      | fro d => rw [he] at hb; cases hb
      | ol d => rw [he] at hb; cases hb
      | od d => rw [he] at hb; cases hb
      | oq d => rw [he] at hb; cases hb
      | ob d => rw [he] at hb; cases hb
theorem mt_T {fs : List (En → R Out)} {args : En → R (List D)} {mb : HSt → List D → R (HSt × D)} (M : MD G m qual st ps) (S : FnScope N ps (defScope st))
    (body : ∀ (f : Addr) (cdv : Value) (A : Around) (outer : List Env) (s : Shared) (H : Hp) (E : XK) (B : Bd), OkX G B k (cxOf (L2N.CX G.P G.w) G.P G.w G.K G.mg G.base N qual (defScope st) f cdv A outer s H E) →
      L2N.Takes (cxOf (L2N.CX G.P G.w) G.P G.w G.K G.mg G.base N qual (defScope st) f cdv A outer s H E) (fun cls d _ H => EB G B cls d H) →
      PSs (cxOf (L2N.CX G.P G.w) G.P G.w G.K G.mg G.base N qual (defScope st) f cdv A outer s H E) (defBody st) (tK B (fs.foldr (seqW B) (retW G B args mb)))) : MtS G (k + 1) m (spM G (tailM fs args N.length ps.length mb)) := by
  refine mt_of M S (fun vs H Q E ⟨h, vs', sh, ds, F, e, hs, rv, sub, nt, tab, q⟩ => ?_) fun f cdv A outer s H vs Q E hr ⟨h, vs', sh, ds, F, e, hs, rv, sub, nt, tab, q⟩ => ?_
  · unfold tailM at q
    by_cases hl : ds.length + 1 = ps.length
    · rw [e, List.length_cons, rv.length]; exact hl
    · rw [if_neg hl] at q; exact q.elim
  · subst e
    obtain ⟨tk, O⟩ := mt_ok (G := G) (H := H) (H0 := H) (F0 := F) (E := E) (p := h.p) (outer := outer) S hr
    have r0 : Rel ⟨G.w, G.K, G.T, H, F, fun c H' => E (G.cm c) none H', h.p⟩ (startH N.length sh ds) (L2.start N (.ref h.p :: vs')) H F := rel_startH rfl rfl rfl hs rv sub nt tab
    refine ⟨_, body f cdv A outer s H E _ O tk, startH N.length sh ds, F, r0, foldW_run fs _ _ _ _ r0 ?_⟩
    unfold tailM at q
    by_cases hl : ds.length + 1 = ps.length
    · rw [if_pos hl] at q
      cases hw : runW fs (startH N.length sh ds) with
      | bad => rw [hw] at q; exact q.elim
      | exc c => rw [hw] at q; exact q
      | ok env =>
        rw [hw] at q
        simp only [R.bind] at q
        by_cases hb : isBh env[0]? = true
        · rw [if_pos hb] at q
          intro σ' H' F' r'
          refine ⟨hb, ?_⟩
          cases ha : args env with
          | bad => rw [ha] at q; exact q.elim
          | exc c => rw [ha] at q; exact q
          | ok ds' =>
            rw [ha] at q
            intro vs2 H2 F2 e2 t2 rv2
            have e2' : Ext G.T H F H2 F2 := e2
            have hs2 := hs.mono e2'
            refine ⟨h, vs2, sh, ds', F2, rfl, hs2, rv2, e2.sub, e2.nt, t2, ?_⟩
            cases hm : mb sh ds' with
            | bad => simp only [hm] at q
            | exc c => simp only [hm] at q; exact fun H3 x => ⟨c, rfl, rfl, q H3 (e2'.h.trans x)⟩
            | ok p =>
              obtain ⟨st', d⟩ := p
              simp only [hm] at q
              exact ⟨⟨e2'.same _ _ q.1.1 (fun ps z => by cases z), e2'.same _ _ q.1.2 (fun ps z => by cases z)⟩, fun v H3 F3 h' x1 x2 x3 x4 x5 x6 x7 => q.2 v H3 F3 h' (Ext.del2 e2' hs2 x1) x2 x3 x4 (free_del2 e2' x5) (free_del2 e2' x6) x7⟩
        · rw [if_neg hb] at q; exact q.elim
    · rw [if_neg hl] at q; exact q.elim
end
end Mk
set_option maxHeartbeats 2000000
namespace Mk
open PySem PySem.Spec PyProof.Rows L2 HotX L2H LamX
def vr (i : Nat) : TE := fun σ H Q => ∃ v, σ[i]? = some (some v) ∧ Q v H
theorem Ext.toDel {T : List (Addr × Str)} {H0 F0 H F : Hp} {h : HA} (e : Ext T H0 F0 H F) : Ext T (del3 H0 h) F0 H F where
  same := fun x o q ht => e.same x o (del3_of q).1 ht
  tabs := fun t => e.tabs (tabs_undel t)
  fsame := e.fsame
  sub := e.sub
  nt := e.nt
  new := fun x o q => by
    rcases e.new x o q with z | z
    · exact .inl z
    · exact .inr (free_to z)
theorem tabs_ins {T : List (Addr × Str)} {H : Hp} {a C dx : Addr} {fs : List (Str × V)} {o : HO} (h : H a = some (.ins C dx fs)) (t : Tabs T H) : Tabs T (upd H a o) := by
  refine tabs_by (fun x ps e => ?_) (fun x q e => ?_) t
  · have n : x ≠ a := fun z => by rw [z, h] at e; cases e
    rw [upd_ne n]; exact e
  · have n : x ≠ a := fun z => by
      rw [z, h] at e
      unfold CodeO at e
      cases e
    rw [upd_ne n]; exact e
theorem put_ahead (v1 v2 : V) (a b c : Addr) : putF "ahead" (.ref c) (hfs v1 v2 a b) = hfs v1 v2 a c := rfl
theorem put_now (v1 v2 v : V) (a b : Addr) : putF "now" v (hfs v1 v2 a b) = hfs v1 v a b := rfl
theorem len_hfs (v1 v2 : V) (a b : Addr) : (hfs v1 v2 a b).length < 1000 := by show 4 < 1000; decide
section
variable {G : Gx} {B : Bd} {k : Nat} {X : Cx}
structure XF (X : Cx) (B : Bd) : Prop where
  cl : Cls X.K (hC B.K)
  nN : NoAttr X.K (hC B.K) "now"
  nP : NoAttr X.K (hC B.K) "past"
  nA : NoAttr X.K (hC B.K) "ahead"
theorem OkX.xf (O : OkX G B k X) (hF : HsF G) : XF X B := by
  have e1 := O.GK
  have e2 := O.eK
  refine ⟨?_, ?_, ?_, ?_⟩ <;> rw [e1, e2]
  · exact hF.cl
  · exact hF.nN
  · exact hF.nP
  · exact hF.nA
def rawBec (K : PySem.W.Frag) : TS := tSeq (tDrop (tBM K "list" rAppend (tFld K (vr 0) "past") (tCons (tFld K (vr 0) "now") tNil))) (tSeq (sFld K (vr 0) (tLst tNil) "ahead") (tSeq (sFld K (vr 0) (tTup (tCons (vr 1) (tCons (vr 2) (tCons (vr 3) tNil)))) "now") (tRet (vr 4))))
def becW (B : Bd) : En → Ends → L2.St → Hp → Hp → Prop := fun env Z σ H F => ∃ sh' sh dS dW dL dF, ∃ h : HA, env = [some (.bh sh'), some (.fro dS), some (.fro dW), some (.fro dL), some (.fro dF)] ∧ HsA B.K B.H0 B.F0 h sh ∧ h.p = B.hs ∧ Pl B.H0 h ∧ sh.past.length < sizeLine ∧
  ∀ (v : V) (H' F' : Hp) (h' : HA), Ext B.T (del3 B.H0 h) B.F0 H' F' → HsA B.K H' F' h' ⟨sh.dr, .tup [dS, dW, dL], sh.past ++ [sh.now], []⟩ → Pl H' h' → h'.p = h.p → Free (del3 B.H0 h) h'.a → Free (del3 B.H0 h) h'.b → Rep B.K F' v dF → Z.rt v H'
theorem s_bec {sts : List Stmt} (xf : XF X B) (hr : PSs X sts (rawBec X.K)) : PSs X sts (tK B (becW B)) := PSs.imp hr fun Z σ H ⟨env, F, r, sh', sh, dS, dW, dL, dF, h, e, hs0, hp, pl0, hl, q⟩ => by
  subst e
  obtain ⟨v0, k0, _, _, _, _, _, _, _, e0, _⟩ := r.slot 0 _ rfl
  subst e0
  rw [← hp] at k0
  obtain ⟨vS, kS, rS⟩ := r.slot 1 _ rfl
  obtain ⟨vW, kW, rW⟩ := r.slot 2 _ rfl
  obtain ⟨vL, kL, rL⟩ := r.slot 3 _ rfl
  obtain ⟨vF, kF, rF⟩ := r.slot 4 _ rfl
  have hs := hs0.mono r.ext
  have pl : Pl H h := ⟨r.ext.same _ _ pl0.1 (fun ps z => by cases z), r.ext.same _ _ pl0.2 (fun ps z => by cases z)⟩
  have n_pa : h.p ≠ h.a := fun z => by
    have := hs.hp
    rw [z, pl.1] at this
    cases this
  have hlen : h.xs.length < sizeLine := by rw [hs.r3.length]; exact hl
  refine ⟨.ref h.p, k0, h.p, _, h.dx, _, .ref h.a, rfl, hs.hp, xf.cl, xf.nP, rfl, .inl ⟨rfl, _, SqL.of pl.1⟩, .ref h.p, k0, h.p, _, h.dx, _, h.v2, rfl, hs.hp, xf.cl, xf.nN, rfl, h.a, h.xs, h.v2, rfl, rfl, pl.1, hlen, ?_⟩
  have e0 : Ext B.T (del3 B.H0 h) B.F0 H F := r.ext.toDel
  have e1 := e0.mut (o := .lst (h.xs ++ [h.v2])) (free_in (.inr (.inl rfl))) (tabs_mut pl.1) hs.fa
  generalize hH1 : upd H h.a (.lst (h.xs ++ [h.v2])) = H1 at e1
  have p1 : H1 h.p = some (.ins (hC B.K) h.dx (hfs h.v1 h.v2 h.a h.b)) := by rw [← hH1, upd_ne n_pa]; exact hs.hp
  have a1 : H1 h.a = some (.lst (h.xs ++ [h.v2])) := by rw [← hH1]; exact upd_same
  refine ⟨Nat.zero_le _, fun c hc => ⟨.ref h.p, k0, h.p, hC B.K, h.dx, hfs h.v1 h.v2 h.a h.b, rfl, ?_, xf.cl, xf.nA, len_hfs _ _ _ _, ?_⟩⟩
  · rw [upd_ne (ne_of_none p1 hc)]; exact p1
  have fc : F c = none := by
    cases z : F c with
    | none => rfl
    | some o => rw [e1.sub _ _ z] at hc; cases hc
  have e2 := e1.trans (Ext.own (T := B.T) (o := .lst []) e1.sub e1.nt hc)
  have free_c : Free (del3 B.H0 h) c := Free.back e1.same (.inl hc)
  have n_ac : h.a ≠ c := ne_of_none a1 hc
  have n_pc : h.p ≠ c := ne_of_none p1 hc
  generalize hH2 : upd H1 c (.lst []) = H2 at e2
  have p2 : H2 h.p = some (.ins (hC B.K) h.dx (hfs h.v1 h.v2 h.a h.b)) := by rw [← hH2, upd_ne n_pc]; exact p1
  have a2 : H2 h.a = some (.lst (h.xs ++ [h.v2])) := by rw [← hH2, upd_ne n_ac]; exact a1
  have c2 : H2 c = some (.lst []) := by rw [← hH2]; exact upd_same
  rw [put_ahead]
  have e3 := e2.mut (o := .ins (hC B.K) h.dx (hfs h.v1 h.v2 h.a c)) (free_in (.inl rfl)) (tabs_ins p2) hs.fp
  generalize hH3 : upd H2 h.p (.ins (hC B.K) h.dx (hfs h.v1 h.v2 h.a c)) = H3 at e3
  have p3 : H3 h.p = some (.ins (hC B.K) h.dx (hfs h.v1 h.v2 h.a c)) := by rw [← hH3]; exact upd_same
  have a3 : H3 h.a = some (.lst (h.xs ++ [h.v2])) := by rw [← hH3, upd_ne (Ne.symm n_pa)]; exact a2
  have c3 : H3 c = some (.lst []) := by rw [← hH3, upd_ne (Ne.symm n_pc)]; exact c2
  refine ⟨vS, kS, vW, kW, vL, kL, by show 3 ≤ sizeLine; decide, fun t ht => ⟨.ref h.p, k0, h.p, hC B.K, h.dx, hfs h.v1 h.v2 h.a c, rfl, ?_, xf.cl, xf.nN, len_hfs _ _ _ _, ?_⟩⟩
  · rw [upd_ne (ne_of_none p3 ht)]; exact p3
  have E4 : Ext B.T H3 F (upd H3 t (.tup [vS, vW, vL])) (upd F t (.tup [vS, vW, vL])) := Ext.frz e3.sub e3.nt ht (fun ps z => by cases z)
  have e4 := e3.trans E4
  have n_pt : h.p ≠ t := ne_of_none p3 ht
  have n_at : h.a ≠ t := ne_of_none a3 ht
  have n_ct : c ≠ t := ne_of_none c3 ht
  generalize hH4 : upd H3 t (.tup [vS, vW, vL]) = H4 at e4 E4
  have p4 : H4 h.p = some (.ins (hC B.K) h.dx (hfs h.v1 h.v2 h.a c)) := by rw [← hH4, upd_ne n_pt]; exact p3
  have a4 : H4 h.a = some (.lst (h.xs ++ [h.v2])) := by rw [← hH4, upd_ne n_at]; exact a3
  have c4 : H4 c = some (.lst []) := by rw [← hH4, upd_ne n_ct]; exact c3
  rw [put_now]
  have fp' : upd F t (.tup [vS, vW, vL]) h.p = none := by rw [upd_ne n_pt]; exact hs.fp
  have e5 := e4.mut (o := .ins (hC B.K) h.dx (hfs h.v1 (.ref t) h.a c)) (free_in (.inl rfl)) (tabs_ins p4) fp'
  have sm : Same F (upd F t (.tup [vS, vW, vL])) := E4.fsame
  have a5 : upd H4 h.p (.ins (hC B.K) h.dx (hfs h.v1 (.ref t) h.a c)) h.a = some (.lst (h.xs ++ [h.v2])) := by rw [upd_ne (Ne.symm n_pa)]; exact a4
  have c5 : upd H4 h.p (.ins (hC B.K) h.dx (hfs h.v1 (.ref t) h.a c)) c = some (.lst []) := by rw [upd_ne (Ne.symm n_pc)]; exact c4
  refine ⟨vF, kF, q vF _ _ ⟨h.p, h.dx, h.a, c, h.v1, .ref t, h.xs ++ [h.v2], []⟩ e5 ⟨upd_same, .inl a5, .inl c5, n_ac, fp', by rw [upd_ne n_at]; exact hs.fa, by rw [upd_ne n_ct]; exact fc, hs.r1.mono sm, ?_, ?_, .nil, ?_, Nat.zero_le _⟩ ⟨a5, c5⟩ rfl (free_in (.inr (.inl rfl))) free_c (Rep.mono sm rF)⟩
  · exact .tup (.inl (.inl upd_same)) (.cons (Rep.mono sm rS) (.cons (Rep.mono sm rW) (.cons (Rep.mono sm rL) .nil))) (by show 3 ≤ sizeLine; decide)
  · exact (hs.r3.append (.cons hs.r2 .nil)).mono sm
  · show (sh.past ++ [sh.now]).length ≤ sizeLine
    rw [List.length_append, List.length_singleton]
    exact hl
def becE (sh : HSt) : En → R (HSt × D)
  | [some (.bh _), some (.fro dS), some (.fro dW), some (.fro dL), some (.fro dF)] => if sh.past.length < LIM then .ok (⟨sh.dr, .tup [dS, dW, dL], sh.past ++ [sh.now], []⟩, dF) else .bad
  | _ => .bad
theorem becE_ok {sh : HSt} {env : En} : (∃ s1 dS dW dL dF, env = [some (.bh s1), some (.fro dS), some (.fro dW), some (.fro dL), some (.fro dF)] ∧ sh.past.length < LIM ∧ becE sh env = .ok (⟨sh.dr, .tup [dS, dW, dL], sh.past ++ [sh.now], []⟩, dF)) ∨ becE sh env = .bad := by
  unfold becE
  split
  · split
    · exact .inl ⟨_, _, _, _, _, rfl, by assumption, rfl⟩
    · exact .inr rfl
  · exact .inr rfl
def becM (n m : Nat) (fs : List (En → R Out)) : HSt → List D → R (HSt × D) := fun sh ds => if ds.length + 1 = m then (runW fs (startH n sh ds)).bind (becE sh) else .bad
theorem mt_bec {m qual : Str} {st : Stmt} {N ps : List Str} {fs : List (En → R Out)} (M : MD G m qual st ps) (S : FnScope N ps (defScope st))
    (body : ∀ (f : Addr) (cdv : Value) (A : Around) (outer : List Env) (s : Shared) (H : Hp) (E : XK) (B : Bd), OkX G B k (cxOf (L2N.CX G.P G.w) G.P G.w G.K G.mg G.base N qual (defScope st) f cdv A outer s H E) →
      L2N.Takes (cxOf (L2N.CX G.P G.w) G.P G.w G.K G.mg G.base N qual (defScope st) f cdv A outer s H E) (fun cls d _ H => EB G B cls d H) →
      PSs (cxOf (L2N.CX G.P G.w) G.P G.w G.K G.mg G.base N qual (defScope st) f cdv A outer s H E) (defBody st) (tK B (fs.foldr (seqW B) (becW B)))) : MtS G (k + 1) m (spM G (becM N.length ps.length fs)) := by
  refine mt_of M S (fun vs H Q E ⟨h, vs', sh, ds, F, e, hs, rv, sub, nt, tab, q⟩ => ?_) fun f cdv A outer s H vs Q E hr ⟨h, vs', sh, ds, F, e, hs, rv, sub, nt, tab, q⟩ => ?_
  · unfold becM at q
    by_cases hl : ds.length + 1 = ps.length
    · rw [e, List.length_cons, rv.length]; exact hl
    · rw [if_neg hl] at q; exact q.elim
  · subst e
    obtain ⟨tk, O⟩ := mt_ok (G := G) (H := H) (H0 := H) (F0 := F) (E := E) (p := h.p) (outer := outer) S hr
    have r0 : Rel ⟨G.w, G.K, G.T, H, F, fun c H' => E (G.cm c) none H', h.p⟩ (startH N.length sh ds) (L2.start N (.ref h.p :: vs')) H F := rel_startH rfl rfl rfl hs rv sub nt tab
    refine ⟨_, body f cdv A outer s H E _ O tk, startH N.length sh ds, F, r0, foldW_run fs _ _ _ _ r0 ?_⟩
    unfold becM at q
    by_cases hl : ds.length + 1 = ps.length
    · rw [if_pos hl] at q
      cases hw : runW fs (startH N.length sh ds) with
      | bad => rw [hw] at q; exact q.elim
      | exc c => rw [hw] at q; exact q
      | ok env =>
        rw [hw] at q
        simp only [R.bind] at q
        intro σ' H' F' r'
        rcases becE_ok (sh := sh) (env := env) with ⟨s1, dS, dW, dL, dF, e, hz, eb⟩ | eb
        · rw [eb] at q
          exact ⟨s1, sh, dS, dW, dL, dF, h, e, hs, rfl, q.1, by rw [← LIM_eq]; exact hz, q.2⟩
        · rw [eb] at q; exact q.elim
    · rw [if_neg hl] at q; exact q.elim
def rawUnd (K : PySem.W.Frag) : TS := tSeq (tDrop (tBM K "list" rAppend (tFld K (vr 0) "ahead") (tCons (tFld K (vr 0) "now") tNil))) (sFld K (vr 0) (tBM0 K "list" rPop (tFld K (vr 0) "past")) "now")
def stUnd (sh : HSt) (d : D) : HSt := ⟨sh.dr, d, sh.past.dropLast, sh.ahead ++ [sh.now]⟩
def wUnd (B : Bd) : En → Ends → L2.St → Hp → Hp → Prop := fun env Z σ H F => ∃ sh' sh d, ∃ h : HA, env = [some (.bh sh')] ∧ HsA B.K B.H0 B.F0 h sh ∧ h.p = B.hs ∧ Pl B.H0 h ∧ sh.ahead.length < sizeLine ∧ sh.past[sh.past.length - 1]? = some d ∧
  ∀ (H' F' : Hp) (h' : HA) (σ' : L2.St), Ext B.T (del3 B.H0 h) B.F0 H' F' → HsA B.K H' F' h' (stUnd sh d) → Pl H' h' → h'.p = h.p → Free (del3 B.H0 h) h'.a → Free (del3 B.H0 h) h'.b → Z.nx σ' H'
theorem s_Und {sts : List Stmt} (xf : XF X B) (hr : PSs X sts (rawUnd X.K)) : PSs X sts (tK B (wUnd B)) := PSs.imp hr fun Z σ H ⟨env, F, r, sh', sh, d, h, e, hs0, hp, pl0, hl, hd, q⟩ => by
  subst e
  obtain ⟨v0, k0, _, _, _, _, _, _, _, e0, _⟩ := r.slot 0 _ rfl
  subst e0
  rw [← hp] at k0
  have hs := hs0.mono r.ext
  have pl : Pl H h := ⟨r.ext.same _ _ pl0.1 (fun ps z => by cases z), r.ext.same _ _ pl0.2 (fun ps z => by cases z)⟩
  have n_pa : h.p ≠ h.a := fun z => by
    have := hs.hp
    rw [z, pl.1] at this
    cases this
  have n_pb : h.p ≠ h.b := fun z => by
    have := hs.hp
    rw [z, pl.2] at this
    cases this
  have hx : H h.b = some (.lst h.ys) := pl.2
  have hy : H h.a = some (.lst h.xs) := pl.1
  have n_px : h.p ≠ h.b := n_pb
  have n_py : h.p ≠ h.a := n_pa
  have n_xy : h.b ≠ h.a := Ne.symm hs.ab
  have rx : RepL B.K F h.ys sh.ahead := hs.r4
  have ry : RepL B.K F h.xs sh.past := hs.r3
  have fx : F h.b = none := hs.fb
  have fy : F h.a = none := hs.fa
  have hlen : h.ys.length < sizeLine := by rw [rx.length]; exact hl
  refine ⟨.ref h.p, k0, h.p, _, h.dx, _, .ref h.b, rfl, hs.hp, xf.cl, xf.nA, rfl, .inl ⟨rfl, _, SqL.of hx⟩, .ref h.p, k0, h.p, _, h.dx, _, h.v2, rfl, hs.hp, xf.cl, xf.nN, rfl, h.b, h.ys, h.v2, rfl, rfl, hx, hlen, ?_⟩
  have e0 : Ext B.T (del3 B.H0 h) B.F0 H F := r.ext.toDel
  have e1 := e0.mut (o := .lst (h.ys ++ [h.v2])) (free_in (.inr (.inr rfl))) (tabs_mut hx) fx
  generalize hH1 : upd H h.b (.lst (h.ys ++ [h.v2])) = H1 at e1
  have p1 : H1 h.p = some (.ins (hC B.K) h.dx (hfs h.v1 h.v2 h.a h.b)) := by rw [← hH1, upd_ne n_px]; exact hs.hp
  have x1 : H1 h.b = some (.lst (h.ys ++ [h.v2])) := by rw [← hH1]; exact upd_same
  have y1 : H1 h.a = some (.lst h.xs) := by rw [← hH1, upd_ne (Ne.symm n_xy)]; exact hy
  obtain ⟨y, hyl, ryd⟩ := ry.getD hd
  have hyl' : h.xs[h.xs.length - 1]? = some y := by rw [ry.length]; exact hyl
  refine ⟨.ref h.p, k0, h.p, _, h.dx, _, .ref h.a, rfl, p1, xf.cl, xf.nP, rfl, .inl ⟨rfl, _, SqL.of y1⟩, h.a, h.xs, y, rfl, rfl, y1, hyl', .ref h.p, k0, h.p, hC B.K, h.dx, hfs h.v1 h.v2 h.a h.b, rfl, ?_, xf.cl, xf.nN, len_hfs _ _ _ _, ?_⟩
  · rw [upd_ne n_py]; exact p1
  have e2 := e1.mut (o := .lst h.xs.dropLast) (free_in (.inr (.inl rfl))) (tabs_mut y1) fy
  generalize hH2 : upd H1 h.a (.lst h.xs.dropLast) = H2 at e2
  have p2 : H2 h.p = some (.ins (hC B.K) h.dx (hfs h.v1 h.v2 h.a h.b)) := by rw [← hH2, upd_ne n_py]; exact p1
  have x2 : H2 h.b = some (.lst (h.ys ++ [h.v2])) := by rw [← hH2, upd_ne n_xy]; exact x1
  have y2 : H2 h.a = some (.lst h.xs.dropLast) := by rw [← hH2]; exact upd_same
  rw [put_now]
  have e3 := e2.mut (o := .ins (hC B.K) h.dx (hfs h.v1 y h.a h.b)) (free_in (.inl rfl)) (tabs_ins p2) hs.fp
  have x3 : upd H2 h.p (.ins (hC B.K) h.dx (hfs h.v1 y h.a h.b)) h.b = some (.lst (h.ys ++ [h.v2])) := by rw [upd_ne (Ne.symm n_px)]; exact x2
  have y3 : upd H2 h.p (.ins (hC B.K) h.dx (hfs h.v1 y h.a h.b)) h.a = some (.lst h.xs.dropLast) := by rw [upd_ne (Ne.symm n_py)]; exact y2
  have lx : (sh.ahead ++ [sh.now]).length ≤ sizeLine := by
    rw [List.length_append, List.length_singleton]
    exact hl
  have ly : sh.past.dropLast.length ≤ sizeLine := by
    have := hs.l3
    rw [List.length_dropLast]
    omega
  exact q _ _ ⟨h.p, h.dx, h.a, h.b, h.v1, y, h.xs.dropLast, h.ys ++ [h.v2]⟩ σ e3 ⟨upd_same, .inl y3, .inl x3, hs.ab, hs.fp, hs.fa, hs.fb, hs.r1, ryd, ry.dropLast, rx.append (.cons hs.r2 .nil), ly, lx⟩ ⟨y3, x3⟩ rfl (free_in (.inr (.inl rfl))) (free_in (.inr (.inr rfl)))
def eUnd (sh : HSt) : En → R (HSt × D)
  | [some (.bh _)] => match sh.past[sh.past.length - 1]? with
    | some d => if sh.ahead.length < LIM then .ok (stUnd sh d, .non) else .bad
    | none => .bad
  | _ => .bad
theorem eUnd_ok {sh : HSt} {env : En} : (∃ s1 d, env = [some (.bh s1)] ∧ sh.past[sh.past.length - 1]? = some d ∧ sh.ahead.length < LIM ∧ eUnd sh env = .ok (stUnd sh d, .non)) ∨ eUnd sh env = .bad := by
  unfold eUnd
  split
  · split
    · split
      · exact .inl ⟨_, _, rfl, by assumption, by assumption, rfl⟩
      · exact .inr rfl
    · exact .inr rfl
  · exact .inr rfl
def mUnd (n m : Nat) (fs : List (En → R Out)) : HSt → List D → R (HSt × D) := fun sh ds => if ds.length + 1 = m then (runW fs (startH n sh ds)).bind (eUnd sh) else .bad
theorem mt_Und {m qual : Str} {st : Stmt} {N ps : List Str} {fs : List (En → R Out)} (M : MD G m qual st ps) (S : FnScope N ps (defScope st))
    (body : ∀ (f : Addr) (cdv : Value) (A : Around) (outer : List Env) (s : Shared) (H : Hp) (E : XK) (B : Bd), OkX G B k (cxOf (L2N.CX G.P G.w) G.P G.w G.K G.mg G.base N qual (defScope st) f cdv A outer s H E) →
      L2N.Takes (cxOf (L2N.CX G.P G.w) G.P G.w G.K G.mg G.base N qual (defScope st) f cdv A outer s H E) (fun cls d _ H => EB G B cls d H) →
      PSs (cxOf (L2N.CX G.P G.w) G.P G.w G.K G.mg G.base N qual (defScope st) f cdv A outer s H E) (defBody st) (tK B (fs.foldr (seqW B) (wUnd B)))) : MtS G (k + 1) m (spM G (mUnd N.length ps.length fs)) := by
  refine mt_of M S (fun vs H Q E ⟨h, vs', sh, ds, F, e, hs, rv, sub, nt, tab, q⟩ => ?_) fun f cdv A outer s H vs Q E hr ⟨h, vs', sh, ds, F, e, hs, rv, sub, nt, tab, q⟩ => ?_
  · unfold mUnd at q
    by_cases hl : ds.length + 1 = ps.length
    · rw [e, List.length_cons, rv.length]; exact hl
    · rw [if_neg hl] at q; exact q.elim
  · subst e
    obtain ⟨tk, O⟩ := mt_ok (G := G) (H := H) (H0 := H) (F0 := F) (E := E) (p := h.p) (outer := outer) S hr
    have r0 : Rel ⟨G.w, G.K, G.T, H, F, fun c H' => E (G.cm c) none H', h.p⟩ (startH N.length sh ds) (L2.start N (.ref h.p :: vs')) H F := rel_startH rfl rfl rfl hs rv sub nt tab
    refine ⟨_, body f cdv A outer s H E _ O tk, startH N.length sh ds, F, r0, foldW_run fs _ _ _ _ r0 ?_⟩
    unfold mUnd at q
    by_cases hl : ds.length + 1 = ps.length
    · rw [if_pos hl] at q
      cases hw : runW fs (startH N.length sh ds) with
      | bad => rw [hw] at q; exact q.elim
      | exc c => rw [hw] at q; exact q
      | ok env =>
        rw [hw] at q
        simp only [R.bind] at q
        intro σ' H' F' r'
        rcases eUnd_ok (sh := sh) (env := env) with ⟨s1, d, e, hd, hz, eb⟩ | eb
        · rw [eb] at q
          exact ⟨s1, sh, d, h, e, hs, rfl, q.1, by rw [← LIM_eq]; exact hz, hd, fun H2 F2 h2 σ2 x1 x2 x3 x4 x5 x6 => q.2 .non H2 F2 h2 x1 x2 x3 x4 x5 x6 .non⟩
        · rw [eb] at q; exact q.elim
    · rw [if_neg hl] at q; exact q.elim
def rawRed (K : PySem.W.Frag) : TS := tSeq (tDrop (tBM K "list" rAppend (tFld K (vr 0) "past") (tCons (tFld K (vr 0) "now") tNil))) (sFld K (vr 0) (tBM0 K "list" rPop (tFld K (vr 0) "ahead")) "now")
def stRed (sh : HSt) (d : D) : HSt := ⟨sh.dr, d, sh.past ++ [sh.now], sh.ahead.dropLast⟩
def wRed (B : Bd) : En → Ends → L2.St → Hp → Hp → Prop := fun env Z σ H F => ∃ sh' sh d, ∃ h : HA, env = [some (.bh sh')] ∧ HsA B.K B.H0 B.F0 h sh ∧ h.p = B.hs ∧ Pl B.H0 h ∧ sh.past.length < sizeLine ∧ sh.ahead[sh.ahead.length - 1]? = some d ∧
  ∀ (H' F' : Hp) (h' : HA) (σ' : L2.St), Ext B.T (del3 B.H0 h) B.F0 H' F' → HsA B.K H' F' h' (stRed sh d) → Pl H' h' → h'.p = h.p → Free (del3 B.H0 h) h'.a → Free (del3 B.H0 h) h'.b → Z.nx σ' H'
theorem s_Red {sts : List Stmt} (xf : XF X B) (hr : PSs X sts (rawRed X.K)) : PSs X sts (tK B (wRed B)) := PSs.imp hr fun Z σ H ⟨env, F, r, sh', sh, d, h, e, hs0, hp, pl0, hl, hd, q⟩ => by
  subst e
  obtain ⟨v0, k0, _, _, _, _, _, _, _, e0, _⟩ := r.slot 0 _ rfl
  subst e0
  rw [← hp] at k0
  have hs := hs0.mono r.ext
  have pl : Pl H h := ⟨r.ext.same _ _ pl0.1 (fun ps z => by cases z), r.ext.same _ _ pl0.2 (fun ps z => by cases z)⟩
  have n_pa : h.p ≠ h.a := fun z => by
    have := hs.hp
    rw [z, pl.1] at this
    cases this
  have n_pb : h.p ≠ h.b := fun z => by
    have := hs.hp
    rw [z, pl.2] at this
    cases this
  have hx : H h.a = some (.lst h.xs) := pl.1
  have hy : H h.b = some (.lst h.ys) := pl.2
  have n_px : h.p ≠ h.a := n_pa
  have n_py : h.p ≠ h.b := n_pb
  have n_xy : h.a ≠ h.b := hs.ab
  have rx : RepL B.K F h.xs sh.past := hs.r3
  have ry : RepL B.K F h.ys sh.ahead := hs.r4
  have fx : F h.a = none := hs.fa
  have fy : F h.b = none := hs.fb
  have hlen : h.xs.length < sizeLine := by rw [rx.length]; exact hl
  refine ⟨.ref h.p, k0, h.p, _, h.dx, _, .ref h.a, rfl, hs.hp, xf.cl, xf.nP, rfl, .inl ⟨rfl, _, SqL.of hx⟩, .ref h.p, k0, h.p, _, h.dx, _, h.v2, rfl, hs.hp, xf.cl, xf.nN, rfl, h.a, h.xs, h.v2, rfl, rfl, hx, hlen, ?_⟩
  have e0 : Ext B.T (del3 B.H0 h) B.F0 H F := r.ext.toDel
  have e1 := e0.mut (o := .lst (h.xs ++ [h.v2])) (free_in (.inr (.inl rfl))) (tabs_mut hx) fx
  generalize hH1 : upd H h.a (.lst (h.xs ++ [h.v2])) = H1 at e1
  have p1 : H1 h.p = some (.ins (hC B.K) h.dx (hfs h.v1 h.v2 h.a h.b)) := by rw [← hH1, upd_ne n_px]; exact hs.hp
  have x1 : H1 h.a = some (.lst (h.xs ++ [h.v2])) := by rw [← hH1]; exact upd_same
  have y1 : H1 h.b = some (.lst h.ys) := by rw [← hH1, upd_ne (Ne.symm n_xy)]; exact hy
  obtain ⟨y, hyl, ryd⟩ := ry.getD hd
  have hyl' : h.ys[h.ys.length - 1]? = some y := by rw [ry.length]; exact hyl
  refine ⟨.ref h.p, k0, h.p, _, h.dx, _, .ref h.b, rfl, p1, xf.cl, xf.nA, rfl, .inl ⟨rfl, _, SqL.of y1⟩, h.b, h.ys, y, rfl, rfl, y1, hyl', .ref h.p, k0, h.p, hC B.K, h.dx, hfs h.v1 h.v2 h.a h.b, rfl, ?_, xf.cl, xf.nN, len_hfs _ _ _ _, ?_⟩
  · rw [upd_ne n_py]; exact p1
  have e2 := e1.mut (o := .lst h.ys.dropLast) (free_in (.inr (.inr rfl))) (tabs_mut y1) fy
  generalize hH2 : upd H1 h.b (.lst h.ys.dropLast) = H2 at e2
  have p2 : H2 h.p = some (.ins (hC B.K) h.dx (hfs h.v1 h.v2 h.a h.b)) := by rw [← hH2, upd_ne n_py]; exact p1
  have x2 : H2 h.a = some (.lst (h.xs ++ [h.v2])) := by rw [← hH2, upd_ne n_xy]; exact x1
  have y2 : H2 h.b = some (.lst h.ys.dropLast) := by rw [← hH2]; exact upd_same
  rw [put_now]
  have e3 := e2.mut (o := .ins (hC B.K) h.dx (hfs h.v1 y h.a h.b)) (free_in (.inl rfl)) (tabs_ins p2) hs.fp
  have x3 : upd H2 h.p (.ins (hC B.K) h.dx (hfs h.v1 y h.a h.b)) h.a = some (.lst (h.xs ++ [h.v2])) := by rw [upd_ne (Ne.symm n_px)]; exact x2
  have y3 : upd H2 h.p (.ins (hC B.K) h.dx (hfs h.v1 y h.a h.b)) h.b = some (.lst h.ys.dropLast) := by rw [upd_ne (Ne.symm n_py)]; exact y2
  have lx : (sh.past ++ [sh.now]).length ≤ sizeLine := by
    rw [List.length_append, List.length_singleton]
    exact hl
  have ly : sh.ahead.dropLast.length ≤ sizeLine := by
    have := hs.l4
    rw [List.length_dropLast]
    omega
  exact q _ _ ⟨h.p, h.dx, h.a, h.b, h.v1, y, h.xs ++ [h.v2], h.ys.dropLast⟩ σ e3 ⟨upd_same, .inl x3, .inl y3, hs.ab, hs.fp, hs.fa, hs.fb, hs.r1, ryd, rx.append (.cons hs.r2 .nil), ry.dropLast, lx, ly⟩ ⟨x3, y3⟩ rfl (free_in (.inr (.inl rfl))) (free_in (.inr (.inr rfl)))
def eRed (sh : HSt) : En → R (HSt × D)
  | [some (.bh _)] => match sh.ahead[sh.ahead.length - 1]? with
    | some d => if sh.past.length < LIM then .ok (stRed sh d, .non) else .bad
    | none => .bad
  | _ => .bad
theorem eRed_ok {sh : HSt} {env : En} : (∃ s1 d, env = [some (.bh s1)] ∧ sh.ahead[sh.ahead.length - 1]? = some d ∧ sh.past.length < LIM ∧ eRed sh env = .ok (stRed sh d, .non)) ∨ eRed sh env = .bad := by
  unfold eRed
  split
  · split
    · split
      · exact .inl ⟨_, _, rfl, by assumption, by assumption, rfl⟩
      · exact .inr rfl
    · exact .inr rfl
  · exact .inr rfl
def mRed (n m : Nat) (fs : List (En → R Out)) : HSt → List D → R (HSt × D) := fun sh ds => if ds.length + 1 = m then (runW fs (startH n sh ds)).bind (eRed sh) else .bad
theorem mt_Red {m qual : Str} {st : Stmt} {N ps : List Str} {fs : List (En → R Out)} (M : MD G m qual st ps) (S : FnScope N ps (defScope st))
    (body : ∀ (f : Addr) (cdv : Value) (A : Around) (outer : List Env) (s : Shared) (H : Hp) (E : XK) (B : Bd), OkX G B k (cxOf (L2N.CX G.P G.w) G.P G.w G.K G.mg G.base N qual (defScope st) f cdv A outer s H E) →
      L2N.Takes (cxOf (L2N.CX G.P G.w) G.P G.w G.K G.mg G.base N qual (defScope st) f cdv A outer s H E) (fun cls d _ H => EB G B cls d H) →
      PSs (cxOf (L2N.CX G.P G.w) G.P G.w G.K G.mg G.base N qual (defScope st) f cdv A outer s H E) (defBody st) (tK B (fs.foldr (seqW B) (wRed B)))) : MtS G (k + 1) m (spM G (mRed N.length ps.length fs)) := by
  refine mt_of M S (fun vs H Q E ⟨h, vs', sh, ds, F, e, hs, rv, sub, nt, tab, q⟩ => ?_) fun f cdv A outer s H vs Q E hr ⟨h, vs', sh, ds, F, e, hs, rv, sub, nt, tab, q⟩ => ?_
  · unfold mRed at q
    by_cases hl : ds.length + 1 = ps.length
    · rw [e, List.length_cons, rv.length]; exact hl
    · rw [if_neg hl] at q; exact q.elim
  · subst e
    obtain ⟨tk, O⟩ := mt_ok (G := G) (H := H) (H0 := H) (F0 := F) (E := E) (p := h.p) (outer := outer) S hr
    have r0 : Rel ⟨G.w, G.K, G.T, H, F, fun c H' => E (G.cm c) none H', h.p⟩ (startH N.length sh ds) (L2.start N (.ref h.p :: vs')) H F := rel_startH rfl rfl rfl hs rv sub nt tab
    refine ⟨_, body f cdv A outer s H E _ O tk, startH N.length sh ds, F, r0, foldW_run fs _ _ _ _ r0 ?_⟩
    unfold mRed at q
    by_cases hl : ds.length + 1 = ps.length
    · rw [if_pos hl] at q
      cases hw : runW fs (startH N.length sh ds) with
      | bad => rw [hw] at q; exact q.elim
      | exc c => rw [hw] at q; exact q
      | ok env =>
        rw [hw] at q
        simp only [R.bind] at q
        intro σ' H' F' r'
        rcases eRed_ok (sh := sh) (env := env) with ⟨s1, d, e, hd, hz, eb⟩ | eb
        · rw [eb] at q
          exact ⟨s1, sh, d, h, e, hs, rfl, q.1, by rw [← LIM_eq]; exact hz, hd, fun H2 F2 h2 σ2 x1 x2 x3 x4 x5 x6 => q.2 .non H2 F2 h2 x1 x2 x3 x4 x5 x6 .non⟩
        · rw [eb] at q; exact q.elim
    · rw [if_neg hl] at q; exact q.elim
end
end Mk
set_option maxHeartbeats 2000000
namespace Mk
open PySem PySem.Spec PyProof.Rows L2 HotX L2H LamX
def ha1 (p : Addr) : HA := ⟨p, 0, p, p, .non, .non, [], []⟩
def spI (G : Gx) (i0 : List D → R HSt) : Sp := fun vs H Q E => ∃ (p dx : Addr) (vs' : List V) (ds : List D) (F : Hp), vs = .ref p :: vs' ∧ H p = some (.ins (hC G.K) dx []) ∧ F p = none ∧ RepL G.K F vs' ds ∧ Same F H ∧ (∀ b ps, F b ≠ some (.tbl ps)) ∧ Tabs G.T H ∧
  match i0 ds with
  | .ok st => ∀ (H' F' : Hp) (h' : HA), Ext G.T (del3 H (ha1 p)) F H' F' → HsA G.K H' F' h' st → Pl H' h' → h'.p = p → Free (del3 H (ha1 p)) h'.a → Free (del3 H (ha1 p)) h'.b → Q .non H'
  | .exc c => ∀ H', ExtH G.T H H' → E (G.cm c) none H'
  | .bad => False
def rawIni (K : PySem.W.Frag) (B : Bd) (f : En → R D) : TS := tSeq (sFld K (vr 0) (vr 2) "drafts") (tSeq (sFld K (vr 0) (tE B f) "now") (tSeq (sFld K (vr 0) (tLst tNil) "past") (sFld K (vr 0) (tLst tNil) "ahead")))
def rb2 (B : Bd) (p : Addr) : Bd := { B with H0 := del3 B.H0 (ha1 p) }
def iniW (B : Bd) (p : Addr) (f : En → R D) : En → Ends → L2.St → Hp → Hp → Prop := fun env Z σ H F => ∃ dx dSh dDr dNow, env = [some (.fro (.obj p)), some (.fro dSh), some (.fro dDr)] ∧ B.H0 p = some (.ins (hC B.K) dx []) ∧ B.F0 p = none ∧ f env = .ok dNow ∧
  ∀ (H' F' : Hp) (h' : HA) (σ' : L2.St), Ext B.T (del3 B.H0 (ha1 p)) B.F0 H' F' → HsA B.K H' F' h' ⟨dDr, dNow, [], []⟩ → Pl H' h' → h'.p = p → Free (del3 B.H0 (ha1 p)) h'.a → Free (del3 B.H0 (ha1 p)) h'.b → Z.nx σ' H'
section
variable {G : Gx} {B : Bd} {k : Nat} {X : Cx}
abbrev fl1 (v : V) : List (Str × V) := [("drafts", v)]
abbrev fl2 (v w : V) : List (Str × V) := [("drafts", v), ("now", w)]
abbrev fl3 (v w : V) (a : Addr) : List (Str × V) := [("drafts", v), ("now", w), ("past", .ref a)]
theorem put_i1 (v : V) : putF "drafts" v [] = fl1 v := rfl
theorem put_i2 (v w : V) : putF "now" w (fl1 v) = fl2 v w := rfl
theorem put_i3 (v w : V) (a : Addr) : putF "past" (.ref a) (fl2 v w) = fl3 v w a := rfl
theorem put_i4 (v w : V) (a b : Addr) : putF "ahead" (.ref b) (fl3 v w a) = hfs v w a b := rfl
theorem free_p {H : Hp} {p : Addr} : Free (del3 H (ha1 p)) p := free_in (.inl rfl)
theorem s_ini {sts : List Stmt} {p : Addr} {f : En → R D} (xf : XF X B) (nD : NoAttr X.K (hC B.K) "drafts") (hr : PSs X sts (rawIni X.K (rb2 B p) f)) : PSs X sts (tK B (iniW B p f)) := PSs.imp hr fun Z σ H ⟨env, F, r, dx, dSh, dDr, dNow, e, hp0, fp0, hf, q⟩ => by
  subst e
  obtain ⟨v0, k0, r0⟩ := r.slot 0 _ rfl
  have r0' : Rep B.K F v0 (.obj p) := r0
  have e0 : v0 = .ref p := by cases r0'; rfl
  subst e0
  obtain ⟨vS, kS, rS⟩ := r.slot 1 _ rfl
  obtain ⟨vD, kD, rD⟩ := r.slot 2 _ rfl
  have rS' : Rep B.K F vS dSh := rS
  have rD' : Rep B.K F vD dDr := rD
  obtain ⟨p0, fp⟩ := r.ext.keepN hp0 (fun ps z => by cases z) fp0
  refine ⟨vD, kD, .ref p, k0, p, hC B.K, dx, [], rfl, p0, xf.cl, nD, by decide, ?_⟩
  rw [put_i1]
  have e0 : Ext B.T (del3 B.H0 (ha1 p)) B.F0 H F := r.ext.toDel
  have e1 := e0.mut (o := .ins (hC B.K) dx (fl1 vD)) free_p (tabs_ins p0) fp
  have t1 : Tabs B.T (upd H p (.ins (hC B.K) dx (fl1 vD))) := tabs_ins p0 r.tab
  generalize hH1 : upd H p (.ins (hC B.K) dx (fl1 vD)) = H1 at e1 t1
  have p1 : H1 p = some (.ins (hC B.K) dx (fl1 vD)) := by rw [← hH1]; exact upd_same
  have rel1 : Rel (rb2 B p) [some (.fro (.obj p)), some (.fro dSh), some (.fro dDr)] σ H1 F := by
    refine ⟨e1, t1, r.len, fun i s hi => ?_, fun i j s s' hne h1 h2 o1 o2 => ?_⟩
    · match i, hi with
      | 0, hi => cases hi; exact ⟨_, k0, r0'⟩
      | 1, hi => cases hi; exact ⟨_, kS, rS'⟩
      | 2, hi => cases hi; exact ⟨_, kD, rD'⟩
      | (n + 3), hi => simp at hi
    · match i, h1 with
      | 0, hi => cases hi; cases o1
      | 1, hi => cases hi; cases o1
      | 2, hi => cases hi; cases o1
      | (n + 3), hi => simp at hi
  refine ⟨_, F, rel1, ?_⟩
  rw [hf]
  intro vN H2 F2 x2 rN
  have x2' : Ext B.T H1 F H2 F2 := x2
  obtain ⟨p2, fp2⟩ := x2'.keepN p1 (fun ps z => by cases z) fp
  have e2 := e1.trans x2'
  refine ⟨.ref p, k0, p, hC B.K, dx, (fl1 vD), rfl, p2, xf.cl, xf.nN, by show 1 < 1000; decide, ?_⟩
  rw [put_i2]
  have e3 := e2.mut (o := .ins (hC B.K) dx (fl2 vD vN)) free_p (tabs_ins p2) fp2
  generalize hH3 : upd H2 p (.ins (hC B.K) dx (fl2 vD vN)) = H3 at e3
  have p3 : H3 p = some (.ins (hC B.K) dx (fl2 vD vN)) := by rw [← hH3]; exact upd_same
  refine ⟨Nat.zero_le _, fun a ha => ⟨.ref p, k0, p, hC B.K, dx, (fl2 vD vN), rfl, ?_, xf.cl, xf.nP, by show 2 < 1000; decide, ?_⟩⟩
  · rw [upd_ne (ne_of_none p3 ha)]; exact p3
  have fa2 : F2 a = none := by
    cases z : F2 a with
    | none => rfl
    | some o => rw [e3.sub _ _ z] at ha; cases ha
  have e4 := e3.trans (Ext.own (T := B.T) (o := .lst []) e3.sub e3.nt ha)
  have free_a : Free (del3 B.H0 (ha1 p)) a := Free.back e3.same (.inl ha)
  have n_pa : p ≠ a := ne_of_none p3 ha
  generalize hH4 : upd H3 a (.lst []) = H4 at e4
  have p4 : H4 p = some (.ins (hC B.K) dx (fl2 vD vN)) := by rw [← hH4, upd_ne n_pa]; exact p3
  have a4 : H4 a = some (.lst []) := by rw [← hH4]; exact upd_same
  rw [put_i3]
  have e5 := e4.mut (o := .ins (hC B.K) dx (fl3 vD vN a)) free_p (tabs_ins p4) fp2
  generalize hH5 : upd H4 p (.ins (hC B.K) dx (fl3 vD vN a)) = H5 at e5
  have p5 : H5 p = some (.ins (hC B.K) dx (fl3 vD vN a)) := by rw [← hH5]; exact upd_same
  have a5 : H5 a = some (.lst []) := by rw [← hH5, upd_ne (Ne.symm n_pa)]; exact a4
  refine ⟨Nat.zero_le _, fun b hb => ⟨.ref p, k0, p, hC B.K, dx, (fl3 vD vN a), rfl, ?_, xf.cl, xf.nA, by show 3 < 1000; decide, ?_⟩⟩
  · rw [upd_ne (ne_of_none p5 hb)]; exact p5
  have fb2 : F2 b = none := by
    cases z : F2 b with
    | none => rfl
    | some o => rw [e5.sub _ _ z] at hb; cases hb
  have e6 := e5.trans (Ext.own (T := B.T) (o := .lst []) e5.sub e5.nt hb)
  have free_b : Free (del3 B.H0 (ha1 p)) b := Free.back e5.same (.inl hb)
  have n_pb : p ≠ b := ne_of_none p5 hb
  have n_ab : a ≠ b := ne_of_none a5 hb
  generalize hH6 : upd H5 b (.lst []) = H6 at e6
  have p6 : H6 p = some (.ins (hC B.K) dx (fl3 vD vN a)) := by rw [← hH6, upd_ne n_pb]; exact p5
  have a6 : H6 a = some (.lst []) := by rw [← hH6, upd_ne n_ab]; exact a5
  have b6 : H6 b = some (.lst []) := by rw [← hH6]; exact upd_same
  rw [put_i4]
  have e7 := e6.mut (o := .ins (hC B.K) dx (hfs vD vN a b)) free_p (tabs_ins p6) fp2
  have a7 : upd H6 p (.ins (hC B.K) dx (hfs vD vN a b)) a = some (.lst []) := by rw [upd_ne (Ne.symm n_pa)]; exact a6
  have b7 : upd H6 p (.ins (hC B.K) dx (hfs vD vN a b)) b = some (.lst []) := by rw [upd_ne (Ne.symm n_pb)]; exact b6
  exact q _ _ ⟨p, dx, a, b, vD, vN, [], []⟩ σ e7 ⟨upd_same, .inl a7, .inl b7, n_ab, fp2, fa2, fb2, rD'.mono x2'.fsame, rN, .nil, .nil, Nat.zero_le _, Nat.zero_le _⟩ ⟨a7, b7⟩ rfl free_a free_b
def iniM (need cop : List D → R D) : List D → R HSt
  | [dSh, dDr] => (need [dSh]).bind fun _ => match cop [dSh] with
    | .ok c => .ok ⟨dDr, .tup [c, .lst [], .dic []], [], []⟩
    | _ => .bad
  | _ => .bad
def MDI (G : Gx) (qual : Str) (st : Stmt) (ps : List Str) : Prop := ∃ (fd : FuncData), Fun G.K "__init__" qual st (He.ma G.K (hC G.K) "__init__") fd ∧ L2.Binds G.K fd ps []
def MtI (G : Gx) (k : Nat) (i0 : List D → R HSt) : Prop := ∃ (fd : FuncData) (ps : List Str), L2.Binds G.K fd ps [] ∧ FnOk G.P G.w G.K G.mg G.base (L2N.CX G.P G.w) k (He.ma G.K (hC G.K) "__init__") fd ps (spI G i0)
theorem mt_I {qual : Str} {st : Stmt} {N ps : List Str} {need cop : List D → R D} (M : MDI G qual st ps) (S : FnScope N ps (defScope st)) (hN : N.length = 3) (hps : ps.length = 3)
    (body : ∀ (cdv : Value) (A : Around) (outer : List Env) (s : Shared) (H : Hp) (E : XK) (B : Bd) (p : Addr), OkX G B k (cxOf (L2N.CX G.P G.w) G.P G.w G.K G.mg G.base N qual (defScope st) (He.ma G.K (hC G.K) "__init__") cdv A outer s H E) →
      OkX G (rb2 B p) k (cxOf (L2N.CX G.P G.w) G.P G.w G.K G.mg G.base N qual (defScope st) (He.ma G.K (hC G.K) "__init__") cdv A outer s H E) →
      PSs (cxOf (L2N.CX G.P G.w) G.P G.w G.K G.mg G.base N qual (defScope st) (He.ma G.K (hC G.K) "__init__") cdv A outer s H E) (defBody st)
        (tK B (seqW B (sDrop (opL (aCons (eVar 1) aNil) need)) (iniW B p (opL (aCons (opL (aCons (eVar 1) aNil) cop) (aCons (fzL (frL aNil lstL)) (aCons (eC (.dic [])) aNil))) tupD))))) : MtI G (k + 1) (iniM need cop) := by
  obtain ⟨fd, h2, h3⟩ := M
  obtain ⟨oc, od, kV, doc, pm, an, cdv, ct, osl, efd, lk, hcd⟩ := h2.ex
  subst efd
  refine ⟨_, ps, h3, fn_of lk hcd S (fun vs H Q E ⟨p, dx, vs', ds, F, e, hp, fp, rv, sub, nt, tab, q⟩ => ?_) fun A outer s H vs Q E hr ⟨p, dx, vs', ds, F, e, hp, fp, rv, sub, nt, tab, q⟩ => ?_⟩
  · rw [e, List.length_cons, rv.length, hps]
    unfold iniM at q
    split at q
    · rename_i heq
      split at heq
      · rfl
      · cases heq
    · rename_i heq
      split at heq
      · rfl
      · cases heq
    · exact q.elim
  · subst e
    obtain ⟨tk, O⟩ := mt_ok (G := G) (H := H) (H0 := H) (F0 := F) (E := E) (p := 0) (outer := outer) S hr
    obtain ⟨tk2, O2⟩ := mt_ok (G := G) (H := H) (H0 := del3 H (ha1 p)) (F0 := F) (E := E) (p := 0) (outer := outer) S hr
    match ds, rv, q with
    | [dSh, dDr], rv, q =>
      have r0 : Rel ⟨G.w, G.K, G.T, H, F, fun c H' => E (G.cm c) none H', 0⟩ (startE N.length [.obj p, dSh, dDr]) (L2.start N (.ref p :: vs')) H F := rel_start rfl rfl (.cons (.obj p) rv) sub nt tab
      have es : startE N.length [.obj p, dSh, dDr] = [some (.fro (.obj p)), some (.fro dSh), some (.fro dDr)] := by
        unfold startE
        rw [hN]
        rfl
      rw [es] at r0
      refine ⟨_, body cdv A outer s H E _ p O O2, _, F, r0, ?_⟩
      have ev : sDrop (opL (aCons (eVar 1) aNil) need) [some (.fro (.obj p)), some (.fro dSh), some (.fro dDr)] = (need [dSh]).bind fun _ => .ok (.nx [some (.fro (.obj p)), some (.fro dSh), some (.fro dDr)]) := rfl
      unfold seqW
      rw [ev]
      simp only [iniM] at q
      cases hn : need [dSh] with
      | bad => rw [hn] at q; exact q.elim
      | exc c => rw [hn] at q; exact q
      | ok d0 =>
        rw [hn] at q
        simp only [R.bind] at q ⊢
        cases hc : cop [dSh] with
        | bad => rw [hc] at q; exact q.elim
        | exc c => rw [hc] at q; exact q.elim
        | ok c =>
          rw [hc] at q
          intro σ' H' F' r' _
          have l3 : (3 : Nat) ≤ LIM := by decide
          have l0 : (0 : Nat) ≤ LIM := by decide
          refine ⟨dx, dSh, dDr, .tup [c, .lst [], .dic []], rfl, hp, fp, ?_, fun H2 F2 h2 σ2 x1 x2 x3 x4 x5 x6 => q H2 F2 h2 x1 x2 x3 x4 x5 x6⟩
          simp only [opL, aCons, aNil, eVar, eC, fzL, frL, lstL, List.getElem?_cons_zero, List.getElem?_cons_succ, R.bind, R.map, hc, tupD, List.length_nil, List.length_cons, l0, if_true, Nat.reduceAdd, Nat.zero_add, l3]
    | [], _, q => exact q.elim
    | [_], _, q => exact q.elim
    | _ :: _ :: _ :: _, _, q => exact q.elim
theorem extN_made {H1 : Hp} {x dx C : Addr} (hx : H1 x = none) (hd : H1 dx = none) : ∀ b o, H1 b = some o → upd (upd H1 dx (.own x)) x (.ins C dx []) b = some o := fun b o h => by
  rw [upd_ne (ne_of_none h hx), upd_ne (ne_of_none h hd)]
  exact h
theorem pe_mk [Calm G] {e : Expr} {es : List Expr} {t : TA} {p pos : Pos} {i0 : List D → R HSt} {j : Nat} (O : OkX G B k X) (hF : HsF G) (M : MtI G j i0) (hj : j + 1 ≤ k) (ha : PA X (e :: es) t) (hg : Gl X "House" := by rfl) (hst : starEach (e :: es) X.env = (false, eval e X.env) :: starEach es X.env := by rfl) (hpl : (backTo pos (starEach es X.env)).any (·.1) = false := by rfl) :
    PE X (.Call (.Name "House" p) (e :: es) [] pos) (tMake (hC G.K) (spI G i0) [] (EB G B) t) := by
  obtain ⟨fd, ps, h2, h3⟩ := M
  have h3' : FnOk X.prog X.w X.K X.mg X.base (L2N.CX X.prog X.w) j (He.ma G.K (hC G.K) "__init__") fd ps (spI G i0) := by
    rw [O.prog, O.w, O.GK, O.mg, O.base]
    exact h3
  exact pe_make (by rw [O.GK]; exact hF.mkr) h3' (O.roomX.mono hj) hg (by rw [O.mg]; exact hF.gC) (by rw [O.GK]; exact h2) .nil O.pass ha (by decide) hst hpl
def eMkX (args : En → R (List D)) (i0 : List D → R HSt) : En → R D := fun env => (args env).bind fun ds => match i0 ds with
  | .exc c => .exc c
  | _ => .bad
/-- what spI asks, at a new instance -/
theorem made_ok {i0 : List D → R HSt} {env : En} {σ : L2.St} {H1 F1 : Hp} {vs : List V} {ds : List D} {x dx : Addr} {Q : VK} {E : XK} (O : OkX G B k X) (r1 : Rel B env σ H1 F1) (rv : RepL B.K F1 vs ds) (hx : H1 x = none) (hdx : H1 dx = none)
    (q : match i0 ds with
      | .ok st => ∀ (H' F' : Hp) (h' : HA), Ext B.T H1 F1 H' F' → HsA B.K H' F' h' st → Pl H' h' → h'.p = x → Free H1 h'.p → Free H1 h'.a → Free H1 h'.b → Q .non H'
      | .exc c => ∀ H', ExtH B.T H1 H' → E (G.cm c) none H'
      | .bad => False) : spI G i0 (.ref x :: (vs ++ [])) (upd (upd H1 dx (.own x)) x (.ins (hC G.K) dx [])) Q E := by
  have fx : F1 x = none := by
    cases z : F1 x with
    | none => rfl
    | some o => rw [r1.ext.sub _ _ z] at hx; cases hx
  have ex := extN_made (C := hC G.K) hx hdx
  rw [List.append_nil]
  refine ⟨x, dx, vs, ds, F1, rfl, upd_same, fx, by rw [← O.eK]; exact rv, fun b o h => ex b o (r1.ext.sub b o h), r1.ext.nt, by rw [← O.T]; exact r1.tab.ext ex, ?_⟩
  have hN : LamX.ExtN H1 (del3 (upd (upd H1 dx (.own x)) x (.ins (hC G.K) dx [])) (ha1 x)) := fun b o h _ => by
    have nb := ne_of_none h hx
    rw [del3_ne nb nb nb]
    exact ex b o h
  have hT : ∀ t : Tabs B.T H1, Tabs B.T (del3 (upd (upd H1 dx (.own x)) x (.ins (hC G.K) dx [])) (ha1 x)) := fun t => t.ext fun b o h => by
    have nb := ne_of_none h hx
    rw [del3_ne nb nb nb]
    exact ex b o h
  have fr : ∀ c, Free (del3 (upd (upd H1 dx (.own x)) x (.ins (hC G.K) dx [])) (ha1 x)) c → Free H1 c := fun c f => Free.back hN f
  cases hi : i0 ds with
  | bad => rw [hi] at q; exact q.elim
  | exc c =>
    rw [hi] at q
    exact fun H' h => q H' ⟨fun b o hb ht => h.same b o (ex b o hb) ht, fun t => by
      rw [O.T] at t ⊢
      exact h.tabs (t.ext ex)⟩
  | ok st =>
    rw [hi] at q
    intro H' F' h' e2 hs pl ep fa fb
    refine q H' F' h' ⟨fun b o hb ht => e2.same b o (hN b o hb ht) ht, fun t => by
      have := e2.tabs (by rw [← O.T]; exact hT t)
      rw [O.T]
      exact this, e2.fsame, e2.sub, e2.nt, fun b o hb => by
      rcases e2.new b o hb with z | z
      · exact .inl z
      · exact .inr (fr b z)⟩ (by rw [O.eK]; exact hs) pl ep (by rw [ep]; exact .inl hx) (fr _ fa) (fr _ fb)
theorem e_mkX {e : Expr} {args : En → R (List D)} {i0 : List D → R HSt} {t : TA} (O : OkX G B k X) (hc : PE X e (tMake (hC G.K) (spI G i0) [] (EB G B) t)) (ht : ∀ σ H Q, tL B args σ H Q → t σ H Q) : PE X e (tE B (eMkX args i0)) := PE.imp hc fun σ H Q ⟨env, F, r, q⟩ => ht _ _ _ ⟨env, F, r, by
  rcases q.bind with ⟨ds, ea, q⟩ | ⟨c, ea, q⟩
  · rw [ea]
    intro vs H1 F1 e1 rv x dx hx hdx _
    refine made_ok O (r.mono e1) rv hx hdx ?_
    cases hi : i0 ds with
    | ok st => rw [hi] at q; exact q.elim
    | bad => rw [hi] at q; exact q.elim
    | exc c =>
      rw [hi] at q
      exact fun H' h => ⟨c, rfl, rfl, q H' ((r.mono e1).ext.h.trans h)⟩
  · rw [ea]; exact q⟩
end
end Mk
set_option maxHeartbeats 2000000
namespace Mk
open PySem PySem.Spec PyProof.Rows L2 HotX L2H LamX
def lk2 (H : Hp) (h : HA) (oa ob : Obj) : Hp := upd (upd H h.a (.frz oa (.lst h.xs))) h.b (.frz ob (.lst h.ys))
def ul2 (H : Hp) (h : HA) : Hp := upd (upd H h.a (.lst h.xs)) h.b (.lst h.ys)
theorem tabs_frz {T : List (Addr × Str)} {H : Hp} {a : Addr} {b : Obj} {xs : List V} {o : HO} (h : H a = some (.frz b (.lst xs))) (t : Tabs T H) : Tabs T (upd H a o) := by
  refine tabs_by (fun x ps e => ?_) (fun x q e => ?_) t
  · have n : x ≠ a := fun z => by rw [z, h] at e; cases e
    rw [upd_ne n]; exact e
  · have n : x ≠ a := fun z => by
      rw [z, h] at e
      unfold CodeO at e
      cases e
    rw [upd_ne n]; exact e
section
variable {K : PySem.W.Frag} {H F : Hp} {h : HA} {st : HSt}
theorem HsAt.pa (s : HsA K H F h st) : h.p ≠ h.a ∧ h.p ≠ h.b := by
  have q := s.hp
  refine ⟨fun z => ?_, fun z => ?_⟩
  · rcases s.ha with k | ⟨_, k⟩ <;> rw [← z, q] at k <;> cases k
  · rcases s.hb with k | ⟨_, k⟩ <;> rw [← z, q] at k <;> cases k
theorem lk2_a {oa ob : Obj} (n : h.a ≠ h.b) : lk2 H h oa ob h.a = some (.frz oa (.lst h.xs)) := by
  unfold lk2
  rw [upd_ne n, upd_same]
theorem lk2_b {oa ob : Obj} : lk2 H h oa ob h.b = some (.frz ob (.lst h.ys)) := upd_same
theorem ul2_a (n : h.a ≠ h.b) : ul2 H h h.a = some (.lst h.xs) := by
  unfold ul2
  rw [upd_ne n, upd_same]
theorem ul2_b : ul2 H h h.b = some (.lst h.ys) := upd_same
theorem HsAt.lk (s : HsA K H F h st) (oa ob : Obj) : HsA K (lk2 H h oa ob) F h st := by
  obtain ⟨n1, n2⟩ := s.pa
  exact ⟨by unfold lk2; rw [upd_ne n2, upd_ne n1]; exact s.hp, .inr ⟨_, lk2_a s.ab⟩, .inr ⟨_, lk2_b⟩, s.ab, s.fp, s.fa, s.fb, s.r1, s.r2, s.r3, s.r4, s.l3, s.l4⟩
theorem HsAt.ul (s : HsA K H F h st) : HsA K (ul2 H h) F h st := by
  obtain ⟨n1, n2⟩ := s.pa
  exact ⟨by unfold ul2; rw [upd_ne n2, upd_ne n1]; exact s.hp, .inl (ul2_a s.ab), .inl ul2_b, s.ab, s.fp, s.fa, s.fb, s.r1, s.r2, s.r3, s.r4, s.l3, s.l4⟩
theorem Ext.lk {T : List (Addr × Str)} {H0 F0 : Hp} (e : Ext T H0 F0 H F) (s : HsA K H F h st) (pl : Pl H h) (fa : Free H0 h.a) (fb : Free H0 h.b) (oa ob : Obj) : Ext T H0 F0 (lk2 H h oa ob) F := by
  have e1 := e.mut (o := .frz oa (.lst h.xs)) fa (tabs_mut pl.1) s.fa
  have k : upd H h.a (.frz oa (.lst h.xs)) h.b = some (.lst h.ys) := by rw [upd_ne (Ne.symm s.ab)]; exact pl.2
  exact e1.mut (o := .frz ob (.lst h.ys)) fb (tabs_mut k) s.fb
theorem Ext.ul {T : List (Addr × Str)} {H0 F0 : Hp} {oa ob : Obj} (e : Ext T H0 F0 H F) (s : HsA K H F h st) (la : H h.a = some (.frz oa (.lst h.xs))) (lb : H h.b = some (.frz ob (.lst h.ys))) (fa : Free H0 h.a) (fb : Free H0 h.b) : Ext T H0 F0 (ul2 H h) F := by
  have e1 := e.mut (o := .lst h.xs) fa (tabs_frz la) s.fa
  have k : upd H h.a (.lst h.xs) h.b = some (.frz ob (.lst h.ys)) := by rw [upd_ne (Ne.symm s.ab)]; exact lb
  exact e1.mut (o := .lst h.ys) fb (tabs_frz k) s.fb
theorem tabs_lk {T : List (Addr × Str)} (s : HsA K H F h st) (pl : Pl H h) (oa ob : Obj) (t : Tabs T H) : Tabs T (lk2 H h oa ob) := by
  have k : upd H h.a (.frz oa (.lst h.xs)) h.b = some (.lst h.ys) := by rw [upd_ne (Ne.symm s.ab)]; exact pl.2
  exact tabs_mut k (tabs_mut pl.1 t)
theorem tabs_ul {T : List (Addr × Str)} {oa ob : Obj} (s : HsA K H F h st) (la : H h.a = some (.frz oa (.lst h.xs))) (lb : H h.b = some (.frz ob (.lst h.ys))) (t : Tabs T H) : Tabs T (ul2 H h) := by
  have k : upd H h.a (.lst h.xs) h.b = some (.frz ob (.lst h.ys)) := by rw [upd_ne (Ne.symm s.ab)]; exact lb
  exact tabs_frz k (tabs_frz la t)
end
section
variable {G : Gx} {B : Bd} {k : Nat} {X : Cx} {pos : Pos}
theorem inv_lk {pins : List (Addr × Obj)} {σ : L2.St} {H : Hp} {s : Shared} {h : HA} (I : Inv X pins σ H s) (pl : Pl H h) (n : h.a ≠ h.b) : ∃ oa ob, Inv X pins σ (lk2 H h oa ob) s := by
  obtain ⟨oa, I1⟩ := I.lock pl.1 trivial
  obtain ⟨ob, I2⟩ := I1.lock (d := h.b) (u := .lst h.ys) (by rw [upd_ne (Ne.symm n)]; exact pl.2) trivial
  exact ⟨oa, ob, I2⟩
/-- only what never changes, and one house -/
theorem rel_one {env : En} {σ : L2.St} {H F : Hp} {i : Nat} {h : HA} {st : HSt} {oa ob : Obj} (e : Ext B.T B.H0 B.F0 H F) (t : Tabs B.T H) (hl : env.length = σ.length) (fro : ∀ (j : Nat) (d : D), env[j]? = some (some (.fro d)) → ∃ v, σ[j]? = some (some v) ∧ Rep B.K F v d)
    (k1 : σ[i]? = some (some (.ref h.p))) (hs : HsA B.K H F h st) (la : H h.a = some (.frz oa (.lst h.xs))) (lb : H h.b = some (.frz ob (.lst h.ys))) (fp : Free B.H0 h.p) (fa : Free B.H0 h.a) (fb : Free B.H0 h.b) : Rel B ((dropOwn env).set i (some (.ob st))) σ H F := by
  have ld : (dropOwn env).length = env.length := by unfold dropOwn; rw [List.length_map]
  have hi : i < (dropOwn env).length := by rw [ld, hl]; exact (List.getElem?_eq_some_iff.mp k1).1
  refine ⟨e, t, by rw [List.length_set, ld, hl], fun j s hj => ?_, fun j m s s' hne h1 h2 o1 o2 => ?_⟩
  · by_cases z : i = j
    · subst z
      rw [List.getElem?_set_self hi] at hj
      have : SV.ob st = s := Option.some.inj (Option.some.inj hj)
      subst this
      exact ⟨_, k1, h.p, h.dx, h.v1, h.v2, h.a, h.b, h.xs, h.ys, rfl, hs, ⟨⟨oa, la⟩, ob, lb⟩, fp, fa, fb⟩
    · rw [List.getElem?_set_ne z] at hj
      obtain ⟨d, rfl, hd⟩ := dropOwn_at hj
      exact fro j d hd
  · have key : ∀ (j : Nat) (s : SV), ((dropOwn env).set i (some (.ob st)))[j]? = some (some s) → s.isOwn = true → i = j := fun j s q o => by
      by_cases z : i = j
      · exact z
      · rw [List.getElem?_set_ne z] at q
        obtain ⟨d, rfl, _⟩ := dropOwn_at q
        cases o
    exact absurd ((key j s h1 o1).symm.trans (key m s' h2 o2)) hne
theorem rel_none {env : En} {σ : L2.St} {H F : Hp} (e : Ext B.T B.H0 B.F0 H F) (t : Tabs B.T H) (hl : env.length = σ.length) (fro : ∀ (j : Nat) (d : D), env[j]? = some (some (.fro d)) → ∃ v, σ[j]? = some (some v) ∧ Rep B.K F v d) : Rel B (dropOwn env) σ H F := by
  have ld : (dropOwn env).length = env.length := by unfold dropOwn; rw [List.length_map]
  refine ⟨e, t, by rw [ld, hl], fun j s hj => ?_, fun j m s s' hne h1 h2 o1 o2 => ?_⟩
  · obtain ⟨d, rfl, hd⟩ := dropOwn_at hj
    exact fro j d hd
  · obtain ⟨d, rfl, _⟩ := dropOwn_at h1
    cases o1
def eME (i : Nat) (args : En → R (List D)) (mm : HSt → List D → R (HSt × D)) : En → R (En × D) := fun env => match env[i]? with
  | some (some (.ob st)) => (args (dropOwn env)).bind fun ds => match mm st ds with
    | .ok (st', d) => .ok ((dropOwn env).set i (some (.ob st')), d)
    | _ => .bad
  | _ => .bad
def NoLk (B : Bd) (X : Cx) : Prop := ∀ a, Free B.H0 a → ∀ o u, X.H_0 a ≠ some (.frz o u)
theorem ob_at {env : En} {σ : L2.St} {H F : Hp} {i : Nat} {st : HSt} (r : Rel B env σ H F) (he : env[i]? = some (some (.ob st))) : ∃ (h : HA) (oa ob : Obj), σ[i]? = some (some (.ref h.p)) ∧ HsA B.K H F h st ∧ H h.a = some (.frz oa (.lst h.xs)) ∧ H h.b = some (.frz ob (.lst h.ys)) ∧ Free B.H0 h.p ∧ Free B.H0 h.a ∧ Free B.H0 h.b := by
  obtain ⟨v, k1, p, dx, v1, v2, a, b, xs, ys, rfl, hs, ⟨⟨oa, la⟩, ob, lb⟩, fp, fa, fb⟩ := r.slot i _ he
  exact ⟨⟨p, dx, a, b, v1, v2, xs, ys⟩, oa, ob, k1, hs, la, lb, fp, fa, fb⟩
theorem inv_ul {pins : List (Addr × Obj)} {σ : L2.St} {H F : Hp} {s : Shared} {h : HA} {st : HSt} {oa ob : Obj} (h0 : NoLk B X) (I : Inv X pins σ H s) (hs : HsA B.K H F h st) (la : H h.a = some (.frz oa (.lst h.xs))) (lb : H h.b = some (.frz ob (.lst h.ys))) (fa : Free B.H0 h.a) (fb : Free B.H0 h.b) : Inv X pins σ (ul2 H h) s := by
  have I1 := I.unlock la (h0 _ fa)
  exact I1.unlock (d := h.b) (od := ob) (u := .lst h.ys) (by rw [upd_ne (Ne.symm hs.ab)]; exact lb) (h0 _ fb)
theorem fro_of {env : En} {σ : L2.St} {H F F' : Hp} (r : Rel B env σ H F) (sm : Same F F') : ∀ (j : Nat) (d : D), env[j]? = some (some (.fro d)) → ∃ v, σ[j]? = some (some v) ∧ Rep B.K F' v d := fun j d hj => by
  obtain ⟨v, k1, rv⟩ := r.slot j _ hj
  have rv' : Rep B.K F v d := rv
  exact ⟨v, k1, rv'.mono sm⟩
theorem e_mE {ce : Expr} {i : Nat} {m : Str} {args : En → R (List D)} {mm : HSt → List D → R (HSt × D)} {t : TA} (O : OkX G B k X) (h0 : NoLk B X) (hc : PE X ce (tMeth (hC G.K) m (spM G mm) [] (EB G B) (fun σ H Q => ∃ v, σ[i]? = some (some v) ∧ Q v H) t))
    (ht : ∀ σ H Q, tL B args σ H Q → t σ H Q) (hm : ∀ v1 v2 a b, (hfs v1 v2 a b).lookup m = none) : PE X ce (tEe B (eME i args mm)) := ⟨fun pins s σ H Q I ⟨env, F, r, q⟩ => by
  unfold eME at q
  cases he : env[i]? with
  | none => rw [he] at q; exact q.elim
  | some o =>
    cases o with
    | none => rw [he] at q; exact q.elim
    | some sv =>
      cases sv with
      | fro d => rw [he] at q; exact q.elim
      | ol d => rw [he] at q; exact q.elim
      | od d => rw [he] at q; exact q.elim
      | oq d => rw [he] at q; exact q.elim
      | bh d => rw [he] at q; exact q.elim
      | ob st =>
        rw [he] at q
        simp only at q
        obtain ⟨h, oa, ob, k1, hs, la, lb, fp, fa, fb⟩ := ob_at r he
        have I1 := inv_ul h0 I hs la lb fa fb
        have eu := r.ext.ul hs la lb fa fb
        have tu := tabs_ul hs la lb r.tab
        have ru : Rel B (dropOwn env) σ (ul2 H h) F := rel_none eu tu r.len (fro_of r (Same.refl F))
        have hsu := hs.ul
        cases ha : args (dropOwn env) with
        | bad => rw [ha] at q; exact q.elim
        | exc c =>
          rw [ha] at q
          refine thn (hc.run pins s σ (ul2 H h) (fun _ _ => False) I1 ?_) fun u s1 ⟨x, H1, I3, rx, z⟩ => z.elim
          exact ⟨.ref h.p, k1, h.p, h.dx, _, rfl, by rw [← O.eK]; exact hsu.hp, hm _ _ _ _, ht _ _ _ ⟨dropOwn env, F, ru, by rw [ha]; exact q⟩⟩
        | ok ds =>
          rw [ha] at q
          simp only [R.bind] at q
          cases hmm : mm st ds with
          | bad => rw [hmm] at q; exact q.elim
          | exc c => rw [hmm] at q; exact q.elim
          | ok pr =>
            obtain ⟨st', d⟩ := pr
            rw [hmm] at q
            refine thn (hc.run pins s σ (ul2 H h) (fun v H' => ∃ (F' : Hp) (h' : HA), Ext B.T B.H0 B.F0 H' F' ∧ Tabs B.T H' ∧ Same F F' ∧ HsA B.K H' F' h' st' ∧ Pl H' h' ∧ h'.p = h.p ∧ Free B.H0 h'.a ∧ Free B.H0 h'.b ∧ Rep B.K F' v d) I1 ?_) fun u s1 ⟨x, H1, I3, rx, F', h', e', t', sm, hs', pl', ep, fa', fb', rv⟩ => ?_
            · refine ⟨.ref h.p, k1, h.p, h.dx, _, rfl, by rw [← O.eK]; exact hsu.hp, hm _ _ _ _, ht _ _ _ ⟨dropOwn env, F, ru, ?_⟩⟩
              rw [ha]
              intro vs H2 F2 e2 rv
              have r2 := ru.mono e2
              have hs2 := hsu.mono e2
              rw [List.append_nil]
              refine ⟨h, vs, st, ds, F2, rfl, by rw [← O.eK]; exact hs2, by rw [← O.eK]; exact rv, r2.ext.sub, r2.ext.nt, by rw [← O.T]; exact r2.tab, ?_⟩
              rw [hmm]
              refine ⟨⟨e2.same _ _ (ul2_a hs.ab) (fun ps z => by cases z), e2.same _ _ ul2_b (fun ps z => by cases z)⟩, fun v H' F' h' x1 x2 x3 x4 x5 x6 x7 => ?_⟩
              have x1' : Ext B.T (del3 H2 h) F2 H' F' := by rw [O.T]; exact x1
              have back : ∀ c, Free (del3 H2 h) c → Free B.H0 c := fun c f => by
                rcases free_del f with z | z | z | z
                · rw [z]; exact fp
                · rw [z]; exact fa
                · rw [z]; exact fb
                · exact z.back r2.ext.same
              exact ⟨F', h', Ext.del r2.ext hs2 fp fa fb x1', x1'.tabs (tabs_del hs2 r2.tab), e2.fsame.trans x1'.fsame, by rw [O.eK]; exact x2, x3, x4, back _ x5, back _ x6, by rw [O.eK]; exact x7⟩
            · obtain ⟨oa', ob', I4⟩ := inv_lk I3 pl' hs'.ab
              refine ⟨x, _, I4, rx, q x _ F' ?_ sm rv⟩
              exact rel_one (e'.lk hs' pl' fa' fb' oa' ob') (tabs_lk hs' pl' oa' ob' t') r.len (fro_of r sm) (by rw [ep]; exact k1) (hs'.lk oa' ob') (lk2_a hs'.ab) lk2_b (by rw [ep]; exact fp) fa' fb'⟩
def sMk (i : Nat) (args : En → R (List D)) (i0 : List D → R HSt) : En → R Out := fun env => (args env).bind fun ds => match i0 ds with
  | .ok st => if i < env.length then .ok (.nx (env.set i (some (.ob st)))) else .bad
  | _ => .bad
theorem pe_lk2 {e : Expr} {t : TE} (hc : PE X e t) : PE X e (fun σ H Q => t σ H fun v H' => ∃ h : HA, Pl H' h ∧ h.a ≠ h.b ∧ ∀ oa ob, Q v (lk2 H' h oa ob)) :=
  ⟨fun pins s σ H Q I hw => thn (hc.run pins s σ H _ I hw) fun u s1 ⟨x, H1, I1, r, h, pl, n, q⟩ => by
    obtain ⟨oa, ob, I2⟩ := inv_lk I1 pl n
    exact ⟨x, _, I2, r, q oa ob⟩⟩
theorem s_mk (i : Nat) {e : Expr} {x : Str} {p' : Pos} {args : En → R (List D)} {i0 : List D → R HSt} {t : TA} (O : OkX G B k X) (hc : PE X e (tMake (hC G.K) (spI G i0) [] (EB G B) t)) (ht : ∀ σ H Q, tL B args σ H Q → t σ H Q)
    (hi : X.N[i]? = some x := by rfl) (hx : Loc X.env.scope x := by first | exact .inl rfl | exact .inr rfl) (hs : swapsWith e (some (.Name x p')) pos.line X.env = pure false := by rfl) (hf : X.fn x = true ∨ X.env.scope.names.lookup x = some .local := by first | exact .inl rfl | exact .inr rfl) :
    PS X (.Assign [.Name x p'] e pos) (tS B (sMk i args i0)) := PS.imp (ps_set O.nd hi hx (pe_lk2 hc) hs hf) fun Z σ H ⟨env, F, r, q⟩ => ht _ _ _ ⟨env, F, r, by
  rcases q.bind with ⟨ds, ea, q⟩ | ⟨c, ea, q⟩
  · rw [ea]
    intro vs H1 F1 e1 rv y dx hy hdx _
    have r1 := r.mono e1
    refine made_ok O r1 rv hy hdx ?_
    cases hi0 : i0 ds with
    | bad => rw [hi0] at q; exact q.elim
    | exc c => rw [hi0] at q; exact q.elim
    | ok st =>
      rw [hi0] at q
      simp only at q
      by_cases hl : i < env.length
      · rw [if_pos hl] at q
        intro H' F' h' e2 hs' pl ep fp fa fb
        refine ⟨rfl, h', pl, hs'.ab, fun oa ob => ?_⟩
        have r2 := r1.mono e2
        have bk : ∀ c, Free H1 c → Free B.H0 c := fun c f => f.back r1.ext.same
        have no : ∀ c, Free H1 c → NoOwn env σ c := fun c f => noOwn_free (H' := H1) (F' := F1) r1 f
        have k : upd H' h'.a (.frz oa (.lst h'.xs)) h'.b = some (.lst h'.ys) := by rw [upd_ne (Ne.symm hs'.ab)]; exact pl.2
        have r3 := r2.mut (o := .frz oa (.lst h'.xs)) (bk _ fa) (tabs_mut pl.1) hs'.fa (no _ fa) (soft_lst pl.1)
        have r4 := r3.mut (o := .frz ob (.lst h'.ys)) (bk _ fb) (tabs_mut k) hs'.fb (no _ fb) (soft_lst k)
        have hsl := hs'.lk oa ob
        have r5 := r4.putS (i := i) (a := h'.p) (sv := .ob st) ⟨h'.p, h'.dx, h'.v1, h'.v2, h'.a, h'.b, h'.xs, h'.ys, rfl, hsl, ⟨⟨oa, lk2_a hs'.ab⟩, ob, lk2_b⟩, bk _ fp, bk _ fa, bk _ fb⟩ (no _ fp)
        rw [ep] at r5
        exact q _ _ _ r5 (e1.trans e2).fsame
      · rw [if_neg hl] at q; exact q.elim
  · rw [ea]; exact q⟩
def spO (G : Gx) (f : HSt → List D → R D) : Sp := fun vs H Q E => ∃ (h : HA) (vs' : List V) (st : HSt) (ds : List D) (F : Hp), vs = .ref h.p :: vs' ∧ HsA G.K H F h st ∧ Pl H h ∧ RepL G.K F vs' ds ∧ Same F H ∧ (∀ b ps, F b ≠ some (.tbl ps)) ∧ Tabs G.T H ∧
  match f st ds with
  | .ok d => ∀ (v : V) (H' F' : Hp), Ext G.T (del3 H h) F H' F' → Rep G.K F' v d → Q v H'
  | _ => False
def FnO (G : Gx) (k : Nat) (x : Str) (f : HSt → List D → R D) : Prop := ∃ (ps : List Str) (a : Addr) (fd : FuncData), G.mg x = some (.ref a) ∧ PySem.W.keepIn G.K (.ref a) = true ∧ L2.Binds G.K fd ps [] ∧ FnOk G.P G.w G.K G.mg G.base (L2N.CX G.P G.w) k a fd ps (spO G f)
def startO (n : Nat) (sh : HSt) (ds : List D) : En := some (.ob sh) :: startE (n - 1) ds
def fnO (n m : Nat) (f : En → R Out) : HSt → List D → R D := fun sh ds => if ds.length + 1 = m then (f (startO n sh ds)).bind outD else .bad
theorem ss_lk2 {rest : List Stmt} {t : TS} (hc : PSs X rest t) : PSs X rest (fun Z σ H => ∃ h : HA, Pl H h ∧ h.a ≠ h.b ∧ ∀ oa ob, t Z σ (lk2 H h oa ob)) :=
  ⟨fun pins s σ H Z I ⟨h, pl, n, q⟩ => by
    obtain ⟨oa, ob, I2⟩ := inv_lk I pl n
    exact hc.run pins s σ _ Z I2 (q oa ob)⟩
theorem start_fro {n : Nat} {ds : List D} {j : Nat} {s : SV} (h : (startE n ds)[j]? = some (some s)) : ∃ d, s = .fro d ∧ ds[j]? = some d := by
  unfold startE at h
  by_cases hi : j < ds.length
  · rw [List.getElem?_append_left (by rw [List.length_map]; exact hi), List.getElem?_map] at h
    cases e : ds[j]? with
    | none => rw [e] at h; cases h
    | some d =>
      rw [e] at h
      have hs : SV.fro d = s := Option.some.inj (Option.some.inj h)
      exact ⟨d, hs.symm, rfl⟩
  · rw [List.getElem?_append_right (by rw [List.length_map]; omega), List.getElem?_replicate] at h
    split at h <;> cases h
theorem fn_defO {x : Str} {st : Stmt} {N ps : List Str} {w : En → R Out} (hd : FDL G x st ps) (S : FnScope N ps (defScope st))
    (body : ∀ (a : Addr) (cdv : Value) (A : Around) (outer : List Env) (s : Shared) (H : Hp) (E : XK) (B : Bd), OkX G B k (cxOf (L2N.CX G.P G.w) G.P G.w G.K G.mg G.base N x (defScope st) a cdv A outer s H E) →
      L2N.Takes (cxOf (L2N.CX G.P G.w) G.P G.w G.K G.mg G.base N x (defScope st) a cdv A outer s H E) (fun cls d _ H => EB G B cls d H) → LamAt G (cxOf (L2N.CX G.P G.w) G.P G.w G.K G.mg G.base N x (defScope st) a cdv A outer s H E) →
      NoLk B (cxOf (L2N.CX G.P G.w) G.P G.w G.K G.mg G.base N x (defScope st) a cdv A outer s H E) →
      PSs (cxOf (L2N.CX G.P G.w) G.P G.w G.K G.mg G.base N x (defScope st) a cdv A outer s H E) (defBody st) (tS B w)) : FnO G (k + 1) x (fnO N.length ps.length w) := by
  obtain ⟨a, fd, hF, hm, hb, c, P, h1, h2, h3, h4⟩ := hd
  have kp := hF.kp
  obtain ⟨oc, od, kV, doc, pm, an, cdv, ct, osl, efd, lk, hcd⟩ := hF.ex
  subst efd
  refine ⟨ps, a, _, hm, kp, hb, fn_of lk hcd S (fun vs H Q E ⟨h, vs', sh, ds, F, e, hs, pl, rv, sub, nt, tab, q⟩ => ?_) fun A outer s H vs Q E hr ⟨h, vs', sh, ds, F, e, hs, pl, rv, sub, nt, tab, q⟩ => ?_⟩
  · unfold fnO at q
    by_cases hl : ds.length + 1 = ps.length
    · rw [e, List.length_cons, rv.length]; exact hl
    · rw [if_neg hl] at q; exact q.elim
  · subst e
    obtain ⟨tk, O⟩ := mt_ok (G := G) (H := H) (H0 := del3 H h) (F0 := F) (E := E) (p := 0) (outer := outer) S hr
    have n0 : NoLk ⟨G.w, G.K, G.T, del3 H h, F, fun c H' => E (G.cm c) none H', 0⟩ (cxOf (L2N.CX G.P G.w) G.P G.w G.K G.mg G.base N x (defScope st) a cdv A outer s H E) := fun b f o u z => by
      have z' : H b = some (.frz o u) := z
      rcases free_del f with k | k | k | k
      · rw [k, hs.hp] at z'; cases z'
      · rw [k, pl.1] at z'; cases z'
      · rw [k, pl.2] at z'; cases z'
      · exact k.some z' (fun ps z => by cases z)
    refine ⟨_, ss_lk2 (body a cdv A outer s H E _ O tk ⟨c, P, h1, h2, h3, h4⟩ n0), h, pl, hs.ab, fun oa ob => ⟨startO N.length sh ds, F, ?_, ?_⟩⟩
    · have e0 : Ext G.T (del3 H h) F H F := Ext.toDel (.stay sub nt)
      have eL := e0.lk hs pl (free_in (.inr (.inl rfl))) (free_in (.inr (.inr rfl))) oa ob
      have r0 := rel_start (B := ⟨G.w, G.K, G.T, H, F, fun c H' => E (G.cm c) none H', 0⟩) (N := N.tail) rfl rfl rv sub nt tab
      have hl := r0.len
      rw [start_cons]
      refine ⟨eL, tabs_lk hs pl oa ob tab, ?_, fun j s hj => ?_, fun j m s s' hne k1 k2 o1 o2 => ?_⟩
      · unfold startO
        rw [List.length_cons, List.length_cons, ← hl, List.length_tail]
      · cases j with
        | zero =>
          have : SV.ob sh = s := Option.some.inj (Option.some.inj hj)
          subst this
          exact ⟨_, rfl, h.p, h.dx, h.v1, h.v2, h.a, h.b, h.xs, h.ys, rfl, hs.lk oa ob, ⟨⟨oa, lk2_a hs.ab⟩, ob, lk2_b⟩, free_in (.inl rfl), free_in (.inr (.inl rfl)), free_in (.inr (.inr rfl))⟩
        | succ j =>
          have hj' : (startE N.tail.length ds)[j]? = some (some s) := by
            rw [List.length_tail]
            exact hj
          obtain ⟨d, rfl, _⟩ := start_fro hj'
          exact r0.slot j _ hj'
      · cases j with
        | succ j =>
          obtain ⟨d, rfl, _⟩ := start_fro (show (startE (N.length - 1) ds)[j]? = some (some s) from k1)
          cases o1
        | zero =>
          cases m with
          | zero => exact absurd rfl hne
          | succ m =>
            obtain ⟨d, rfl, _⟩ := start_fro (show (startE (N.length - 1) ds)[m]? = some (some s') from k2)
            cases o2
    · unfold fnO at q
      by_cases hl : ds.length + 1 = ps.length
      · rw [if_pos hl] at q
        cases hw : w (startO N.length sh ds) with
        | bad => rw [hw] at q; exact q.elim
        | exc c => rw [hw] at q; exact q.elim
        | ok o =>
          rw [hw] at q
          cases o with
          | nx env => exact fun σ' H' F' r' _ => q .non H' F' r'.ext .non
          | rt d => exact fun v H' F' x _ rv => q v H' F' x rv
          | bk env => exact q.elim
          | ct env => exact q.elim
      · rw [if_neg hl] at q; exact q.elim
def eCO (i : Nat) (args : En → R (List D)) (f : HSt → List D → R D) : En → R (En × D) := fun env => match env[i]? with
  | some (some (.ob st)) => (args (dropOwn env)).bind fun ds => match f st ds with
    | .ok d => .ok (dropOwn env, d)
    | _ => .bad
  | _ => .bad
theorem e_callO [Calm G] {j i : Nat} {x y : Str} {fn : HSt → List D → R D} {es : List Expr} {args : En → R (List D)} {p px : Pos} (O : OkX G B k X) (h0 : NoLk B X) (hF : FnO G j x fn) (hj : j ≤ k) (ha : PA X es (tL B args)) (hN : X.N[i]? = some y := by rfl) (hv : Vis X.env.scope y := by first | exact Or.inl rfl | exact Or.inr (Or.inl rfl) | exact Or.inr (Or.inr rfl)) (hd : (y == ("__debug__" : Str)) = false := by decide) (hcd : (y == ("__classdict__" : Str)) = false := by decide)
    (hg : Gl X x := by rfl) (hdb : (x == ("__debug__" : Str)) = false := by decide) (he : starEach (.Name y px :: es) X.env = (false, eval (.Name y px) X.env) :: starEach es X.env := by rfl) (hpl : (backTo pos (starEach es X.env)).any (·.1) = false := by rfl) :
    PE X (.Call (.Name x p) (.Name y px :: es) [] pos) (tEe B (eCO i args fn)) := by
  obtain ⟨ps, a, fd, h1, h2, h3, h4⟩ := hF
  have h4' : FnOk X.prog X.w X.K X.mg X.base (L2N.CX X.prog X.w) j a fd ps (spO G fn) := by
    rw [O.prog, O.w, O.GK, O.mg, O.base]
    exact h4
  have hc := pe_call (p := p) (pos := pos) h4' (O.roomX.mono hj) hg (by rw [O.mg]; exact h1) (by rw [O.GK]; exact h2) (by rw [O.GK]; exact h3) .nil O.pass (pa_cons (pe_var hN hv hd hcd) ha he) hdb he hpl
  refine ⟨fun pins s σ H Q I ⟨env, F, r, q⟩ => ?_⟩
  unfold eCO at q
  cases he : env[i]? with
  | none => rw [he] at q; exact q.elim
  | some o =>
    cases o with
    | none => rw [he] at q; exact q.elim
    | some sv =>
      cases sv with
      | fro d => rw [he] at q; exact q.elim
      | ol d => rw [he] at q; exact q.elim
      | od d => rw [he] at q; exact q.elim
      | oq d => rw [he] at q; exact q.elim
      | bh d => rw [he] at q; exact q.elim
      | ob st =>
        rw [he] at q
        simp only at q
        obtain ⟨h, oa, ob, k1, hs, la, lb, fp, fa, fb⟩ := ob_at r he
        have I1 := inv_ul h0 I hs la lb fa fb
        have eu := r.ext.ul hs la lb fa fb
        have tu := tabs_ul hs la lb r.tab
        have ru : Rel B (dropOwn env) σ (ul2 H h) F := rel_none eu tu r.len (fro_of r (Same.refl F))
        have hsu := hs.ul
        cases ha : args (dropOwn env) with
        | bad => rw [ha] at q; exact q.elim
        | exc c =>
          rw [ha] at q
          refine thn (hc.run pins s σ (ul2 H h) (fun _ _ => False) I1 ?_) fun u s1 ⟨x, H1, I3, rx, z⟩ => z.elim
          exact ⟨.ref h.p, k1, dropOwn env, F, ru, by rw [ha]; exact q⟩
        | ok ds =>
          rw [ha] at q
          simp only [R.bind] at q
          cases hmm : fn st ds with
          | bad => rw [hmm] at q; exact q.elim
          | exc c => rw [hmm] at q; exact q.elim
          | ok d =>
            rw [hmm] at q
            refine thn (hc.run pins s σ (ul2 H h) (fun v H' => ∃ F' : Hp, Ext B.T B.H0 B.F0 H' F' ∧ Tabs B.T H' ∧ Same F F' ∧ Rep B.K F' v d) I1 ?_) fun u s1 ⟨x, H1, I3, rx, F', e', t', sm, rv⟩ => ⟨x, H1, I3, rx, q x H1 F' (rel_none e' t' r.len (fro_of r sm)) sm rv⟩
            refine ⟨.ref h.p, k1, dropOwn env, F, ru, ?_⟩
            rw [ha]
            intro vs H2 F2 e2 rv
            have r2 := ru.mono e2
            have hs2 := hsu.mono e2
            show spO G fn ((V.ref h.p :: vs) ++ []) H2 _ _
            rw [List.append_nil]
            refine ⟨h, vs, st, ds, F2, rfl, by rw [← O.eK]; exact hs2, ⟨e2.same _ _ (ul2_a hs.ab) (fun ps z => by cases z), e2.same _ _ ul2_b (fun ps z => by cases z)⟩, by rw [← O.eK]; exact rv, r2.ext.sub, r2.ext.nt, by rw [← O.T]; exact r2.tab, ?_⟩
            rw [hmm]
            exact fun v H' F' x1 x7 => by
              have x1' : Ext B.T (del3 H2 h) F2 H' F' := by rw [O.T]; exact x1
              exact ⟨F', Ext.del r2.ext hs2 fp fa fb x1', x1'.tabs (tabs_del hs2 r2.tab), e2.fsame.trans x1'.fsame, by rw [O.eK]; exact x7⟩
/-- the law's own ground -/
theorem fn_defLO {x : Str} {st : Stmt} {N ps : List Str} {f : En → R Out} (hd : FDL G x st ps) (S : FnScope N ps (defScope st))
    (body : ∀ (a : Addr) (cdv : Value) (A : Around) (outer : List Env) (s : Shared) (H : Hp) (E : XK) (B : Bd), OkX G B k (cxOf (L2N.CX G.P G.w) G.P G.w G.K G.mg G.base N x (defScope st) a cdv A outer s H E) →
      L2N.Takes (cxOf (L2N.CX G.P G.w) G.P G.w G.K G.mg G.base N x (defScope st) a cdv A outer s H E) (fun cls d _ H => EB G B cls d H) → LamAt G (cxOf (L2N.CX G.P G.w) G.P G.w G.K G.mg G.base N x (defScope st) a cdv A outer s H E) →
      NoLk B (cxOf (L2N.CX G.P G.w) G.P G.w G.K G.mg G.base N x (defScope st) a cdv A outer s H E) →
      PSs (cxOf (L2N.CX G.P G.w) G.P G.w G.K G.mg G.base N x (defScope st) a cdv A outer s H E) (defBody st) (tS B f)) : FnSp G (k + 1) x ps (fnS N.length ps.length f) := by
  obtain ⟨a, fd, hF, hm, hb, c, P, h1, h2, h3, h4⟩ := hd
  have kp := hF.kp
  obtain ⟨oc, od, kV, doc, pm, an, cdv, ct, osl, efd, lk, hcd⟩ := hF.ex
  subst efd
  refine ⟨a, _, hm, kp, hb, fn_of lk hcd S (fun vs H Q E h => ?_) fun A outer s H vs Q E hr h => ?_, oc, od, osl, lk⟩
  · obtain ⟨ds, F0, r, _, _, _, q⟩ := h
    rw [r.length]
    unfold fnS at q
    by_cases hl : ds.length = ps.length
    · exact hl
    · rw [if_neg hl] at q; exact q.elim
  · obtain ⟨ds, F0, r, sub, nt, tab, q⟩ := h
    obtain ⟨tk, O⟩ := mt_ok (G := G) (H := H) (H0 := H) (F0 := F0) (E := E) (p := 0) (outer := outer) S hr
    have n0 : NoLk ⟨G.w, G.K, G.T, H, F0, fun c H' => E (G.cm c) none H', 0⟩ (cxOf (L2N.CX G.P G.w) G.P G.w G.K G.mg G.base N x (defScope st) a cdv A outer s H E) := fun b f o u z => f.some (show H b = some (.frz o u) from z) (fun ps z => by cases z)
    refine ⟨_, body a cdv A outer s H E _ O tk ⟨c, P, h1, h2, h3, h4⟩ n0, startE N.length ds, F0, rel_start rfl rfl r sub nt tab, ?_⟩
    unfold fnS at q
    by_cases hl : ds.length = ps.length
    · rw [if_pos hl] at q
      cases hf : f (startE N.length ds) with
      | bad => rw [hf] at q; exact q.elim
      | exc c => rw [hf] at q; exact q
      | ok o =>
        rw [hf] at q
        cases o with
        | nx env => exact fun σ' H' F' r' _ => q .non H' F' r'.ext .non
        | rt d => exact fun v H' F' e _ rv => q v H' F' e rv
        | bk env => exact q.elim
        | ct env => exact q.elim
    · rw [if_neg hl] at q; exact q.elim
end
end Mk
set_option maxHeartbeats 2000000
namespace Mk
open PySem PySem.Spec PyProof.Rows L2 HotX L2H LamX
section
variable {G : Gx} [Calm G] {B : Bd} {k : Nat} {X : Cx} {e : Expr} {es : List Expr} {pos apos px rpos : Pos} {x m : Str} {j : Nat} {pl : Sem Bool} {args : En → R (List D)}
theorem e_methX (i : Nat) {mm : HSt → List D → R (HSt × D)} (O : OkX G B k X) (hF : HsF G) (M : MtS G j m (spM G mm)) (hj : j ≤ k) (ha : PA X (e :: es) (tL B args)) (hN : X.N[i]? = some x := by rfl) (hv : Vis X.env.scope x := by first | exact Or.inl rfl | exact Or.inr (Or.inl rfl) | exact Or.inr (Or.inr rfl)) (hd : (x == ("__debug__" : Str)) = false := by decide) (hcd : (x == ("__classdict__" : Str)) = false := by decide)
    (hm : ∀ v1 v2 a b, (hfs v1 v2 a b).lookup m = none := by intro _ _ _ _; rfl) (hst : starEach (e :: es) X.env = (false, eval e X.env) :: starEach es X.env := by rfl) (hpl : (backTo pos (starEach es X.env)).any (·.1) = false := by rfl)
    (ht : eval (.Call (.Attribute (.Name x px) m apos) (e :: es) [] pos) X.env = (do
      let ov ← eval (.Name x px) X.env; standAt apos.atName; let (f, first) ← holding [ov] (getMethod ov m pl); callWith pos f first (backTo pos (starEach (e :: es) X.env)) (backToKw pos (keywordEach [] X.env))) := by rfl) :
    PE X (.Call (.Attribute (.Name x px) m apos) (e :: es) [] pos) (tE B (eMX i args mm)) := e_mX O (pe_mt O hF M hj (pe_var hN hv hd hcd) ha hst hpl ht) tL_self hm
theorem e_methX0 (i : Nat) {mm : HSt → List D → R (HSt × D)} (O : OkX G B k X) (hF : HsF G) (M : MtS G j m (spM G mm)) (hj : j ≤ k) (hN : X.N[i]? = some x := by rfl) (hv : Vis X.env.scope x := by first | exact Or.inl rfl | exact Or.inr (Or.inl rfl) | exact Or.inr (Or.inr rfl)) (hd : (x == ("__debug__" : Str)) = false := by decide) (hcd : (x == ("__classdict__" : Str)) = false := by decide)
    (hm : ∀ v1 v2 a b, (hfs v1 v2 a b).lookup m = none := by intro _ _ _ _; rfl)
    (ht : eval (.Call (.Attribute (.Name x px) m apos) [] [] pos) X.env = (do
      let ov ← eval (.Name x px) X.env; standAt apos.atName; let (f, first) ← holding [ov] (getMethod ov m pl); callWith pos f first (backTo pos (starEach [] X.env)) (backToKw pos (keywordEach [] X.env))) := by rfl) :
    PE X (.Call (.Attribute (.Name x px) m apos) [] [] pos) (tE B (eMX i aNil mm)) := e_mX O (pe_mt0 O hF M hj (pe_var hN hv hd hcd) ht) tL_nil hm
theorem e_methP (i : Nat) {mm : HSt → List D → R D} (O : OkX G B k X) (hF : HsF G) (M : MtS G j m (spP G mm)) (hj : j ≤ k) (ha : PA X (e :: es) (tL B args)) (hN : X.N[i]? = some x := by rfl) (hv : Vis X.env.scope x := by first | exact Or.inl rfl | exact Or.inr (Or.inl rfl) | exact Or.inr (Or.inr rfl)) (hd : (x == ("__debug__" : Str)) = false := by decide) (hcd : (x == ("__classdict__" : Str)) = false := by decide)
    (hm : ∀ v1 v2 a b, (hfs v1 v2 a b).lookup m = none := by intro _ _ _ _; rfl) (hst : starEach (e :: es) X.env = (false, eval e X.env) :: starEach es X.env := by rfl) (hpl : (backTo pos (starEach es X.env)).any (·.1) = false := by rfl)
    (ht : eval (.Call (.Attribute (.Name x px) m apos) (e :: es) [] pos) X.env = (do
      let ov ← eval (.Name x px) X.env; standAt apos.atName; let (f, first) ← holding [ov] (getMethod ov m pl); callWith pos f first (backTo pos (starEach (e :: es) X.env)) (backToKw pos (keywordEach [] X.env))) := by rfl) :
    PE X (.Call (.Attribute (.Name x px) m apos) (e :: es) [] pos) (tE B (eMP i args mm)) := e_mP O (pe_mt O hF M hj (pe_var hN hv hd hcd) ha hst hpl ht) tL_self hm
theorem e_methP0 (i : Nat) {mm : HSt → List D → R D} (O : OkX G B k X) (hF : HsF G) (M : MtS G j m (spP G mm)) (hj : j ≤ k) (hN : X.N[i]? = some x := by rfl) (hv : Vis X.env.scope x := by first | exact Or.inl rfl | exact Or.inr (Or.inl rfl) | exact Or.inr (Or.inr rfl)) (hd : (x == ("__debug__" : Str)) = false := by decide) (hcd : (x == ("__classdict__" : Str)) = false := by decide)
    (hm : ∀ v1 v2 a b, (hfs v1 v2 a b).lookup m = none := by intro _ _ _ _; rfl)
    (ht : eval (.Call (.Attribute (.Name x px) m apos) [] [] pos) X.env = (do
      let ov ← eval (.Name x px) X.env; standAt apos.atName; let (f, first) ← holding [ov] (getMethod ov m pl); callWith pos f first (backTo pos (starEach [] X.env)) (backToKw pos (keywordEach [] X.env))) := by rfl) :
    PE X (.Call (.Attribute (.Name x px) m apos) [] [] pos) (tE B (eMP i aNil mm)) := e_mP O (pe_mt0 O hF M hj (pe_var hN hv hd hcd) ht) tL_nil hm
theorem e_methE (i : Nat) {mm : HSt → List D → R (HSt × D)} (O : OkX G B k X) (h0 : NoLk B X) (hF : HsF G) (M : MtS G j m (spM G mm)) (hj : j ≤ k) (ha : PA X (e :: es) (tL B args)) (hN : X.N[i]? = some x := by rfl) (hv : Vis X.env.scope x := by first | exact Or.inl rfl | exact Or.inr (Or.inl rfl) | exact Or.inr (Or.inr rfl)) (hd : (x == ("__debug__" : Str)) = false := by decide) (hcd : (x == ("__classdict__" : Str)) = false := by decide)
    (hm : ∀ v1 v2 a b, (hfs v1 v2 a b).lookup m = none := by intro _ _ _ _; rfl) (hst : starEach (e :: es) X.env = (false, eval e X.env) :: starEach es X.env := by rfl) (hpl : (backTo pos (starEach es X.env)).any (·.1) = false := by rfl)
    (ht : eval (.Call (.Attribute (.Name x px) m apos) (e :: es) [] pos) X.env = (do
      let ov ← eval (.Name x px) X.env; standAt apos.atName; let (f, first) ← holding [ov] (getMethod ov m pl); callWith pos f first (backTo pos (starEach (e :: es) X.env)) (backToKw pos (keywordEach [] X.env))) := by rfl) :
    PE X (.Call (.Attribute (.Name x px) m apos) (e :: es) [] pos) (tEe B (eME i args mm)) := e_mE O h0 (pe_mt O hF M hj (pe_var hN hv hd hcd) ha hst hpl ht) tL_self hm
theorem e_methE0 (i : Nat) {mm : HSt → List D → R (HSt × D)} (O : OkX G B k X) (h0 : NoLk B X) (hF : HsF G) (M : MtS G j m (spM G mm)) (hj : j ≤ k) (hN : X.N[i]? = some x := by rfl) (hv : Vis X.env.scope x := by first | exact Or.inl rfl | exact Or.inr (Or.inl rfl) | exact Or.inr (Or.inr rfl)) (hd : (x == ("__debug__" : Str)) = false := by decide) (hcd : (x == ("__classdict__" : Str)) = false := by decide)
    (hm : ∀ v1 v2 a b, (hfs v1 v2 a b).lookup m = none := by intro _ _ _ _; rfl)
    (ht : eval (.Call (.Attribute (.Name x px) m apos) [] [] pos) X.env = (do
      let ov ← eval (.Name x px) X.env; standAt apos.atName; let (f, first) ← holding [ov] (getMethod ov m pl); callWith pos f first (backTo pos (starEach [] X.env)) (backToKw pos (keywordEach [] X.env))) := by rfl) :
    PE X (.Call (.Attribute (.Name x px) m apos) [] [] pos) (tEe B (eME i aNil mm)) := e_mE O h0 (pe_mt0 O hF M hj (pe_var hN hv hd hcd) ht) tL_nil hm
theorem s_retMt {mb : HSt → List D → R (HSt × D)} (O : OkX G B k X) (hF : HsF G) (M : MtS G j m (spM G mb)) (hj : j ≤ k) (ha : PA X (e :: es) (tL B args)) (hN : X.N[0]? = some x := by rfl) (hv : Vis X.env.scope x := by first | exact Or.inl rfl | exact Or.inr (Or.inl rfl) | exact Or.inr (Or.inr rfl)) (hd : (x == ("__debug__" : Str)) = false := by decide) (hcd : (x == ("__classdict__" : Str)) = false := by decide)
    (hm : ∀ v1 v2 a b, (hfs v1 v2 a b).lookup m = none := by intro _ _ _ _; rfl) (hst : starEach (e :: es) X.env = (false, eval e X.env) :: starEach es X.env := by rfl) (hpl : (backTo pos (starEach es X.env)).any (·.1) = false := by rfl)
    (ht : eval (.Call (.Attribute (.Name x px) m apos) (e :: es) [] pos) X.env = (do
      let ov ← eval (.Name x px) X.env; standAt apos.atName; let (f, first) ← holding [ov] (getMethod ov m pl); callWith pos f first (backTo pos (starEach (e :: es) X.env)) (backToKw pos (keywordEach [] X.env))) := by rfl) :
    PSs X [.Return (some (.Call (.Attribute (.Name x px) m apos) (e :: es) [] pos)) rpos] (tK B (retW G B args mb)) := pss_one (s_retM O (pe_mt O hF M hj (pe_var hN hv hd hcd) ha hst hpl ht) tL_self hm)
theorem e_house {i0 : List D → R HSt} (O : OkX G B k X) (hF : HsF G) (M : MtI G j i0) (hj : j + 1 ≤ k) (ha : PA X (e :: es) (tL B args)) (hg : Gl X "House" := by rfl) (hst : starEach (e :: es) X.env = (false, eval e X.env) :: starEach es X.env := by rfl) (hpl : (backTo pos (starEach es X.env)).any (·.1) = false := by rfl) :
    PE X (.Call (.Name "House" px) (e :: es) [] pos) (tE B (eMkX args i0)) := e_mkX O (pe_mk O hF M hj ha hg hst hpl) tL_self
theorem s_house (i : Nat) {i0 : List D → R HSt} {p' spos : Pos} (O : OkX G B k X) (hF : HsF G) (M : MtI G j i0) (hj : j + 1 ≤ k) (ha : PA X (e :: es) (tL B args)) (hi : X.N[i]? = some x := by rfl) (hx : Loc X.env.scope x := by first | exact .inl rfl | exact .inr rfl) (hs : swapsWith (.Call (.Name "House" px) (e :: es) [] pos) (some (.Name x p')) spos.line X.env = pure false := by rfl) (hf : X.fn x = true ∨ X.env.scope.names.lookup x = some .local := by first | exact .inl rfl | exact .inr rfl)
    (hg : Gl X "House" := by rfl) (hst : starEach (e :: es) X.env = (false, eval e X.env) :: starEach es X.env := by rfl) (hpl : (backTo pos (starEach es X.env)).any (·.1) = false := by rfl) :
    PS X (.Assign [.Name x p'] (.Call (.Name "House" px) (e :: es) [] pos) spos) (tS B (sMk i args i0)) := s_mk i O (pe_mk O hF M hj ha hg hst hpl) tL_self hi hx hs hf
/-- a slot's value, whatever it is -/
theorem pvr (i : Nat) (hN : X.N[i]? = some x := by rfl) (hv : Vis X.env.scope x := by first | exact Or.inl rfl | exact Or.inr (Or.inl rfl) | exact Or.inr (Or.inr rfl)) (hd : (x == ("__debug__" : Str)) = false := by decide) (hcd : (x == ("__classdict__" : Str)) = false := by decide) : PE X (.Name x px) (vr i) := pe_var hN hv hd hcd
end
section
variable {P : Program} {w : World} {K : PySem.W.Frag} {mg : Str → Option Value} {base h : Heap} {tf : List He.Defn}
theorem fun_ofM {x qual : Str} {st : Stmt} {f : Addr} {fd : FuncData} (F : FunD K x qual (defArgs st) (defBody st) (defScope st) [] [] f fd) : Fun K x qual st f fd := by
  obtain ⟨oc, od, dV, kV, doc, pm, an, cdv, ct, osl, e1, e2, e3, e4, _⟩ := F.ex
  refine ⟨⟨oc, od, kV, doc, pm, an, cdv, ct, osl, ?_, e2, e3⟩, F.kp⟩
  rcases e4 with ⟨_, e5⟩ | ⟨e5, _⟩
  · rw [e1, e5]
  · exact (e5 rfl).elim
theorem g_meth {m qual : Str} {st : Stmt} {ps : List Str} (c : (He.Fa.meth "House" m).ok K = true) (d : ∃ fd, FunD K m qual (defArgs st) (defBody st) (defScope st) [] [] (He.fAd K ("House", some m)) fd)
    (b : ∀ (kV doc pm : Value) (an : Option Addr) (cdv ct : Value) (us : List Value), us.length = ps.length → bindArgs (PySem.W.fnOf m qual (defArgs st) (defBody st) (defScope st) .none kV doc pm an cdv ct) ⟨us, []⟩ = pure (ps.zip us)) : MD (mkG P w K mg base tf) m qual st ps := by
  obtain ⟨fd, F⟩ := d
  exact ⟨_, fd, He.meth_ok c, fun_ofM F, (fun_ofM F).binds (fun kV doc pm an cdv ct us hl => b kV doc pm an cdv ct us hl)⟩
theorem g_ini {qual : Str} {st : Stmt} {ps : List Str} (d : ∃ fd, FunD K "__init__" qual (defArgs st) (defBody st) (defScope st) [] [] (He.fAd K ("House", some "__init__")) fd)
    (b : ∀ (kV doc pm : Value) (an : Option Addr) (cdv ct : Value) (us : List Value), us.length = ps.length → bindArgs (PySem.W.fnOf "__init__" qual (defArgs st) (defBody st) (defScope st) .none kV doc pm an cdv ct) ⟨us, []⟩ = pure (ps.zip us)) : MDI (mkG P w K mg base tf) qual st ps := by
  obtain ⟨fd, F⟩ := d
  exact ⟨fd, fun_ofM F, (fun_ofM F).binds (fun kV doc pm an cdv ct us hl => b kV doc pm an cdv ct us hl)⟩
theorem g_house (X : K.In h) (N : h.Ns mainGlobals mg) (c1 : (He.Fa.cls "House").ok K = true) (c2 : (He.Fa.noat "House" "drafts").ok K = true) (c3 : (He.Fa.noat "House" "now").ok K = true) (c4 : (He.Fa.noat "House" "past").ok K = true) (c5 : (He.Fa.noat "House" "ahead").ok K = true) (c6 : (He.Fa.glo "House").ok K = true) (c7 : (He.Fa.mkr "House").ok K = true) : HsF (mkG P w K mg base tf) :=
  ⟨He.cls_ok c1, He.noat_ok c2, He.noat_ok c3, He.noat_ok c4, He.noat_ok c5, He.glo_ok X N c6, He.mkr_ok c7⟩
end
end Mk
set_option maxHeartbeats 2000000
namespace Mk
open PySem PySem.Spec PyProof.Rows L2 HotX L2H LamX
def postD (i : Nat) (f : En → R Out) : En → R Out := fun env => match f env with
  | .ok (.nx env') => .ok (.nx (fzD i env'))
  | r => r
section
variable {G : Gx} {B : Bd} {k : Nat} {X : Cx}
theorem OkX.nD (O : OkX G B k X) (hF : HsF G) : NoAttr X.K (hC B.K) "drafts" := by
  rw [O.GK, O.eK]
  exact hF.nD
theorem rel_fzD {pins : List (Addr × Obj)} {env : En} {σ : L2.St} {H F : Hp} {s : Shared} (i : Nat) (I : Inv X pins σ H s) (r : Rel B env σ H F) : ∃ H' F', Inv X pins σ H' s ∧ Rel B (fzD i env) σ H' F' ∧ Same F F' := by
  unfold fzD
  split
  · rename_i l hi
    obtain ⟨a, vs, hσ, h2, h3, h4, h5, h6, no⟩ := ownD_at r hi
    obtain ⟨od, I1⟩ := I.lock h2 trivial
    have r1 := (rel_drop r i).mut (o := .frz od (.dK vs)) h3 (tabs_mutK h2) h4 no (soft_dK h2)
    have sm := same_upd' (o := .frz od (.dK vs)) h4
    have r2 := (r1.fzO h3 upd_same h4 (fun ps z => by cases z) no (fun _ _ _ z => by cases z) (fun _ _ z => by cases z)).put (i := i) (v := .ref a) (d := .dic l) (.dic upd_same (h5.mono sm) h6)
    rw [List.set_set, set_back hσ] at r2
    exact ⟨_, _, I1, r2, sm⟩
  · exact ⟨H, F, I, r, Same.refl F⟩
theorem s_postD (i : Nat) {st : Stmt} {f : En → R Out} (h : PS X st (tS B f)) : PS X st (tS B (postD i f)) := ⟨fun pins s σ H Z I ⟨env, F, r, q⟩ => by
  unfold postD at q
  cases hf : f env with
  | bad => rw [hf] at q; exact q.elim
  | exc c => exact h.run pins s σ H Z I ⟨env, F, r, by rw [hf] at q ⊢; exact q⟩
  | ok o =>
    cases o with
    | rt d => exact h.run pins s σ H Z I ⟨env, F, r, by rw [hf] at q ⊢; exact q⟩
    | bk d => exact h.run pins s σ H Z I ⟨env, F, r, by rw [hf] at q ⊢; exact q⟩
    | ct d => exact h.run pins s σ H Z I ⟨env, F, r, by rw [hf] at q ⊢; exact q⟩
    | nx env' =>
      rw [hf] at q
      refine thn (h.run pins s σ H ⟨fun σ' H' => ∃ F', Rel B env' σ' H' F' ∧ Same F F', fun _ _ => False, fun _ _ => False, fun _ _ => False⟩ I ⟨env, F, r, by rw [hf]; exact fun σ' H' F' r' s' => ⟨F', r', s'⟩⟩) fun fl s1 z => ?_
      cases fl with
      | next =>
        obtain ⟨σ', H', I2, F', r', s'⟩ := z
        obtain ⟨H2, F2, I3, r2, s2⟩ := rel_fzD i I2 r'
        exact ⟨σ', H2, I3, q σ' H2 F2 r2 (s'.trans s2)⟩
      | brk => obtain ⟨σ', H', I2, z⟩ := z; exact z.elim
      | cont => obtain ⟨σ', H', I2, z⟩ := z; exact z.elim
      | ret v => obtain ⟨x, σ', H', I2, rr, z⟩ := z; exact z.elim⟩
end
end Mk
set_option maxHeartbeats 4000000
namespace Mk
open PySem PySem.Spec PyProof.Rows L2 HotX L2H LamX
def c_DRAFTS : D := (.str ("abc" : PySem.Str))
def c_FINAL : D := (.int 300)
def c_LEAST : D := (.tup [(.str ("a" : PySem.Str)), (.int 0)])
def c_MANY : D := (.int 301000000000)
def c_MOST : D := (.int 999)
def c_MOST_DRAFT : D := (.int 99)
def c_MOST_MAKES : D := (.int 4)
def c_MOST_NAME : D := (.int 4)
def c_MOST_NAMES : D := (.int 4)
def c_MOST_ROWS : D := (.int 20)
def c_MOST_WORDS : D := (.int 6)
def c_SIGNS : D := (.tup [(.str ("" : PySem.Str)), (.str ("!" : PySem.Str)), (.str (">" : PySem.Str)), (.str (">=" : PySem.Str)), (.str ("<" : PySem.Str)), (.str ("<=" : PySem.Str)), (.str ("^" : PySem.Str)), (.str ("~" : PySem.Str))])
def c_SMALL : D := (.str ("abcdefghijklmnopqrstuvwxyz" : PySem.Str))
def wsL : List String := ["BadKind", "BadMake", "BadNumber", "BadRange", "BadShelf", "BadText", "BadWish", "NoMake", "Barred", "Nothing"]
/-- what the top has left -/
structure Tx (G : Gx) : Prop where
  b_ValueError : G.mg "ValueError" = none
  b_all : G.mg "all" = none
  b_any : G.mg "any" = none
  b_bool : G.mg "bool" = none
  b_dict : G.mg "dict" = none
  b_enumerate : G.mg "enumerate" = none
  b_int : G.mg "int" = none
  b_isinstance : G.mg "isinstance" = none
  b_len : G.mg "len" = none
  b_list : G.mg "list" = none
  b_max : G.mg "max" = none
  b_min : G.mg "min" = none
  b_range : G.mg "range" = none
  b_set : G.mg "set" = none
  b_sorted : G.mg "sorted" = none
  b_str : G.mg "str" = none
  b_sum : G.mg "sum" = none
  b_tuple : G.mg "tuple" = none
  b_zip : G.mg "zip" = none
  g_DRAFTS : GC G "DRAFTS" c_DRAFTS
  g_FINAL : GC G "FINAL" c_FINAL
  g_LEAST : GC G "LEAST" c_LEAST
  g_MANY : GC G "MANY" c_MANY
  g_MOST : GC G "MOST" c_MOST
  g_MOST_DRAFT : GC G "MOST_DRAFT" c_MOST_DRAFT
  g_MOST_MAKES : GC G "MOST_MAKES" c_MOST_MAKES
  g_MOST_NAME : GC G "MOST_NAME" c_MOST_NAME
  g_MOST_NAMES : GC G "MOST_NAMES" c_MOST_NAMES
  g_MOST_ROWS : GC G "MOST_ROWS" c_MOST_ROWS
  g_MOST_WORDS : GC G "MOST_WORDS" c_MOST_WORDS
  g_SIGNS : GC G "SIGNS" c_SIGNS
  g_SMALL : GC G "SMALL" c_SMALL
  c_BadRange : ∃ C, ClsF G "BadRange" C
  c_BadShelf : ∃ C, ClsF G "BadShelf" C
  c_Barred : ∃ C, ClsF G "Barred" C
  c_Nothing : ∃ C, ClsF G "Nothing" C
  d_is_count : FD G "is_count" (topS 18) ["thing", "low", "high"]
  d_is_draft : FD G "is_draft" (topS 19) ["thing"]
  d_is_make : FD G "is_make" (topS 20) ["thing"]
  d_rank_of : FD G "rank_of" (topS 21) ["make"]
  d_make_of : FD G "make_of" (topS 22) ["rank"]
  d_is_span : FD G "is_span" (topS 24) ["thing"]
  d_is_range : FD G "is_range" (topS 25) ["thing"]
  d_need_range : FD G "need_range" (topS 26) ["some"]
  d_ranked : FD G "ranked" (topS 27) ["some"]
  d_tidied : FD G "tidied" (topS 28) ["pairs"]
  d_every : FD G "every" (topS 29) []
  d_need_two : FD G "need_two" (topS 30) ["one", "other"]
  d_met_of : FD G "met_of" (topS 31) ["one", "other"]
  d_met : FD G "met" (topS 32) ["one", "other"]
  d_turned_out_of : FD G "turned_out_of" (topS 33) ["some"]
  d_turned_out : FD G "turned_out" (topS 34) ["some"]
  d_has : FD G "has" (topS 35) ["some", "make"]
  d_is_word : FD G "is_word" (topS 41) ["thing"]
  d_is_wish : FD G "is_wish" (topS 42) ["thing"]
  d_ends_of : FD G "ends_of" (topS 43) ["numbers", "draft"]
  d_kept : FD G "kept" (topS 44) ["sign", "numbers"]
  d_last_of : FD G "last_of" (topS 45) ["sign", "numbers"]
  d_word_range : FD G "word_range" (topS 46) ["word"]
  d_row_range : FD G "row_range" (topS 47) ["row"]
  d_drafts_named : FD G "drafts_named" (topS 48) ["row"]
  d_does : FD G "does" (topS 50) ["wish", "make", "drafts"]
  d_is_name : FD G "is_name" (topS 56) ["thing"]
  d_are_wants : FD G "are_wants" (topS 57) ["thing"]
  d_is_row : FD G "is_row" (topS 58) ["thing"]
  d_need_shelf : FD G "need_shelf" (topS 59) ["shelf"]
  d_look : FD G "look" (topS 60) ["shelf", "wants"]
  d_needs_of : FD G "needs_of" (topS 61) ["shelf", "name", "make"]
  d_holds : FD G "holds" (topS 62) ["some", "wants", "drafts"]
  d_is_set : FD G "is_set" (topS 63) ["shelf", "wants", "drafts", "some"]
  d_sets : FD G "sets" (topS 64) ["shelf", "wants", "drafts"]
  d_with_one : FD G "with_one" (topS 65) ["some", "name", "make"]
  d_chosen : FD G "chosen" (topS 66) ["shelf", "wants", "drafts"]
  d_need_lock : FD G "need_lock" (topS 68) ["lock"]
  d_changes_of : FD G "changes_of" (topS 69) ["one", "other"]
  d_relocked : FD G "relocked" (topS 70) ["shelf", "wants", "drafts", "lock"]
  d_raised_to : FD G "raised_to" (topS 71) ["shelf", "wants", "drafts", "lock", "name"]
  d_copied : FD G "copied" (topS 73) ["thing"]
  d_l_cell : FD G "_law_cell" (topS 76) ["script", "k"]
  d_l_drawn : FD G "_law_drawn" (topS 77) ["cell", "k"]
  d_l_word : FD G "_law_word" (topS 78) ["e"]
  d_l_small : FD G "_law_small" (topS 80) ["more"]
  d_l_full_right : FDL G "_law_full_right" (topS 81) ["house", "all_let", "more"]
  d_law : FDL G "law" (topS 82) ["script"]
  hsF : HsF G
  h_init : MDI G "House.__init__" (inClass (topS 74) 0) ["self", "shelf", "drafts"]
  h_become : MD G "become" "House.become" (inClass (topS 74) 1) ["self", "shelf", "wants", "lock"]
  h_locked_by : MD G "locked_by" "House.locked_by" (inClass (topS 74) 2) ["self", "shelf", "wants"]
  h_want : MD G "want" "House.want" (inClass (topS 74) 3) ["self", "name", "wish"]
  h_unwant : MD G "unwant" "House.unwant" (inClass (topS 74) 4) ["self", "name"]
  h_bring : MD G "bring" "House.bring" (inClass (topS 74) 5) ["self", "name", "make", "needs"]
  h_take : MD G "take" "House.take" (inClass (topS 74) 6) ["self", "name", "make"]
  h_raise_one : MD G "raise_one" "House.raise_one" (inClass (topS 74) 7) ["self", "name"]
  h_raise_all : MD G "raise_all" "House.raise_all" (inClass (topS 74) 8) ["self"]
  h_undo : MD G "undo" "House.undo" (inClass (topS 74) 9) ["self"]
  h_redo : MD G "redo" "House.redo" (inClass (topS 74) 10) ["self"]
  h_shelf : MD G "shelf" "House.shelf" (inClass (topS 74) 11) ["self"]
  h_wants : MD G "wants" "House.wants" (inClass (topS 74) 12) ["self"]
  h_lock : MD G "lock" "House.lock" (inClass (topS 74) 13) ["self"]
  h_is_best : MD G "is_best" "House.is_best" (inClass (topS 74) 14) ["self"]
  told : ToldG G "_law_told" (topS 79) "deed" "MakeError" "e" "_law_word" wsL
  wf : WordF G wsL "MakeError"
def w_is_count : En → R Out :=
    (sRet (eAnd (op1 (eVar 0) (isiD isInt)) (eAnd (eNot (op1 (eVar 0) (isiD isBool))) (eB (opCh (eVar 1) (eVar 0) (eVar 2) (ordD .le) (ordD .le))))))
def s_is_count : List D → R D := fnS 3 3 w_is_count
abbrev t_is_count : Stmt := topS 18
theorem n_is_count : FnScope ["thing", "low", "high"] ["thing", "low", "high"] (defScope t_is_count) := ⟨rfl, rfl, rfl, by decide +kernel, rfl, by decide +kernel, by decide +kernel⟩
theorem d_is_count {G : Gx} [Calm G] (T : Tx G) : FnS G 1 "is_count" s_is_count := by
  obtain ⟨a, fd, hF, hm, hb⟩ := T.d_is_count
  have h := fn_defP (N := ["thing", "low", "high"]) (k := 0) (f := w_is_count) hF n_is_count hm hb fun cdv _ A outer s H E B O tk =>
    (ss_one (s_ret (e_and O (e_isi O k_int T.b_isinstance T.b_int (PE.o (e_var 0))) (e_and O (e_not O (e_isi O k_bool T.b_isinstance T.b_bool (PE.o (e_var 0)))) (e_one (e_chain O c_le c_le (PE.o (e_var 1)) (PE.o (e_var 0)) (PE.o (e_var 2))))))))
  exact ⟨_, h⟩
def w_is_draft : En → R Out :=
    (sSeq (sIf (qOr (qNot (opT (op1 (eVar 0) (isiD isTup)))) (qOr (op2b (op1 (eVar 0) lenD) (eC (.int 2)) neD) (qNot (opT (op1 (op2 (eVar 0) (eC (.int 0)) ixD) (isiD isStr)))))) (sRet (eC (.bl false))) sNx)
    (sRet (eAnd (op2 (op1 (op2 (eVar 0) (eC (.int 0)) ixD) lenD) (eC (.int 1)) (bD eqD)) (eAnd (op2 (op2 (eVar 0) (eC (.int 0)) ixD) (eC c_DRAFTS) (bD inD)) (opL (aCons (op2 (eVar 0) (eC (.int 1)) ixD) (aCons (eC (.int 0)) (aCons (eC c_MOST_DRAFT) aNil))) s_is_count)))))
def s_is_draft : List D → R D := fnS 1 1 w_is_draft
abbrev t_is_draft : Stmt := topS 19
theorem n_is_draft : FnScope ["thing"] ["thing"] (defScope t_is_draft) := ⟨rfl, rfl, rfl, by decide +kernel, rfl, by decide +kernel, by decide +kernel⟩
theorem d_is_draft {G : Gx} [Calm G] (T : Tx G) : FnS G 2 "is_draft" s_is_draft := by
  obtain ⟨a, fd, hF, hm, hb⟩ := T.d_is_draft
  have h := fn_defP (N := ["thing"]) (k := 1) (f := w_is_draft) hF n_is_draft hm hb fun cdv _ A outer s H E B O tk =>
    (ss_cons (s_if (t_w (w_or (t_not (t_val O (PE.o (e_isi O k_tuple T.b_isinstance T.b_tuple (PE.o (e_var 0)))))) (w_or (t_cmp O c_ne (PE.o (e_b1 O b_len T.b_len (PE.o (e_var 0)))) (PE.o e_int)) (w_or1 (t_not (t_val O (PE.o (e_isi O k_str T.b_isinstance T.b_str (PE.o (e_ix O (PE.o (e_var 0)) (PE.o e_int))))))))))) (ss_one (s_ret e_bl)) ss_nil) (ss_one (s_ret (e_and O (e_cmp O c_eq (PE.o (e_b1 O b_len T.b_len (PE.o (e_ix O (PE.o (e_var 0)) (PE.o e_int))))) (PE.o e_int)) (e_and O (e_cmp O c_in (PE.o (e_ix O (PE.o (e_var 0)) (PE.o e_int))) (PE.o (e_gc O T.g_DRAFTS))) (e_one (e_call O (d_is_count T) (by decide) (a_cons (e_ix O (PE.o (e_var 0)) (PE.o e_int)) (a_cons e_int (a_cons (e_gc O T.g_MOST_DRAFT) a_nil))))))))))
  exact ⟨_, h⟩
def w_is_make : En → R Out :=
    (sSeq (sIf (qOr (qNot (opT (op1 (eVar 0) (isiD isTup)))) (qOr (op2b (op1 (eVar 0) lenD) (eC (.int 4)) neD) (qNot (opT (op1 (fzL (lcS (opI (eSl (eVar 0) noO (soO (eC (.int 3)))) itD) [1] (gN 1) qYes (opL (aCons (eVar 1) (aCons (eC (.int 0)) (aCons (eC c_MOST) aNil))) s_is_count))) allD))))) (sRet (eC (.bl false))) sNx)
    (sRet (eOr (op2 (op2 (eVar 0) (eC (.int 3)) ixD) (eC .non) (bD isND)) (opL (aCons (op2 (eVar 0) (eC (.int 3)) ixD) aNil) s_is_draft))))
def s_is_make : List D → R D := fnS 2 1 w_is_make
abbrev t_is_make : Stmt := topS 20
theorem n_is_make : FnScope ["thing", "one"] ["thing"] (defScope t_is_make) := ⟨rfl, rfl, rfl, by decide +kernel, rfl, by decide +kernel, by decide +kernel⟩
theorem d_is_make {G : Gx} [Calm G] (T : Tx G) : FnS G 3 "is_make" s_is_make := by
  obtain ⟨a, fd, hF, hm, hb⟩ := T.d_is_make
  have h := fn_defP (N := ["thing", "one"]) (k := 2) (f := w_is_make) hF n_is_make hm hb fun cdv _ A outer s H E B O tk =>
    (ss_cons (s_if (t_w (w_or (t_not (t_val O (PE.o (e_isi O k_tuple T.b_isinstance T.b_tuple (PE.o (e_var 0)))))) (w_or (t_cmp O c_ne (PE.o (e_b1 O b_len T.b_len (PE.o (e_var 0)))) (PE.o e_int)) (w_or1 (t_not (t_val O (PE.o (e_b1 O b_all T.b_all (PE.o (PE.fz (f_lc (own := [("one", 1)]) O (i_seq O (e_slice O (PE.o (e_var 0)) o_none (o_some (PE.o e_int)))) (blkOk_by (N := ["thing", "one"]) (sc := defScope t_is_make) (by decide +kernel)) (fun _ _ _ _ _ => (g_name 1 ((OkX.blk O _ _ _ _ _)).nd)) (fun _ _ _ _ _ => ts_nil) (fun _ _ _ _ _ => (e_call (OkX.blk O _ _ _ _ _) (d_is_count T) (by decide) (a_cons (e_var 1) (a_cons e_int (a_cons (e_gc (OkX.blk O _ _ _ _ _) T.g_MOST) a_nil)))))))))))))))) (ss_one (s_ret e_bl)) ss_nil) (ss_one (s_ret (e_or O (e_cmp O c_is (PE.o (e_ix O (PE.o (e_var 0)) (PE.o e_int))) (PE.o e_non)) (e_one (e_call O (d_is_draft T) (by decide) (a_cons (e_ix O (PE.o (e_var 0)) (PE.o e_int)) a_nil)))))))
  exact ⟨_, h⟩
def w_rank_of : En → R Out :=
    (sSeq (sSet 1 (op2 (eVar 0) (eC (.int 3)) ixD))
    (sSeq (sSet 2 (eIf (op2b (eVar 1) (eC .non) isND) (eC c_FINAL) (op2 (op2 (opM isStr (eC c_DRAFTS) (op2 (eVar 1) (eC (.int 0)) ixD) sidxD) (op2 (eC c_MOST_DRAFT) (eC (.int 1)) addD) mulD) (op2 (eVar 1) (eC (.int 1)) ixD) addD)))
    (sRet (op2 (op2 (op2 (op2 (op2 (op2 (op2 (eVar 0) (eC (.int 0)) ixD) (op2 (eC c_MOST) (eC (.int 1)) addD) mulD) (op2 (eVar 0) (eC (.int 1)) ixD) addD) (op2 (eC c_MOST) (eC (.int 1)) addD) mulD) (op2 (eVar 0) (eC (.int 2)) ixD) addD) (op2 (eC c_FINAL) (eC (.int 1)) addD) mulD) (eVar 2) addD))))
def s_rank_of : List D → R D := fnS 3 1 w_rank_of
abbrev t_rank_of : Stmt := topS 21
theorem n_rank_of : FnScope ["make", "draft", "own"] ["make"] (defScope t_rank_of) := ⟨rfl, rfl, rfl, by decide +kernel, rfl, by decide +kernel, by decide +kernel⟩
theorem d_rank_of {G : Gx} [Calm G] (T : Tx G) : FnS G 1 "rank_of" s_rank_of := by
  obtain ⟨a, fd, hF, hm, hb⟩ := T.d_rank_of
  have h := fn_defP (N := ["make", "draft", "own"]) (k := 0) (f := w_rank_of) hF n_rank_of hm hb fun cdv _ A outer s H E B O tk =>
    (ss_cons (s_set 1 O (e_ix O (PE.o (e_var 0)) (PE.o e_int))) (ss_cons (s_set 2 O (e_if (t_cmp O c_is (PE.o (e_var 1)) (PE.o e_non)) (e_gc O T.g_FINAL) (e_add O (PE.o (e_mul (PE.o (e_sindex (PE.o (e_gc O T.g_DRAFTS)) (PE.o (e_ix O (PE.o (e_var 1)) (PE.o e_int))))) (PE.o (e_add O (PE.o (e_gc O T.g_MOST_DRAFT)) (PE.o e_int))))) (PE.o (e_ix O (PE.o (e_var 1)) (PE.o e_int)))))) (ss_one (s_ret (e_add O (PE.o (e_mul (PE.o (e_add O (PE.o (e_mul (PE.o (e_add O (PE.o (e_mul (PE.o (e_ix O (PE.o (e_var 0)) (PE.o e_int))) (PE.o (e_add O (PE.o (e_gc O T.g_MOST)) (PE.o e_int))))) (PE.o (e_ix O (PE.o (e_var 0)) (PE.o e_int))))) (PE.o (e_add O (PE.o (e_gc O T.g_MOST)) (PE.o e_int))))) (PE.o (e_ix O (PE.o (e_var 0)) (PE.o e_int))))) (PE.o (e_add O (PE.o (e_gc O T.g_FINAL)) (PE.o e_int))))) (PE.o (e_var 2)))))))
  exact ⟨_, h⟩
def w_make_of : En → R Out :=
    (sSeq (sPar 1 2 (aCons (op2 (eVar 0) (op2 (eC c_FINAL) (eC (.int 1)) addD) divD) (aCons (op2 (eVar 0) (op2 (eC c_FINAL) (eC (.int 1)) addD) modD) aNil)))
    (sSeq (sSet 3 (op2 (eC c_MOST_DRAFT) (eC (.int 1)) addD))
    (sSeq (sSet 4 (eIf (op2b (eVar 2) (eC c_FINAL) eqD) (eC .non) (opL (aCons (op2 (eC c_DRAFTS) (op2 (eVar 2) (eVar 3) divD) ixD) (aCons (op2 (eVar 2) (eVar 3) modD) aNil)) tupD)))
    (sRet (opL (aCons (op2 (op2 (eVar 1) (op2 (eC c_MOST) (eC (.int 1)) addD) divD) (op2 (eC c_MOST) (eC (.int 1)) addD) divD) (aCons (op2 (op2 (eVar 1) (op2 (eC c_MOST) (eC (.int 1)) addD) divD) (op2 (eC c_MOST) (eC (.int 1)) addD) modD) (aCons (op2 (eVar 1) (op2 (eC c_MOST) (eC (.int 1)) addD) modD) (aCons (eVar 4) aNil)))) tupD)))))
def s_make_of : List D → R D := fnS 5 1 w_make_of
abbrev t_make_of : Stmt := topS 22
theorem n_make_of : FnScope ["rank", "rest", "own", "many", "draft"] ["rank"] (defScope t_make_of) := ⟨rfl, rfl, rfl, by decide +kernel, rfl, by decide +kernel, by decide +kernel⟩
theorem d_make_of {G : Gx} [Calm G] (T : Tx G) : FnS G 1 "make_of" s_make_of := by
  obtain ⟨a, fd, hF, hm, hb⟩ := T.d_make_of
  have h := fn_defP (N := ["rank", "rest", "own", "many", "draft"]) (k := 0) (f := w_make_of) hF n_make_of hm hb fun cdv _ A outer s H E B O tk =>
    (ss_cons (s_par 1 2 O (a_cons (e_div (PE.o (e_var 0)) (PE.o (e_add O (PE.o (e_gc O T.g_FINAL)) (PE.o e_int)))) (a_cons (e_mod (PE.o (e_var 0)) (PE.o (e_add O (PE.o (e_gc O T.g_FINAL)) (PE.o e_int)))) a_nil))) (ss_cons (s_set 3 O (e_add O (PE.o (e_gc O T.g_MOST_DRAFT)) (PE.o e_int))) (ss_cons (s_set 4 O (e_if (t_cmp O c_eq (PE.o (e_var 2)) (PE.o (e_gc O T.g_FINAL))) e_non (e_tup (a_cons (e_ix O (PE.o (e_gc O T.g_DRAFTS)) (PE.o (e_div (PE.o (e_var 2)) (PE.o (e_var 3))))) (a_cons (e_mod (PE.o (e_var 2)) (PE.o (e_var 3))) a_nil))))) (ss_one (s_ret (e_tup (a_cons (e_div (PE.o (e_div (PE.o (e_var 1)) (PE.o (e_add O (PE.o (e_gc O T.g_MOST)) (PE.o e_int))))) (PE.o (e_add O (PE.o (e_gc O T.g_MOST)) (PE.o e_int)))) (a_cons (e_mod (PE.o (e_div (PE.o (e_var 1)) (PE.o (e_add O (PE.o (e_gc O T.g_MOST)) (PE.o e_int))))) (PE.o (e_add O (PE.o (e_gc O T.g_MOST)) (PE.o e_int)))) (a_cons (e_mod (PE.o (e_var 1)) (PE.o (e_add O (PE.o (e_gc O T.g_MOST)) (PE.o e_int)))) (a_cons (e_var 4) a_nil))))))))))
  exact ⟨_, h⟩
def w_is_span : En → R Out :=
    (sSeq (sSet 1 (eAnd (op1 (eVar 0) (isiD isTup)) (eAnd (op2 (op1 (eVar 0) lenD) (eC (.int 2)) (bD eqD)) (op1 (fzL (lcS (opI (eVar 0) itD) [2] (gN 2) qYes (opL (aCons (eVar 2) aNil) s_is_make))) allD))))
    (sRet (eAnd (eVar 1) (op2 (opL (aCons (op2 (eVar 0) (eC (.int 0)) ixD) aNil) s_rank_of) (opL (aCons (op2 (eVar 0) (eC (.int 1)) ixD) aNil) s_rank_of) (bD (ordD .le))))))
def s_is_span : List D → R D := fnS 3 1 w_is_span
abbrev t_is_span : Stmt := topS 24
theorem n_is_span : FnScope ["thing", "good", "make"] ["thing"] (defScope t_is_span) := ⟨rfl, rfl, rfl, by decide +kernel, rfl, by decide +kernel, by decide +kernel⟩
theorem d_is_span {G : Gx} [Calm G] (T : Tx G) : FnS G 4 "is_span" s_is_span := by
  obtain ⟨a, fd, hF, hm, hb⟩ := T.d_is_span
  have h := fn_defP (N := ["thing", "good", "make"]) (k := 3) (f := w_is_span) hF n_is_span hm hb fun cdv _ A outer s H E B O tk =>
    (ss_cons (s_set 1 O (e_and O (e_isi O k_tuple T.b_isinstance T.b_tuple (PE.o (e_var 0))) (e_and O (e_cmp O c_eq (PE.o (e_b1 O b_len T.b_len (PE.o (e_var 0)))) (PE.o e_int)) (e_one (e_b1 O b_all T.b_all (PE.o (PE.fz (f_lc (own := [("make", 2)]) O (i_seq O (e_var 0)) (blkOk_by (N := ["thing", "good", "make"]) (sc := defScope t_is_span) (by decide +kernel)) (fun _ _ _ _ _ => (g_name 2 ((OkX.blk O _ _ _ _ _)).nd)) (fun _ _ _ _ _ => ts_nil) (fun _ _ _ _ _ => (e_call (OkX.blk O _ _ _ _ _) (d_is_make T) (by decide) (a_cons (e_var 2) a_nil))))))))))) (ss_one (s_ret (e_and O (e_var 1) (e_one (e_cmp O c_le (PE.o (e_call O (d_rank_of T) (by decide) (a_cons (e_ix O (PE.o (e_var 0)) (PE.o e_int)) a_nil))) (PE.o (e_call O (d_rank_of T) (by decide) (a_cons (e_ix O (PE.o (e_var 0)) (PE.o e_int)) a_nil)))))))))
  exact ⟨_, h⟩
def w_is_range : En → R Out :=
    (sSeq (sIf (qOr (qNot (opT (op1 (eVar 0) (isiD isTup)))) (qNot (opT (op1 (fzL (lcS (opI (eVar 0) itD) [1] (gN 1) qYes (opL (aCons (eVar 1) aNil) s_is_span))) allD)))) (sRet (eC (.bl false))) sNx)
    (sRet (op1 (fzL (lcS (opI2 (eSl (eVar 0) noO (soO (op1 (eC (.int 1)) negD))) (eSl (eVar 0) (soO (eC (.int 1))) noO) zipD) [2, 3] (gT 2 [gN 2, gN 3]) qYes (op2 (op2 (opL (aCons (op2 (eVar 2) (eC (.int 1)) ixD) aNil) s_rank_of) (eC (.int 1)) addD) (opL (aCons (op2 (eVar 3) (eC (.int 0)) ixD) aNil) s_rank_of) (bD (ordD .lt))))) allD)))
def s_is_range : List D → R D := fnS 4 1 w_is_range
abbrev t_is_range : Stmt := topS 25
theorem n_is_range : FnScope ["thing", "span", "one", "other"] ["thing"] (defScope t_is_range) := ⟨rfl, rfl, rfl, by decide +kernel, rfl, by decide +kernel, by decide +kernel⟩
theorem d_is_range {G : Gx} [Calm G] (T : Tx G) : FnS G 5 "is_range" s_is_range := by
  obtain ⟨a, fd, hF, hm, hb⟩ := T.d_is_range
  have h := fn_defP (N := ["thing", "span", "one", "other"]) (k := 4) (f := w_is_range) hF n_is_range hm hb fun cdv _ A outer s H E B O tk =>
    (ss_cons (s_if (t_w (w_or (t_not (t_val O (PE.o (e_isi O k_tuple T.b_isinstance T.b_tuple (PE.o (e_var 0)))))) (w_or1 (t_not (t_val O (PE.o (e_b1 O b_all T.b_all (PE.o (PE.fz (f_lc (own := [("span", 1)]) O (i_seq O (e_var 0)) (blkOk_by (N := ["thing", "span", "one", "other"]) (sc := defScope t_is_range) (by decide +kernel)) (fun _ _ _ _ _ => (g_name 1 ((OkX.blk O _ _ _ _ _)).nd)) (fun _ _ _ _ _ => ts_nil) (fun _ _ _ _ _ => (e_call (OkX.blk O _ _ _ _ _) (d_is_span T) (by decide) (a_cons (e_var 1) a_nil))))))))))))) (ss_one (s_ret e_bl)) ss_nil) (ss_one (s_ret (e_b1 O b_all T.b_all (PE.o (PE.fz (f_lc (own := [("one", 2), ("other", 3)]) O (i_zip O T.b_zip (e_slice O (PE.o (e_var 0)) o_none (o_some (PE.o (e_neg (PE.o e_int))))) (e_slice O (PE.o (e_var 0)) (o_some (PE.o e_int)) o_none)) (blkOk_by (N := ["thing", "span", "one", "other"]) (sc := defScope t_is_range) (by decide +kernel)) (fun _ _ _ _ _ => (g_tup (OkX.blk O _ _ _ _ _) (gs_cons 2 (gs_cons 3 (gs_nil (js := [2, 3])) ((OkX.blk O _ _ _ _ _)).nd) ((OkX.blk O _ _ _ _ _)).nd))) (fun _ _ _ _ _ => ts_nil) (fun _ _ _ _ _ => (e_cmp (OkX.blk O _ _ _ _ _) c_lt (PE.o (e_add (OkX.blk O _ _ _ _ _) (PE.o (e_call (OkX.blk O _ _ _ _ _) (d_rank_of T) (by decide) (a_cons (e_ix (OkX.blk O _ _ _ _ _) (PE.o (e_var 2)) (PE.o e_int)) a_nil))) (PE.o e_int))) (PE.o (e_call (OkX.blk O _ _ _ _ _) (d_rank_of T) (by decide) (a_cons (e_ix (OkX.blk O _ _ _ _ _) (PE.o (e_var 3)) (PE.o e_int)) a_nil))))))))))))
  exact ⟨_, h⟩
def w_need_range : En → R Out :=
    (sIf (qNot (opT (opL (aCons (eVar 0) aNil) s_is_range))) (sExc "BadRange") sNx)
def s_need_range : List D → R D := fnS 1 1 w_need_range
abbrev t_need_range : Stmt := topS 26
theorem n_need_range : FnScope ["some"] ["some"] (defScope t_need_range) := ⟨rfl, rfl, rfl, by decide +kernel, rfl, by decide +kernel, by decide +kernel⟩
theorem d_need_range {G : Gx} [Calm G] (T : Tx G) : FnS G 6 "need_range" s_need_range := by
  obtain ⟨a, fd, hF, hm, hb⟩ := T.d_need_range
  have h := fn_defP (N := ["some"]) (k := 5) (f := w_need_range) hF n_need_range hm hb fun cdv _ A outer s H E B O tk =>
    (ss_one (s_if (t_not (t_val O (PE.o (e_call O (d_is_range T) (by decide) (a_cons (e_var 0) a_nil))))) (ss_one (s_raises (c := "BadRange") O tk T.c_BadRange)) ss_nil))
  exact ⟨_, h⟩
def w_ranked : En → R Out :=
    (sRet (fzL (lcS (opI (eVar 0) itD) [1, 2] (gT 2 [gN 1, gN 2]) qYes (opL (aCons (opL (aCons (eVar 1) aNil) s_rank_of) (aCons (opL (aCons (eVar 2) aNil) s_rank_of) aNil)) tupD))))
def s_ranked : List D → R D := fnS 3 1 w_ranked
abbrev t_ranked : Stmt := topS 27
theorem n_ranked : FnScope ["some", "low", "high"] ["some"] (defScope t_ranked) := ⟨rfl, rfl, rfl, by decide +kernel, rfl, by decide +kernel, by decide +kernel⟩
theorem d_ranked {G : Gx} [Calm G] (T : Tx G) : FnS G 2 "ranked" s_ranked := by
  obtain ⟨a, fd, hF, hm, hb⟩ := T.d_ranked
  have h := fn_defP (N := ["some", "low", "high"]) (k := 1) (f := w_ranked) hF n_ranked hm hb fun cdv _ A outer s H E B O tk =>
    (ss_one (s_ret (PE.fz (f_lc (own := [("low", 1), ("high", 2)]) O (i_seq O (e_var 0)) (blkOk_by (N := ["some", "low", "high"]) (sc := defScope t_ranked) (by decide +kernel)) (fun _ _ _ _ _ => (g_tup (OkX.blk O _ _ _ _ _) (gs_cons 1 (gs_cons 2 (gs_nil (js := [1, 2])) ((OkX.blk O _ _ _ _ _)).nd) ((OkX.blk O _ _ _ _ _)).nd))) (fun _ _ _ _ _ => ts_nil) (fun _ _ _ _ _ => (e_tup (a_cons (e_call (OkX.blk O _ _ _ _ _) (d_rank_of T) (by decide) (a_cons (e_var 1) a_nil)) (a_cons (e_call (OkX.blk O _ _ _ _ _) (d_rank_of T) (by decide) (a_cons (e_var 2) a_nil)) a_nil))))))))
  exact ⟨_, h⟩
def b_tidied_1 : En → R Out :=
    (sIf (qAnd (op2b (eOwn 1) (fzL (frL aNil lstL)) neD) (op2b (eVar 2) (op2 (op2 (op2 (eOwn 1) (op1 (eC (.int 1)) negD) ixD) (eC (.int 1)) ixD) (eC (.int 1)) addD) (ordD .le))) (sPut 1 (op1 (eC (.int 1)) negD) (opL (aCons (op2 (op2 (eOwn 1) (op1 (eC (.int 1)) negD) ixD) (eC (.int 0)) ixD) (aCons (op2 (op2 (op2 (eOwn 1) (op1 (eC (.int 1)) negD) ixD) (eC (.int 1)) ixD) (eVar 3) maxD2) aNil)) tupD)) (sApp 1 (opL (aCons (eVar 2) (aCons (eVar 3) aNil)) tupD)))
def w_tidied : En → R Out :=
    (sSeq (sOwn 1 (frL aNil lstL))
    (sSeq (sFor (opI (fzL (opF (eVar 0) srtD)) itD) (gT 2 [gN 2, gN 3]) b_tidied_1)
    (sFz 1 (sRet (op1 (fzL (lcS (opI (eVar 1) itD) [2, 3] (gT 2 [gN 2, gN 3]) qYes (opL (aCons (opL (aCons (eVar 2) aNil) s_make_of) (aCons (opL (aCons (eVar 3) aNil) s_make_of) aNil)) tupD))) tupleD)))))
def s_tidied : List D → R D := fnS 4 1 w_tidied
abbrev t_tidied : Stmt := topS 28
theorem n_tidied : FnScope ["pairs", "found", "low", "high"] ["pairs"] (defScope t_tidied) := ⟨rfl, rfl, rfl, by decide +kernel, rfl, by decide +kernel, by decide +kernel⟩
theorem d_tidied {G : Gx} [Calm G] (T : Tx G) : FnS G 2 "tidied" s_tidied := by
  obtain ⟨a, fd, hF, hm, hb⟩ := T.d_tidied
  have h := fn_defP (N := ["pairs", "found", "low", "high"]) (k := 1) (f := w_tidied) hF n_tidied hm hb fun cdv _ A outer s H E B O tk =>
    (ss_cons (s_own 1 O (f_lst a_nil)) (ss_cons (s_for O (passes_of rfl) (i_seq O (PE.fz (f_srt O T.b_sorted (PE.o (e_var 0))))) (g_tup O (gs_cons 2 (gs_cons 3 (gs_nil (js := [2, 3])) (O).nd) (O).nd)) (ss_one (s_if (t_w (w_and (t_cmp O c_ne (o_var 1) (PE.o (PE.fz (f_lst a_nil)))) (w_and1 (t_cmp O c_le (PE.o (e_var 2)) (PE.o (e_add O (PE.o (e_ix O (PE.o (e_ix O (o_var 1) (PE.o (e_neg (PE.o e_int))))) (PE.o e_int))) (PE.o e_int))))))) (ss_one (s_put 1 (e_tup (a_cons (e_ix O (PE.o (e_ix O (o_var 1) (PE.o (e_neg (PE.o e_int))))) (PE.o e_int)) (a_cons (e_b2 O b_max2 T.b_max (PE.o (e_ix O (PE.o (e_ix O (o_var 1) (PE.o (e_neg (PE.o e_int))))) (PE.o e_int))) (PE.o (e_var 3))) a_nil))) (PE.o (e_neg (PE.o e_int))))) (ss_one (s_append 1 (e_tup (a_cons (e_var 2) (a_cons (e_var 3) a_nil)))))))) (ss_fz 1 (ss_one (s_ret (e_t1 O b_tuple T.b_tuple (PE.o (PE.fz (f_lc (own := [("low", 2), ("high", 3)]) O (i_seq O (e_var 1)) (blkOk_by (N := ["pairs", "found", "low", "high"]) (sc := defScope t_tidied) (by decide +kernel)) (fun _ _ _ _ _ => (g_tup (OkX.blk O _ _ _ _ _) (gs_cons 2 (gs_cons 3 (gs_nil (js := [2, 3])) ((OkX.blk O _ _ _ _ _)).nd) ((OkX.blk O _ _ _ _ _)).nd))) (fun _ _ _ _ _ => ts_nil) (fun _ _ _ _ _ => (e_tup (a_cons (e_call (OkX.blk O _ _ _ _ _) (d_make_of T) (by decide) (a_cons (e_var 2) a_nil)) (a_cons (e_call (OkX.blk O _ _ _ _ _) (d_make_of T) (by decide) (a_cons (e_var 3) a_nil)) a_nil)))))))))))))
  exact ⟨_, h⟩
def w_every : En → R Out :=
    (sRet (opL (aCons (fzL (frL (aCons (opL (aCons (eC (.int 0)) (aCons (op2 (eC c_MANY) (eC (.int 1)) subD) aNil)) tupD) aNil) lstL)) aNil) s_tidied))
def s_every : List D → R D := fnS 0 0 w_every
abbrev t_every : Stmt := topS 29
theorem n_every : FnScope [] [] (defScope t_every) := ⟨rfl, rfl, rfl, by decide +kernel, rfl, by decide +kernel, by decide +kernel⟩
theorem d_every {G : Gx} [Calm G] (T : Tx G) : FnS G 3 "every" s_every := by
  obtain ⟨a, fd, hF, hm, hb⟩ := T.d_every
  have h := fn_defP (N := []) (k := 2) (f := w_every) hF n_every hm hb fun cdv _ A outer s H E B O tk =>
    (ss_one (s_ret (e_call O (d_tidied T) (by decide) (a_cons (PE.fz (f_lst (a_cons (e_tup (a_cons e_int (a_cons (e_sub (PE.o (e_gc O T.g_MANY)) (PE.o e_int)) a_nil))) a_nil))) a_nil))))
  exact ⟨_, h⟩
def w_need_two : En → R Out :=
    (sSeq (sDrop (opL (aCons (eVar 0) aNil) s_need_range))
    (sDrop (opL (aCons (eVar 1) aNil) s_need_range)))
def s_need_two : List D → R D := fnS 2 2 w_need_two
abbrev t_need_two : Stmt := topS 30
theorem n_need_two : FnScope ["one", "other"] ["one", "other"] (defScope t_need_two) := ⟨rfl, rfl, rfl, by decide +kernel, rfl, by decide +kernel, by decide +kernel⟩
theorem d_need_two {G : Gx} [Calm G] (T : Tx G) : FnS G 7 "need_two" s_need_two := by
  obtain ⟨a, fd, hF, hm, hb⟩ := T.d_need_two
  have h := fn_defP (N := ["one", "other"]) (k := 6) (f := w_need_two) hF n_need_two hm hb fun cdv _ A outer s H E B O tk =>
    (ss_cons (s_expr (e_call O (d_need_range T) (by decide) (a_cons (e_var 0) a_nil))) (ss_one (s_expr (e_call O (d_need_range T) (by decide) (a_cons (e_var 1) a_nil)))))
  exact ⟨_, h⟩
def b_met_of_1 : En → R Out :=
    (sIf (op2b (op2 (eVar 3) (eVar 5) maxD2) (op2 (eVar 4) (eVar 6) minD2) (ordD .le)) (sApp 2 (opL (aCons (op2 (eVar 3) (eVar 5) maxD2) (aCons (op2 (eVar 4) (eVar 6) minD2) aNil)) tupD)) sNx)
def b_met_of_2 : En → R Out :=
    (sFor (opI (opL (aCons (eVar 1) aNil) s_ranked) itD) (gT 2 [gN 5, gN 6]) b_met_of_1)
def w_met_of : En → R Out :=
    (sSeq (sOwn 2 (frL aNil lstL))
    (sSeq (sFor (opI (opL (aCons (eVar 0) aNil) s_ranked) itD) (gT 2 [gN 3, gN 4]) b_met_of_2)
    (sFz 2 (sRet (opL (aCons (eVar 2) aNil) s_tidied)))))
def s_met_of : List D → R D := fnS 7 2 w_met_of
abbrev t_met_of : Stmt := topS 31
theorem n_met_of : FnScope ["one", "other", "found", "low", "high", "first", "last"] ["one", "other"] (defScope t_met_of) := ⟨rfl, rfl, rfl, by decide +kernel, rfl, by decide +kernel, by decide +kernel⟩
theorem d_met_of {G : Gx} [Calm G] (T : Tx G) : FnS G 3 "met_of" s_met_of := by
  obtain ⟨a, fd, hF, hm, hb⟩ := T.d_met_of
  have h := fn_defP (N := ["one", "other", "found", "low", "high", "first", "last"]) (k := 2) (f := w_met_of) hF n_met_of hm hb fun cdv _ A outer s H E B O tk =>
    (ss_cons (s_own 2 O (f_lst a_nil)) (ss_cons (s_for O (passes_of rfl) (i_seq O (e_call O (d_ranked T) (by decide) (a_cons (e_var 0) a_nil))) (g_tup O (gs_cons 3 (gs_cons 4 (gs_nil (js := [3, 4])) (O).nd) (O).nd)) (ss_one (s_for O (passes_of rfl) (i_seq O (e_call O (d_ranked T) (by decide) (a_cons (e_var 1) a_nil))) (g_tup O (gs_cons 5 (gs_cons 6 (gs_nil (js := [5, 6])) (O).nd) (O).nd)) (ss_one (s_if (t_cmp O c_le (PE.o (e_b2 O b_max2 T.b_max (PE.o (e_var 3)) (PE.o (e_var 5)))) (PE.o (e_b2 O b_min2 T.b_min (PE.o (e_var 4)) (PE.o (e_var 6))))) (ss_one (s_append 2 (e_tup (a_cons (e_b2 O b_max2 T.b_max (PE.o (e_var 3)) (PE.o (e_var 5))) (a_cons (e_b2 O b_min2 T.b_min (PE.o (e_var 4)) (PE.o (e_var 6))) a_nil))))) ss_nil))))) (ss_fz 2 (ss_one (s_ret (e_call O (d_tidied T) (by decide) (a_cons (e_var 2) a_nil)))))))
  exact ⟨_, h⟩
def w_met : En → R Out :=
    (sSeq (sDrop (opL (aCons (eVar 0) (aCons (eVar 1) aNil)) s_need_two))
    (sRet (opL (aCons (eVar 0) (aCons (eVar 1) aNil)) s_met_of)))
def s_met : List D → R D := fnS 2 2 w_met
abbrev t_met : Stmt := topS 32
theorem n_met : FnScope ["one", "other"] ["one", "other"] (defScope t_met) := ⟨rfl, rfl, rfl, by decide +kernel, rfl, by decide +kernel, by decide +kernel⟩
theorem d_met {G : Gx} [Calm G] (T : Tx G) : FnS G 8 "met" s_met := by
  obtain ⟨a, fd, hF, hm, hb⟩ := T.d_met
  have h := fn_defP (N := ["one", "other"]) (k := 7) (f := w_met) hF n_met hm hb fun cdv _ A outer s H E B O tk =>
    (ss_cons (s_expr (e_call O (d_need_two T) (by decide) (a_cons (e_var 0) (a_cons (e_var 1) a_nil)))) (ss_one (s_ret (e_call O (d_met_of T) (by decide) (a_cons (e_var 0) (a_cons (e_var 1) a_nil))))))
  exact ⟨_, h⟩
def b_turned_out_of_1 : En → R Out :=
    (sSeq (sIf (op2b (eVar 3) (op2 (eVar 2) (eC (.int 1)) addD) (ordD .gt)) (sApp 1 (opL (aCons (op2 (eVar 2) (eC (.int 1)) addD) (aCons (op2 (eVar 3) (eC (.int 1)) subD) aNil)) tupD)) sNx)
    (sSet 2 (eVar 4)))
def w_turned_out_of : En → R Out :=
    (sSeq (sParO 1 2 (frL aNil lstL) (op1 (eC (.int 1)) negD))
    (sSeq (sFor (opI (opL (aCons (eVar 0) aNil) s_ranked) itD) (gT 2 [gN 3, gN 4]) b_turned_out_of_1)
    (sSeq (sIf (op2b (eVar 2) (op2 (eC c_MANY) (eC (.int 1)) subD) (ordD .lt)) (sApp 1 (opL (aCons (op2 (eVar 2) (eC (.int 1)) addD) (aCons (op2 (eC c_MANY) (eC (.int 1)) subD) aNil)) tupD)) sNx)
    (sFz 1 (sRet (opL (aCons (eVar 1) aNil) s_tidied))))))
def s_turned_out_of : List D → R D := fnS 5 1 w_turned_out_of
abbrev t_turned_out_of : Stmt := topS 33
theorem n_turned_out_of : FnScope ["some", "found", "last", "low", "high"] ["some"] (defScope t_turned_out_of) := ⟨rfl, rfl, rfl, by decide +kernel, rfl, by decide +kernel, by decide +kernel⟩
theorem d_turned_out_of {G : Gx} [Calm G] (T : Tx G) : FnS G 3 "turned_out_of" s_turned_out_of := by
  obtain ⟨a, fd, hF, hm, hb⟩ := T.d_turned_out_of
  have h := fn_defP (N := ["some", "found", "last", "low", "high"]) (k := 2) (f := w_turned_out_of) hF n_turned_out_of hm hb fun cdv _ A outer s H E B O tk =>
    (ss_cons (s_parO 1 2 O (f_lst a_nil) (e_neg (PE.o e_int))) (ss_cons (s_for O (passes_of rfl) (i_seq O (e_call O (d_ranked T) (by decide) (a_cons (e_var 0) a_nil))) (g_tup O (gs_cons 3 (gs_cons 4 (gs_nil (js := [3, 4])) (O).nd) (O).nd)) (ss_cons (s_if (t_cmp O c_gt (PE.o (e_var 3)) (PE.o (e_add O (PE.o (e_var 2)) (PE.o e_int)))) (ss_one (s_append 1 (e_tup (a_cons (e_add O (PE.o (e_var 2)) (PE.o e_int)) (a_cons (e_sub (PE.o (e_var 3)) (PE.o e_int)) a_nil))))) ss_nil) (ss_one (s_set 2 O (e_var 4))))) (ss_cons (s_if (t_cmp O c_lt (PE.o (e_var 2)) (PE.o (e_sub (PE.o (e_gc O T.g_MANY)) (PE.o e_int)))) (ss_one (s_append 1 (e_tup (a_cons (e_add O (PE.o (e_var 2)) (PE.o e_int)) (a_cons (e_sub (PE.o (e_gc O T.g_MANY)) (PE.o e_int)) a_nil))))) ss_nil) (ss_fz 1 (ss_one (s_ret (e_call O (d_tidied T) (by decide) (a_cons (e_var 1) a_nil))))))))
  exact ⟨_, h⟩
def w_turned_out : En → R Out :=
    (sSeq (sDrop (opL (aCons (eVar 0) aNil) s_need_range))
    (sRet (opL (aCons (eVar 0) aNil) s_turned_out_of)))
def s_turned_out : List D → R D := fnS 1 1 w_turned_out
abbrev t_turned_out : Stmt := topS 34
theorem n_turned_out : FnScope ["some"] ["some"] (defScope t_turned_out) := ⟨rfl, rfl, rfl, by decide +kernel, rfl, by decide +kernel, by decide +kernel⟩
theorem d_turned_out {G : Gx} [Calm G] (T : Tx G) : FnS G 7 "turned_out" s_turned_out := by
  obtain ⟨a, fd, hF, hm, hb⟩ := T.d_turned_out
  have h := fn_defP (N := ["some"]) (k := 6) (f := w_turned_out) hF n_turned_out hm hb fun cdv _ A outer s H E B O tk =>
    (ss_cons (s_expr (e_call O (d_need_range T) (by decide) (a_cons (e_var 0) a_nil))) (ss_one (s_ret (e_call O (d_turned_out_of T) (by decide) (a_cons (e_var 0) a_nil)))))
  exact ⟨_, h⟩
def w_has : En → R Out :=
    (sSeq (sSet 2 (opL (aCons (eVar 1) aNil) s_rank_of))
    (sRet (op1 (fzL (lcS (opI (opL (aCons (eVar 0) aNil) s_ranked) itD) [3, 4] (gT 2 [gN 3, gN 4]) qYes (eB (opCh (eVar 3) (eVar 2) (eVar 4) (ordD .le) (ordD .le))))) anyD)))
def s_has : List D → R D := fnS 5 2 w_has
abbrev t_has : Stmt := topS 35
theorem n_has : FnScope ["some", "make", "own", "low", "high"] ["some", "make"] (defScope t_has) := ⟨rfl, rfl, rfl, by decide +kernel, rfl, by decide +kernel, by decide +kernel⟩
theorem d_has {G : Gx} [Calm G] (T : Tx G) : FnS G 3 "has" s_has := by
  obtain ⟨a, fd, hF, hm, hb⟩ := T.d_has
  have h := fn_defP (N := ["some", "make", "own", "low", "high"]) (k := 2) (f := w_has) hF n_has hm hb fun cdv _ A outer s H E B O tk =>
    (ss_cons (s_set 2 O (e_call O (d_rank_of T) (by decide) (a_cons (e_var 1) a_nil))) (ss_one (s_ret (e_b1 O b_any T.b_any (PE.o (PE.fz (f_lc (own := [("low", 3), ("high", 4)]) O (i_seq O (e_call O (d_ranked T) (by decide) (a_cons (e_var 0) a_nil))) (blkOk_by (N := ["some", "make", "own", "low", "high"]) (sc := defScope t_has) (by decide +kernel)) (fun _ _ _ _ _ => (g_tup (OkX.blk O _ _ _ _ _) (gs_cons 3 (gs_cons 4 (gs_nil (js := [3, 4])) ((OkX.blk O _ _ _ _ _)).nd) ((OkX.blk O _ _ _ _ _)).nd))) (fun _ _ _ _ _ => ts_nil) (fun _ _ _ _ _ => (e_chain (OkX.blk O _ _ _ _ _) c_le c_le (PE.o (e_var 3)) (PE.o (e_var 2)) (PE.o (e_var 4)))))))))))
  exact ⟨_, h⟩
def w_is_word : En → R Out :=
    (sSeq (sIf (qOr (qNot (opT (op1 (eVar 0) (isiD isTup)))) (op2b (op1 (eVar 0) lenD) (eC (.int 3)) neD)) (sRet (eC (.bl false))) sNx)
    (sSeq (sIf (qOr (qNot (opT (op1 (op2 (eVar 0) (eC (.int 0)) ixD) (isiD isStr)))) (qNot (opT (op1 (op2 (eVar 0) (eC (.int 1)) ixD) (isiD isTup))))) (sRet (eC (.bl false))) sNx)
    (sSeq (sIf (op2b (op2 (eVar 0) (eC (.int 0)) ixD) (eC (.str ("*" : PySem.Str))) eqD) (sRet (eAnd (op2 (op2 (eVar 0) (eC (.int 1)) ixD) (opL aNil tupD) (bD eqD)) (op2 (op2 (eVar 0) (eC (.int 2)) ixD) (eC .non) (bD isND)))) sNx)
    (sSeq (sIf (qOr (op2b (op2 (eVar 0) (eC (.int 0)) ixD) (eC c_SIGNS) ninD) (qOr (qNot (opCh (eC (.int 1)) (op1 (op2 (eVar 0) (eC (.int 1)) ixD) lenD) (eC (.int 3)) (ordD .le) (ordD .le))) (qNot (opT (op1 (fzL (lcS (opI (op2 (eVar 0) (eC (.int 1)) ixD) itD) [1] (gN 1) qYes (opL (aCons (eVar 1) (aCons (eC (.int 0)) (aCons (eC c_MOST) aNil))) s_is_count))) allD))))) (sRet (eC (.bl false))) sNx)
    (sRet (eOr (op2 (op2 (eVar 0) (eC (.int 2)) ixD) (eC .non) (bD isND)) (eAnd (op2 (op1 (op2 (eVar 0) (eC (.int 1)) ixD) lenD) (eC (.int 3)) (bD eqD)) (opL (aCons (op2 (eVar 0) (eC (.int 2)) ixD) aNil) s_is_draft))))))))
def s_is_word : List D → R D := fnS 2 1 w_is_word
abbrev t_is_word : Stmt := topS 41
theorem n_is_word : FnScope ["thing", "one"] ["thing"] (defScope t_is_word) := ⟨rfl, rfl, rfl, by decide +kernel, rfl, by decide +kernel, by decide +kernel⟩
theorem d_is_word {G : Gx} [Calm G] (T : Tx G) : FnS G 3 "is_word" s_is_word := by
  obtain ⟨a, fd, hF, hm, hb⟩ := T.d_is_word
  have h := fn_defP (N := ["thing", "one"]) (k := 2) (f := w_is_word) hF n_is_word hm hb fun cdv _ A outer s H E B O tk =>
    (ss_cons (s_if (t_w (w_or (t_not (t_val O (PE.o (e_isi O k_tuple T.b_isinstance T.b_tuple (PE.o (e_var 0)))))) (w_or1 (t_cmp O c_ne (PE.o (e_b1 O b_len T.b_len (PE.o (e_var 0)))) (PE.o e_int))))) (ss_one (s_ret e_bl)) ss_nil) (ss_cons (s_if (t_w (w_or (t_not (t_val O (PE.o (e_isi O k_str T.b_isinstance T.b_str (PE.o (e_ix O (PE.o (e_var 0)) (PE.o e_int))))))) (w_or1 (t_not (t_val O (PE.o (e_isi O k_tuple T.b_isinstance T.b_tuple (PE.o (e_ix O (PE.o (e_var 0)) (PE.o e_int)))))))))) (ss_one (s_ret e_bl)) ss_nil) (ss_cons (s_if (t_cmp O c_eq (PE.o (e_ix O (PE.o (e_var 0)) (PE.o e_int))) (PE.o e_str)) (ss_one (s_ret (e_and O (e_cmp O c_eq (PE.o (e_ix O (PE.o (e_var 0)) (PE.o e_int))) (PE.o (e_tup a_nil))) (e_one (e_cmp O c_is (PE.o (e_ix O (PE.o (e_var 0)) (PE.o e_int))) (PE.o e_non)))))) ss_nil) (ss_cons (s_if (t_w (w_or (t_cmp O c_notin (PE.o (e_ix O (PE.o (e_var 0)) (PE.o e_int))) (PE.o (e_gc O T.g_SIGNS))) (w_or (t_not (t_chain O c_le c_le (PE.o e_int) (PE.o (e_b1 O b_len T.b_len (PE.o (e_ix O (PE.o (e_var 0)) (PE.o e_int))))) (PE.o e_int))) (w_or1 (t_not (t_val O (PE.o (e_b1 O b_all T.b_all (PE.o (PE.fz (f_lc (own := [("one", 1)]) O (i_seq O (e_ix O (PE.o (e_var 0)) (PE.o e_int))) (blkOk_by (N := ["thing", "one"]) (sc := defScope t_is_word) (by decide +kernel)) (fun _ _ _ _ _ => (g_name 1 ((OkX.blk O _ _ _ _ _)).nd)) (fun _ _ _ _ _ => ts_nil) (fun _ _ _ _ _ => (e_call (OkX.blk O _ _ _ _ _) (d_is_count T) (by decide) (a_cons (e_var 1) (a_cons e_int (a_cons (e_gc (OkX.blk O _ _ _ _ _) T.g_MOST) a_nil)))))))))))))))) (ss_one (s_ret e_bl)) ss_nil) (ss_one (s_ret (e_or O (e_cmp O c_is (PE.o (e_ix O (PE.o (e_var 0)) (PE.o e_int))) (PE.o e_non)) (e_one (e_and O (e_cmp O c_eq (PE.o (e_b1 O b_len T.b_len (PE.o (e_ix O (PE.o (e_var 0)) (PE.o e_int))))) (PE.o e_int)) (e_one (e_call O (d_is_draft T) (by decide) (a_cons (e_ix O (PE.o (e_var 0)) (PE.o e_int)) a_nil))))))))))))
  exact ⟨_, h⟩
def b_is_wish_1 : En → R Out :=
    (sIf (qOr (qNot (opT (op1 (eVar 1) (isiD isLst)))) (qOr (qNot (opCh (eC (.int 1)) (op1 (eVar 1) lenD) (eC c_MOST_WORDS) (ordD .le) (ordD .le))) (qNot (opT (op1 (fzL (lcS (opI (eVar 1) itD) [2] (gN 2) qYes (opL (aCons (eVar 2) aNil) s_is_word))) allD))))) (sRet (eC (.bl false))) sNx)
def w_is_wish : En → R Out :=
    (sSeq (sIf (qOr (qNot (opT (op1 (eVar 0) (isiD isLst)))) (qNot (opCh (eC (.int 1)) (op1 (eVar 0) lenD) (eC c_MOST_ROWS) (ordD .le) (ordD .le)))) (sRet (eC (.bl false))) sNx)
    (sSeq (sFor (opI (eVar 0) itD) (gN 1) b_is_wish_1)
    (sRet (eC (.bl true)))))
def s_is_wish : List D → R D := fnS 3 1 w_is_wish
abbrev t_is_wish : Stmt := topS 42
theorem n_is_wish : FnScope ["thing", "row", "word"] ["thing"] (defScope t_is_wish) := ⟨rfl, rfl, rfl, by decide +kernel, rfl, by decide +kernel, by decide +kernel⟩
theorem d_is_wish {G : Gx} [Calm G] (T : Tx G) : FnS G 4 "is_wish" s_is_wish := by
  obtain ⟨a, fd, hF, hm, hb⟩ := T.d_is_wish
  have h := fn_defP (N := ["thing", "row", "word"]) (k := 3) (f := w_is_wish) hF n_is_wish hm hb fun cdv _ A outer s H E B O tk =>
    (ss_cons (s_if (t_w (w_or (t_not (t_val O (PE.o (e_isi O k_list T.b_isinstance T.b_list (PE.o (e_var 0)))))) (w_or1 (t_not (t_chain O c_le c_le (PE.o e_int) (PE.o (e_b1 O b_len T.b_len (PE.o (e_var 0)))) (PE.o (e_gc O T.g_MOST_ROWS))))))) (ss_one (s_ret e_bl)) ss_nil) (ss_cons (s_for O (passes_of rfl) (i_seq O (e_var 0)) (g_name 1 (O).nd) (ss_one (s_if (t_w (w_or (t_not (t_val O (PE.o (e_isi O k_list T.b_isinstance T.b_list (PE.o (e_var 1)))))) (w_or (t_not (t_chain O c_le c_le (PE.o e_int) (PE.o (e_b1 O b_len T.b_len (PE.o (e_var 1)))) (PE.o (e_gc O T.g_MOST_WORDS)))) (w_or1 (t_not (t_val O (PE.o (e_b1 O b_all T.b_all (PE.o (PE.fz (f_lc (own := [("word", 2)]) O (i_seq O (e_var 1)) (blkOk_by (N := ["thing", "row", "word"]) (sc := defScope t_is_wish) (by decide +kernel)) (fun _ _ _ _ _ => (g_name 2 ((OkX.blk O _ _ _ _ _)).nd)) (fun _ _ _ _ _ => ts_nil) (fun _ _ _ _ _ => (e_call (OkX.blk O _ _ _ _ _) (d_is_word T) (by decide) (a_cons (e_var 2) a_nil)))))))))))))) (ss_one (s_ret e_bl)) ss_nil))) (ss_one (s_ret e_bl))))
  exact ⟨_, h⟩
def w_ends_of : En → R Out :=
    (sSeq (sIf (op2b (op1 (eVar 0) lenD) (eC (.int 3)) eqD) (sRet (opL (aCons (op2 (eVar 0) (opL (aCons (eVar 1) aNil) tupD) addD) (aCons (op2 (eVar 0) (opL (aCons (eVar 1) aNil) tupD) addD) aNil)) tupD)) sNx)
    (sSeq (sSet 2 (op2 (eC (.int 3)) (op1 (eVar 0) lenD) subD))
    (sRet (opL (aCons (op2 (op2 (eVar 0) (op2 (opL (aCons (eC (.int 0)) aNil) tupD) (eVar 2) mulTD) addD) (opL (aCons (eC c_LEAST) aNil) tupD) addD) (aCons (op2 (op2 (eVar 0) (op2 (opL (aCons (eC c_MOST) aNil) tupD) (eVar 2) mulTD) addD) (opL (aCons (eC .non) aNil) tupD) addD) aNil)) tupD))))
def s_ends_of : List D → R D := fnS 3 2 w_ends_of
abbrev t_ends_of : Stmt := topS 43
theorem n_ends_of : FnScope ["numbers", "draft", "lacking"] ["numbers", "draft"] (defScope t_ends_of) := ⟨rfl, rfl, rfl, by decide +kernel, rfl, by decide +kernel, by decide +kernel⟩
theorem d_ends_of {G : Gx} [Calm G] (T : Tx G) : FnS G 1 "ends_of" s_ends_of := by
  obtain ⟨a, fd, hF, hm, hb⟩ := T.d_ends_of
  have h := fn_defP (N := ["numbers", "draft", "lacking"]) (k := 0) (f := w_ends_of) hF n_ends_of hm hb fun cdv _ A outer s H E B O tk =>
    (ss_cons (s_if (t_cmp O c_eq (PE.o (e_b1 O b_len T.b_len (PE.o (e_var 0)))) (PE.o e_int)) (ss_one (s_ret (e_tup (a_cons (e_add O (PE.o (e_var 0)) (PE.o (e_tup (a_cons (e_var 1) a_nil)))) (a_cons (e_add O (PE.o (e_var 0)) (PE.o (e_tup (a_cons (e_var 1) a_nil)))) a_nil))))) ss_nil) (ss_cons (s_set 2 O (e_sub (PE.o e_int) (PE.o (e_b1 O b_len T.b_len (PE.o (e_var 0)))))) (ss_one (s_ret (e_tup (a_cons (e_add O (PE.o (e_add O (PE.o (e_var 0)) (PE.o (e_mulT O (PE.o (e_tup (a_cons e_int a_nil))) (PE.o (e_var 2)))))) (PE.o (e_tup (a_cons (e_gc O T.g_LEAST) a_nil)))) (a_cons (e_add O (PE.o (e_add O (PE.o (e_var 0)) (PE.o (e_mulT O (PE.o (e_tup (a_cons (e_gc O T.g_MOST) a_nil))) (PE.o (e_var 2)))))) (PE.o (e_tup (a_cons e_non a_nil)))) a_nil)))))))
  exact ⟨_, h⟩
def w_kept : En → R Out :=
    (sSeq (sIf (op2b (eVar 0) (eC (.str ("~" : PySem.Str))) eqD) (sRet (op2 (eC (.int 2)) (op1 (eVar 1) lenD) minD2)) sNx)
    (sSeq (sSet 2 (eC (.int 1)))
    (sSeq (whGo (qAnd (op2b (eVar 2) (op1 (eVar 1) lenD) (ordD .lt)) (op2b (op2 (eVar 1) (op2 (eVar 2) (eC (.int 1)) subD) ixD) (eC (.int 0)) eqD)) (sSet 2 (op2 (eVar 2) (eC (.int 1)) addD)) 100)
    (sRet (eVar 2)))))
def s_kept : List D → R D := fnS 3 2 w_kept
abbrev t_kept : Stmt := topS 44
theorem n_kept : FnScope ["sign", "numbers", "found"] ["sign", "numbers"] (defScope t_kept) := ⟨rfl, rfl, rfl, by decide +kernel, rfl, by decide +kernel, by decide +kernel⟩
theorem d_kept {G : Gx} [Calm G] (T : Tx G) : FnS G 1 "kept" s_kept := by
  obtain ⟨a, fd, hF, hm, hb⟩ := T.d_kept
  have h := fn_defP (N := ["sign", "numbers", "found"]) (k := 0) (f := w_kept) hF n_kept hm hb fun cdv _ A outer s H E B O tk =>
    (ss_cons (s_if (t_cmp O c_eq (PE.o (e_var 0)) (PE.o e_str)) (ss_one (s_ret (e_b2 O b_min2 T.b_min (PE.o e_int) (PE.o (e_b1 O b_len T.b_len (PE.o (e_var 1))))))) ss_nil) (ss_cons (s_set 2 O e_int) (ss_cons (s_while 100 (passes_of rfl) (t_w (w_and (t_cmp O c_lt (PE.o (e_var 2)) (PE.o (e_b1 O b_len T.b_len (PE.o (e_var 1))))) (w_and1 (t_cmp O c_eq (PE.o (e_ix O (PE.o (e_var 1)) (PE.o (e_sub (PE.o (e_var 2)) (PE.o e_int))))) (PE.o e_int))))) (ss_one (s_set 2 O (e_add O (PE.o (e_var 2)) (PE.o e_int))))) (ss_one (s_ret (e_var 2))))))
  exact ⟨_, h⟩
def w_last_of : En → R Out :=
    (sSeq (sSet 2 (eSl (eVar 1) noO (soO (opL (aCons (eVar 0) (aCons (eVar 1) aNil)) s_kept))))
    (sRet (op2 (op2 (eVar 2) (op2 (opL (aCons (eC c_MOST) aNil) tupD) (op2 (eC (.int 3)) (op1 (eVar 2) lenD) subD) mulTD) addD) (opL (aCons (eC .non) aNil) tupD) addD)))
def s_last_of : List D → R D := fnS 3 2 w_last_of
abbrev t_last_of : Stmt := topS 45
theorem n_last_of : FnScope ["sign", "numbers", "some"] ["sign", "numbers"] (defScope t_last_of) := ⟨rfl, rfl, rfl, by decide +kernel, rfl, by decide +kernel, by decide +kernel⟩
theorem d_last_of {G : Gx} [Calm G] (T : Tx G) : FnS G 2 "last_of" s_last_of := by
  obtain ⟨a, fd, hF, hm, hb⟩ := T.d_last_of
  have h := fn_defP (N := ["sign", "numbers", "some"]) (k := 1) (f := w_last_of) hF n_last_of hm hb fun cdv _ A outer s H E B O tk =>
    (ss_cons (s_set 2 O (e_slice O (PE.o (e_var 1)) o_none (o_some (PE.o (e_call O (d_kept T) (by decide) (a_cons (e_var 0) (a_cons (e_var 1) a_nil))))))) (ss_one (s_ret (e_add O (PE.o (e_add O (PE.o (e_var 2)) (PE.o (e_mulT O (PE.o (e_tup (a_cons (e_gc O T.g_MOST) a_nil))) (PE.o (e_sub (PE.o e_int) (PE.o (e_b1 O b_len T.b_len (PE.o (e_var 2)))))))))) (PE.o (e_tup (a_cons e_non a_nil)))))))
  exact ⟨_, h⟩
def w_word_range : En → R Out :=
    (sSeq (sAsg (eVar 0) (gT 3 [gN 1, gN 2, gN 3]))
    (sSeq (sIf (op2b (eVar 1) (eC (.str ("*" : PySem.Str))) eqD) (sRet (opL aNil s_every)) sNx)
    (sSeq (sAsg (opL (aCons (eVar 2) (aCons (eVar 3) aNil)) s_ends_of) (gT 2 [gN 4, gN 5]))
    (sSeq (sPar 6 7 (aCons (opL (aCons (eVar 4) aNil) s_rank_of) (aCons (opL (aCons (eVar 5) aNil) s_rank_of) aNil)))
    (sSeq (sIf (op2b (eVar 1) (eC (.str ("" : PySem.Str))) eqD) (sRet (opL (aCons (fzL (frL (aCons (opL (aCons (eVar 6) (aCons (eVar 7) aNil)) tupD) aNil) lstL)) aNil) s_tidied)) sNx)
    (sSeq (sIf (op2b (eVar 1) (eC (.str ("!" : PySem.Str))) eqD) (sRet (opL (aCons (opL (aCons (fzL (frL (aCons (opL (aCons (eVar 6) (aCons (eVar 7) aNil)) tupD) aNil) lstL)) aNil) s_tidied) aNil) s_turned_out)) sNx)
    (sSeq (sIf (op2b (eVar 1) (opL (aCons (eC (.str (">" : PySem.Str))) (aCons (eC (.str (">=" : PySem.Str))) aNil)) tupD) inD) (sSeq (sSet 8 (eIf (op2b (eVar 1) (eC (.str (">" : PySem.Str))) eqD) (op2 (eVar 7) (eC (.int 1)) addD) (eVar 6)))
    (sRet (eIf (op2b (eVar 8) (eC c_MANY) (ordD .lt)) (opL (aCons (fzL (frL (aCons (opL (aCons (eVar 8) (aCons (op2 (eC c_MANY) (eC (.int 1)) subD) aNil)) tupD) aNil) lstL)) aNil) s_tidied) (opL aNil tupD)))) sNx)
    (sSeq (sIf (op2b (eVar 1) (opL (aCons (eC (.str ("<" : PySem.Str))) (aCons (eC (.str ("<=" : PySem.Str))) aNil)) tupD) inD) (sSeq (sSet 9 (eIf (op2b (eVar 1) (eC (.str ("<" : PySem.Str))) eqD) (op2 (eVar 6) (eC (.int 1)) subD) (eVar 7)))
    (sRet (eIf (op2b (eVar 9) (eC (.int 0)) (ordD .ge)) (opL (aCons (fzL (frL (aCons (opL (aCons (eC (.int 0)) (aCons (eVar 9) aNil)) tupD) aNil) lstL)) aNil) s_tidied) (opL aNil tupD)))) sNx)
    (sRet (opL (aCons (fzL (frL (aCons (opL (aCons (eVar 6) (aCons (opL (aCons (opL (aCons (eVar 1) (aCons (eVar 2) aNil)) s_last_of) aNil) s_rank_of) aNil)) tupD) aNil) lstL)) aNil) s_tidied))))))))))
def s_word_range : List D → R D := fnS 10 1 w_word_range
abbrev t_word_range : Stmt := topS 46
theorem n_word_range : FnScope ["word", "sign", "numbers", "draft", "low", "high", "first", "last", "start", "stop"] ["word"] (defScope t_word_range) := ⟨rfl, rfl, rfl, by decide +kernel, rfl, by decide +kernel, by decide +kernel⟩
theorem d_word_range {G : Gx} [Calm G] (T : Tx G) : FnS G 8 "word_range" s_word_range := by
  obtain ⟨a, fd, hF, hm, hb⟩ := T.d_word_range
  have h := fn_defP (N := ["word", "sign", "numbers", "draft", "low", "high", "first", "last", "start", "stop"]) (k := 7) (f := w_word_range) hF n_word_range hm hb fun cdv _ A outer s H E B O tk =>
    (ss_cons (s_asg (e_var 0) (g_tup O (gs_cons 1 (gs_cons 2 (gs_cons 3 (gs_nil (js := [1, 2, 3])) (O).nd) (O).nd) (O).nd))) (ss_cons (s_if (t_cmp O c_eq (PE.o (e_var 1)) (PE.o e_str)) (ss_one (s_ret (e_call0 O (d_every T) (by decide)))) ss_nil) (ss_cons (s_asg (e_call O (d_ends_of T) (by decide) (a_cons (e_var 2) (a_cons (e_var 3) a_nil))) (g_tup O (gs_cons 4 (gs_cons 5 (gs_nil (js := [4, 5])) (O).nd) (O).nd))) (ss_cons (s_par 6 7 O (a_cons (e_call O (d_rank_of T) (by decide) (a_cons (e_var 4) a_nil)) (a_cons (e_call O (d_rank_of T) (by decide) (a_cons (e_var 5) a_nil)) a_nil))) (ss_cons (s_if (t_cmp O c_eq (PE.o (e_var 1)) (PE.o e_str)) (ss_one (s_ret (e_call O (d_tidied T) (by decide) (a_cons (PE.fz (f_lst (a_cons (e_tup (a_cons (e_var 6) (a_cons (e_var 7) a_nil))) a_nil))) a_nil)))) ss_nil) (ss_cons (s_if (t_cmp O c_eq (PE.o (e_var 1)) (PE.o e_str)) (ss_one (s_ret (e_call O (d_turned_out T) (by decide) (a_cons (e_call O (d_tidied T) (by decide) (a_cons (PE.fz (f_lst (a_cons (e_tup (a_cons (e_var 6) (a_cons (e_var 7) a_nil))) a_nil))) a_nil)) a_nil)))) ss_nil) (ss_cons (s_if (t_cmp O c_in (PE.o (e_var 1)) (PE.o (e_tup (a_cons e_str (a_cons e_str a_nil))))) (ss_cons (s_set 8 O (e_if (t_cmp O c_eq (PE.o (e_var 1)) (PE.o e_str)) (e_add O (PE.o (e_var 7)) (PE.o e_int)) (e_var 6))) (ss_one (s_ret (e_if (t_cmp O c_lt (PE.o (e_var 8)) (PE.o (e_gc O T.g_MANY))) (e_call O (d_tidied T) (by decide) (a_cons (PE.fz (f_lst (a_cons (e_tup (a_cons (e_var 8) (a_cons (e_sub (PE.o (e_gc O T.g_MANY)) (PE.o e_int)) a_nil))) a_nil))) a_nil)) (e_tup a_nil))))) ss_nil) (ss_cons (s_if (t_cmp O c_in (PE.o (e_var 1)) (PE.o (e_tup (a_cons e_str (a_cons e_str a_nil))))) (ss_cons (s_set 9 O (e_if (t_cmp O c_eq (PE.o (e_var 1)) (PE.o e_str)) (e_sub (PE.o (e_var 6)) (PE.o e_int)) (e_var 7))) (ss_one (s_ret (e_if (t_cmp O c_ge (PE.o (e_var 9)) (PE.o e_int)) (e_call O (d_tidied T) (by decide) (a_cons (PE.fz (f_lst (a_cons (e_tup (a_cons e_int (a_cons (e_var 9) a_nil))) a_nil))) a_nil)) (e_tup a_nil))))) ss_nil) (ss_one (s_ret (e_call O (d_tidied T) (by decide) (a_cons (PE.fz (f_lst (a_cons (e_tup (a_cons (e_var 6) (a_cons (e_call O (d_rank_of T) (by decide) (a_cons (e_call O (d_last_of T) (by decide) (a_cons (e_var 1) (a_cons (e_var 2) a_nil))) a_nil)) a_nil))) a_nil))) a_nil))))))))))))
  exact ⟨_, h⟩
def b_row_range_1 : En → R Out :=
    (sSet 1 (opL (aCons (eVar 1) (aCons (opL (aCons (eVar 2) aNil) s_word_range) aNil)) s_met))
def w_row_range : En → R Out :=
    (sSeq (sSet 1 (opL aNil s_every))
    (sSeq (sFor (opI (eVar 0) itD) (gN 2) b_row_range_1)
    (sRet (eVar 1))))
def s_row_range : List D → R D := fnS 3 1 w_row_range
abbrev t_row_range : Stmt := topS 47
theorem n_row_range : FnScope ["row", "found", "word"] ["row"] (defScope t_row_range) := ⟨rfl, rfl, rfl, by decide +kernel, rfl, by decide +kernel, by decide +kernel⟩
theorem d_row_range {G : Gx} [Calm G] (T : Tx G) : FnS G 9 "row_range" s_row_range := by
  obtain ⟨a, fd, hF, hm, hb⟩ := T.d_row_range
  have h := fn_defP (N := ["row", "found", "word"]) (k := 8) (f := w_row_range) hF n_row_range hm hb fun cdv _ A outer s H E B O tk =>
    (ss_cons (s_set 1 O (e_call0 O (d_every T) (by decide))) (ss_cons (s_for O (passes_of rfl) (i_seq O (e_var 0)) (g_name 2 (O).nd) (ss_one (s_set 1 O (e_call O (d_met T) (by decide) (a_cons (e_var 1) (a_cons (e_call O (d_word_range T) (by decide) (a_cons (e_var 2) a_nil)) a_nil)))))) (ss_one (s_ret (e_var 1)))))
  exact ⟨_, h⟩
def w_drafts_named : En → R Out :=
    (sRet (fzL (lcS (opI (eVar 0) itD) [1, 2, 3] (gT 3 [gN 1, gN 2, gN 3]) (op2b (eVar 3) (eC .non) isntD) (eVar 2))))
def s_drafts_named : List D → R D := fnS 4 1 w_drafts_named
abbrev t_drafts_named : Stmt := topS 48
theorem n_drafts_named : FnScope ["row", "sign", "numbers", "draft"] ["row"] (defScope t_drafts_named) := ⟨rfl, rfl, rfl, by decide +kernel, rfl, by decide +kernel, by decide +kernel⟩
theorem d_drafts_named {G : Gx} [Calm G] (T : Tx G) : FnS G 1 "drafts_named" s_drafts_named := by
  obtain ⟨a, fd, hF, hm, hb⟩ := T.d_drafts_named
  have h := fn_defP (N := ["row", "sign", "numbers", "draft"]) (k := 0) (f := w_drafts_named) hF n_drafts_named hm hb fun cdv _ A outer s H E B O tk =>
    (ss_one (s_ret (PE.fz (f_lc (own := [("sign", 1), ("numbers", 2), ("draft", 3)]) O (i_seq O (e_var 0)) (blkOk_by (N := ["row", "sign", "numbers", "draft"]) (sc := defScope t_drafts_named) (by decide +kernel)) (fun _ _ _ _ _ => (g_tup (OkX.blk O _ _ _ _ _) (gs_cons 1 (gs_cons 2 (gs_cons 3 (gs_nil (js := [1, 2, 3])) ((OkX.blk O _ _ _ _ _)).nd) ((OkX.blk O _ _ _ _ _)).nd) ((OkX.blk O _ _ _ _ _)).nd))) (fun _ _ _ _ _ => (ts_one (t_cmp (OkX.blk O _ _ _ _ _) c_isnt (PE.o (e_var 3)) (PE.o e_non)))) (fun _ _ _ _ _ => (e_var 2))))))
  exact ⟨_, h⟩
def b_does_1 : En → R Out :=
    (sSeq (sSet 4 (eOr (op2 (op2 (eVar 1) (eC (.int 3)) ixD) (eC .non) (bD isND)) (eOr (eVar 2) (op2 (eSl (eVar 1) noO (soO (eC (.int 3)))) (opL (aCons (eVar 3) aNil) s_drafts_named) (bD inD)))))
    (sIf (qAnd (opT (eVar 4)) (opT (opL (aCons (opL (aCons (eVar 3) aNil) s_row_range) (aCons (eVar 1) aNil)) s_has))) (sRet (eC (.bl true))) sNx))
def w_does : En → R Out :=
    (sSeq (sFor (opI (eVar 0) itD) (gN 3) b_does_1)
    (sRet (eC (.bl false))))
def s_does : List D → R D := fnS 5 3 w_does
abbrev t_does : Stmt := topS 50
theorem n_does : FnScope ["wish", "make", "drafts", "row", "is_let"] ["wish", "make", "drafts"] (defScope t_does) := ⟨rfl, rfl, rfl, by decide +kernel, rfl, by decide +kernel, by decide +kernel⟩
theorem d_does {G : Gx} [Calm G] (T : Tx G) : FnS G 10 "does" s_does := by
  obtain ⟨a, fd, hF, hm, hb⟩ := T.d_does
  have h := fn_defP (N := ["wish", "make", "drafts", "row", "is_let"]) (k := 9) (f := w_does) hF n_does hm hb fun cdv _ A outer s H E B O tk =>
    (ss_cons (s_for O (passes_of rfl) (i_seq O (e_var 0)) (g_name 3 (O).nd) (ss_cons (s_set 4 O (e_or O (e_cmp O c_is (PE.o (e_ix O (PE.o (e_var 1)) (PE.o e_int))) (PE.o e_non)) (e_or O (e_var 2) (e_one (e_cmp O c_in (PE.o (e_slice O (PE.o (e_var 1)) o_none (o_some (PE.o e_int)))) (PE.o (e_call O (d_drafts_named T) (by decide) (a_cons (e_var 3) a_nil)))))))) (ss_one (s_if (t_w (w_and (t_val O (PE.o (e_var 4))) (w_and1 (t_val O (PE.o (e_call O (d_has T) (by decide) (a_cons (e_call O (d_row_range T) (by decide) (a_cons (e_var 3) a_nil)) (a_cons (e_var 1) a_nil)))))))) (ss_one (s_ret e_bl)) ss_nil)))) (ss_one (s_ret e_bl)))
  exact ⟨_, h⟩
def w_is_name : En → R Out :=
    (sRet (eAnd (op1 (eVar 0) (isiD isStr)) (eAnd (eB (opCh (eC (.int 1)) (op1 (eVar 0) lenD) (eC c_MOST_NAME) (ordD .le) (ordD .le))) (op1 (fzL (lcS (opI (eVar 0) itD) [1] (gN 1) qYes (op2 (eVar 1) (eC c_SMALL) (bD inD)))) allD))))
def s_is_name : List D → R D := fnS 2 1 w_is_name
abbrev t_is_name : Stmt := topS 56
theorem n_is_name : FnScope ["thing", "sign"] ["thing"] (defScope t_is_name) := ⟨rfl, rfl, rfl, by decide +kernel, rfl, by decide +kernel, by decide +kernel⟩
theorem d_is_name {G : Gx} [Calm G] (T : Tx G) : FnS G 1 "is_name" s_is_name := by
  obtain ⟨a, fd, hF, hm, hb⟩ := T.d_is_name
  have h := fn_defP (N := ["thing", "sign"]) (k := 0) (f := w_is_name) hF n_is_name hm hb fun cdv _ A outer s H E B O tk =>
    (ss_one (s_ret (e_and O (e_isi O k_str T.b_isinstance T.b_str (PE.o (e_var 0))) (e_and O (e_chain O c_le c_le (PE.o e_int) (PE.o (e_b1 O b_len T.b_len (PE.o (e_var 0)))) (PE.o (e_gc O T.g_MOST_NAME))) (e_one (e_b1 O b_all T.b_all (PE.o (PE.fz (f_lc (own := [("sign", 1)]) O (i_seq O (e_var 0)) (blkOk_by (N := ["thing", "sign"]) (sc := defScope t_is_name) (by decide +kernel)) (fun _ _ _ _ _ => (g_name 1 ((OkX.blk O _ _ _ _ _)).nd)) (fun _ _ _ _ _ => ts_nil) (fun _ _ _ _ _ => (e_cmp (OkX.blk O _ _ _ _ _) c_in (PE.o (e_var 1)) (PE.o (e_gc (OkX.blk O _ _ _ _ _) T.g_SMALL)))))))))))))
  exact ⟨_, h⟩
def b_are_wants_1 : En → R Out :=
    (sIf (qOr (qNot (opT (op1 (eVar 1) (isiD isTup)))) (qOr (op2b (op1 (eVar 1) lenD) (eC (.int 2)) neD) (qOr (qNot (opT (opL (aCons (op2 (eVar 1) (eC (.int 0)) ixD) aNil) s_is_name))) (qNot (opT (opL (aCons (op2 (eVar 1) (eC (.int 1)) ixD) aNil) s_is_wish)))))) (sRet (eC (.bl false))) sNx)
def w_are_wants : En → R Out :=
    (sSeq (sIf (qOr (qNot (opT (op1 (eVar 0) (isiD isLst)))) (op2b (op1 (eVar 0) lenD) (eC c_MOST_NAMES) (ordD .gt))) (sRet (eC (.bl false))) sNx)
    (sSeq (sFor (opI (eVar 0) itD) (gN 1) b_are_wants_1)
    (sRet (op2 (op1 (fzL (lcS (opI (eVar 0) itD) [2, 3] (gT 2 [gN 2, gN 3]) qYes (eVar 2))) lsetD) (op1 (eVar 0) lenD) (bD eqD)))))
def s_are_wants : List D → R D := fnS 4 1 w_are_wants
abbrev t_are_wants : Stmt := topS 57
theorem n_are_wants : FnScope ["thing", "want", "name", "wish"] ["thing"] (defScope t_are_wants) := ⟨rfl, rfl, rfl, by decide +kernel, rfl, by decide +kernel, by decide +kernel⟩
theorem d_are_wants {G : Gx} [Calm G] (T : Tx G) : FnS G 5 "are_wants" s_are_wants := by
  obtain ⟨a, fd, hF, hm, hb⟩ := T.d_are_wants
  have h := fn_defP (N := ["thing", "want", "name", "wish"]) (k := 4) (f := w_are_wants) hF n_are_wants hm hb fun cdv _ A outer s H E B O tk =>
    (ss_cons (s_if (t_w (w_or (t_not (t_val O (PE.o (e_isi O k_list T.b_isinstance T.b_list (PE.o (e_var 0)))))) (w_or1 (t_cmp O c_gt (PE.o (e_b1 O b_len T.b_len (PE.o (e_var 0)))) (PE.o (e_gc O T.g_MOST_NAMES)))))) (ss_one (s_ret e_bl)) ss_nil) (ss_cons (s_for O (passes_of rfl) (i_seq O (e_var 0)) (g_name 1 (O).nd) (ss_one (s_if (t_w (w_or (t_not (t_val O (PE.o (e_isi O k_tuple T.b_isinstance T.b_tuple (PE.o (e_var 1)))))) (w_or (t_cmp O c_ne (PE.o (e_b1 O b_len T.b_len (PE.o (e_var 1)))) (PE.o e_int)) (w_or (t_not (t_val O (PE.o (e_call O (d_is_name T) (by decide) (a_cons (e_ix O (PE.o (e_var 1)) (PE.o e_int)) a_nil))))) (w_or1 (t_not (t_val O (PE.o (e_call O (d_is_wish T) (by decide) (a_cons (e_ix O (PE.o (e_var 1)) (PE.o e_int)) a_nil)))))))))) (ss_one (s_ret e_bl)) ss_nil))) (ss_one (s_ret (e_cmp O c_eq (PE.o (e_lset O T.b_len T.b_set (PE.o (PE.fz (f_lc (own := [("name", 2), ("wish", 3)]) O (i_seq O (e_var 0)) (blkOk_by (N := ["thing", "want", "name", "wish"]) (sc := defScope t_are_wants) (by decide +kernel)) (fun _ _ _ _ _ => (g_tup (OkX.blk O _ _ _ _ _) (gs_cons 2 (gs_cons 3 (gs_nil (js := [2, 3])) ((OkX.blk O _ _ _ _ _)).nd) ((OkX.blk O _ _ _ _ _)).nd))) (fun _ _ _ _ _ => ts_nil) (fun _ _ _ _ _ => (e_var 2))))))) (PE.o (e_b1 O b_len T.b_len (PE.o (e_var 0)))))))))
  exact ⟨_, h⟩
def b_is_row_1 : En → R Out :=
    (sIf (qOr (qNot (opT (op1 (eVar 1) (isiD isTup)))) (qOr (op2b (op1 (eVar 1) lenD) (eC (.int 2)) neD) (qOr (qNot (opT (opL (aCons (op2 (eVar 1) (eC (.int 0)) ixD) aNil) s_is_make))) (qNot (opT (opL (aCons (op2 (eVar 1) (eC (.int 1)) ixD) aNil) s_are_wants)))))) (sRet (eC (.bl false))) sNx)
def w_is_row : En → R Out :=
    (sSeq (sIf (qOr (qNot (opT (op1 (eVar 0) (isiD isLst)))) (op2b (op1 (eVar 0) lenD) (eC c_MOST_MAKES) (ordD .gt))) (sRet (eC (.bl false))) sNx)
    (sSeq (sFor (opI (eVar 0) itD) (gN 1) b_is_row_1)
    (sRet (op1 (fzL (lcS (opI2 (eSl (eVar 0) noO (soO (op1 (eC (.int 1)) negD))) (eSl (eVar 0) (soO (eC (.int 1))) noO) zipD) [1, 2] (gT 2 [gN 1, gN 2]) qYes (op2 (opL (aCons (op2 (eVar 1) (eC (.int 0)) ixD) aNil) s_rank_of) (opL (aCons (op2 (eVar 2) (eC (.int 0)) ixD) aNil) s_rank_of) (bD (ordD .lt))))) allD))))
def s_is_row : List D → R D := fnS 3 1 w_is_row
abbrev t_is_row : Stmt := topS 58
theorem n_is_row : FnScope ["thing", "one", "other"] ["thing"] (defScope t_is_row) := ⟨rfl, rfl, rfl, by decide +kernel, rfl, by decide +kernel, by decide +kernel⟩
theorem d_is_row {G : Gx} [Calm G] (T : Tx G) : FnS G 6 "is_row" s_is_row := by
  obtain ⟨a, fd, hF, hm, hb⟩ := T.d_is_row
  have h := fn_defP (N := ["thing", "one", "other"]) (k := 5) (f := w_is_row) hF n_is_row hm hb fun cdv _ A outer s H E B O tk =>
    (ss_cons (s_if (t_w (w_or (t_not (t_val O (PE.o (e_isi O k_list T.b_isinstance T.b_list (PE.o (e_var 0)))))) (w_or1 (t_cmp O c_gt (PE.o (e_b1 O b_len T.b_len (PE.o (e_var 0)))) (PE.o (e_gc O T.g_MOST_MAKES)))))) (ss_one (s_ret e_bl)) ss_nil) (ss_cons (s_for O (passes_of rfl) (i_seq O (e_var 0)) (g_name 1 (O).nd) (ss_one (s_if (t_w (w_or (t_not (t_val O (PE.o (e_isi O k_tuple T.b_isinstance T.b_tuple (PE.o (e_var 1)))))) (w_or (t_cmp O c_ne (PE.o (e_b1 O b_len T.b_len (PE.o (e_var 1)))) (PE.o e_int)) (w_or (t_not (t_val O (PE.o (e_call O (d_is_make T) (by decide) (a_cons (e_ix O (PE.o (e_var 1)) (PE.o e_int)) a_nil))))) (w_or1 (t_not (t_val O (PE.o (e_call O (d_are_wants T) (by decide) (a_cons (e_ix O (PE.o (e_var 1)) (PE.o e_int)) a_nil)))))))))) (ss_one (s_ret e_bl)) ss_nil))) (ss_one (s_ret (e_b1 O b_all T.b_all (PE.o (PE.fz (f_lc (own := [("one", 1), ("other", 2)]) O (i_zip O T.b_zip (e_slice O (PE.o (e_var 0)) o_none (o_some (PE.o (e_neg (PE.o e_int))))) (e_slice O (PE.o (e_var 0)) (o_some (PE.o e_int)) o_none)) (blkOk_by (N := ["thing", "one", "other"]) (sc := defScope t_is_row) (by decide +kernel)) (fun _ _ _ _ _ => (g_tup (OkX.blk O _ _ _ _ _) (gs_cons 1 (gs_cons 2 (gs_nil (js := [1, 2])) ((OkX.blk O _ _ _ _ _)).nd) ((OkX.blk O _ _ _ _ _)).nd))) (fun _ _ _ _ _ => ts_nil) (fun _ _ _ _ _ => (e_cmp (OkX.blk O _ _ _ _ _) c_lt (PE.o (e_call (OkX.blk O _ _ _ _ _) (d_rank_of T) (by decide) (a_cons (e_ix (OkX.blk O _ _ _ _ _) (PE.o (e_var 1)) (PE.o e_int)) a_nil))) (PE.o (e_call (OkX.blk O _ _ _ _ _) (d_rank_of T) (by decide) (a_cons (e_ix (OkX.blk O _ _ _ _ _) (PE.o (e_var 2)) (PE.o e_int)) a_nil)))))))))))))
  exact ⟨_, h⟩
def w_need_shelf : En → R Out :=
    (sSeq (sSet 1 (eAnd (op1 (eVar 0) (isiD isDic)) (eAnd (op2 (op1 (eVar 0) lenD) (eC c_MOST_NAMES) (bD (ordD .le))) (op1 (fzL (lcS (opI (eVar 0) itK) [2] (gN 2) qYes (opL (aCons (eVar 2) aNil) s_is_name))) allD))))
    (sIf (qOr (qNot (opT (eVar 1))) (qNot (opT (op1 (fzL (lcS (opI (eVar 0) itK) [2] (gN 2) qYes (opL (aCons (op2 (eVar 0) (eVar 2) ixD) aNil) s_is_row))) allD)))) (sExc "BadShelf") sNx))
def s_need_shelf : List D → R D := fnS 3 1 w_need_shelf
abbrev t_need_shelf : Stmt := topS 59
theorem n_need_shelf : FnScope ["shelf", "good", "name"] ["shelf"] (defScope t_need_shelf) := ⟨rfl, rfl, rfl, by decide +kernel, rfl, by decide +kernel, by decide +kernel⟩
theorem d_need_shelf {G : Gx} [Calm G] (T : Tx G) : FnS G 7 "need_shelf" s_need_shelf := by
  obtain ⟨a, fd, hF, hm, hb⟩ := T.d_need_shelf
  have h := fn_defP (N := ["shelf", "good", "name"]) (k := 6) (f := w_need_shelf) hF n_need_shelf hm hb fun cdv _ A outer s H E B O tk =>
    (ss_cons (s_set 1 O (e_and O (e_isi O k_dict T.b_isinstance T.b_dict (PE.o (e_var 0))) (e_and O (e_cmp O c_le (PE.o (e_b1 O b_len T.b_len (PE.o (e_var 0)))) (PE.o (e_gc O T.g_MOST_NAMES))) (e_one (e_b1 O b_all T.b_all (PE.o (PE.fz (f_lc (own := [("name", 2)]) O (i_keys O (e_var 0)) (blkOk_by (N := ["shelf", "good", "name"]) (sc := defScope t_need_shelf) (by decide +kernel)) (fun _ _ _ _ _ => (g_name 2 ((OkX.blk O _ _ _ _ _)).nd)) (fun _ _ _ _ _ => ts_nil) (fun _ _ _ _ _ => (e_call (OkX.blk O _ _ _ _ _) (d_is_name T) (by decide) (a_cons (e_var 2) a_nil))))))))))) (ss_one (s_if (t_w (w_or (t_not (t_val O (PE.o (e_var 1)))) (w_or1 (t_not (t_val O (PE.o (e_b1 O b_all T.b_all (PE.o (PE.fz (f_lc (own := [("name", 2)]) O (i_keys O (e_var 0)) (blkOk_by (N := ["shelf", "good", "name"]) (sc := defScope t_need_shelf) (by decide +kernel)) (fun _ _ _ _ _ => (g_name 2 ((OkX.blk O _ _ _ _ _)).nd)) (fun _ _ _ _ _ => ts_nil) (fun _ _ _ _ _ => (e_call (OkX.blk O _ _ _ _ _) (d_is_row T) (by decide) (a_cons (e_ix (OkX.blk O _ _ _ _ _) (PE.o (e_var 0)) (PE.o (e_var 2))) a_nil))))))))))))) (ss_one (s_raises (c := "BadShelf") O tk T.c_BadShelf)) ss_nil)))
  exact ⟨_, h⟩
def w_look : En → R Out :=
    (sSeq (sDrop (opL (aCons (eVar 0) aNil) s_need_shelf))
    (sIf (qNot (opT (opL (aCons (eVar 1) aNil) s_are_wants))) (sExc "BadShelf") sNx))
def s_look : List D → R D := fnS 2 2 w_look
abbrev t_look : Stmt := topS 60
theorem n_look : FnScope ["shelf", "wants"] ["shelf", "wants"] (defScope t_look) := ⟨rfl, rfl, rfl, by decide +kernel, rfl, by decide +kernel, by decide +kernel⟩
theorem d_look {G : Gx} [Calm G] (T : Tx G) : FnS G 8 "look" s_look := by
  obtain ⟨a, fd, hF, hm, hb⟩ := T.d_look
  have h := fn_defP (N := ["shelf", "wants"]) (k := 7) (f := w_look) hF n_look hm hb fun cdv _ A outer s H E B O tk =>
    (ss_cons (s_expr (e_call O (d_need_shelf T) (by decide) (a_cons (e_var 0) a_nil))) (ss_one (s_if (t_not (t_val O (PE.o (e_call O (d_are_wants T) (by decide) (a_cons (e_var 1) a_nil))))) (ss_one (s_raises (c := "BadShelf") O tk T.c_BadShelf)) ss_nil)))
  exact ⟨_, h⟩
def b_needs_of_1 : En → R Out :=
    (sIf (op2b (eVar 3) (eVar 2) eqD) (sRet (eVar 4)) sNx)
def w_needs_of : En → R Out :=
    (sSeq (sFor (opI (op2 (eVar 0) (eVar 1) ixD) itD) (gT 2 [gN 3, gN 4]) b_needs_of_1)
    (sRet (fzL (frL aNil lstL))))
def s_needs_of : List D → R D := fnS 5 3 w_needs_of
abbrev t_needs_of : Stmt := topS 61
theorem n_needs_of : FnScope ["shelf", "name", "make", "own", "needs"] ["shelf", "name", "make"] (defScope t_needs_of) := ⟨rfl, rfl, rfl, by decide +kernel, rfl, by decide +kernel, by decide +kernel⟩
theorem d_needs_of {G : Gx} [Calm G] (T : Tx G) : FnS G 1 "needs_of" s_needs_of := by
  obtain ⟨a, fd, hF, hm, hb⟩ := T.d_needs_of
  have h := fn_defP (N := ["shelf", "name", "make", "own", "needs"]) (k := 0) (f := w_needs_of) hF n_needs_of hm hb fun cdv _ A outer s H E B O tk =>
    (ss_cons (s_for O (passes_of rfl) (i_seq O (e_ix O (PE.o (e_var 0)) (PE.o (e_var 1)))) (g_tup O (gs_cons 3 (gs_cons 4 (gs_nil (js := [3, 4])) (O).nd) (O).nd)) (ss_one (s_if (t_cmp O c_eq (PE.o (e_var 3)) (PE.o (e_var 2))) (ss_one (s_ret (e_var 4))) ss_nil))) (ss_one (s_ret (PE.fz (f_lst a_nil)))))
  exact ⟨_, h⟩
def w_holds : En → R Out :=
    (sRet (op1 (fzL (lcS (opI (eVar 1) itD) [3, 4] (gT 2 [gN 3, gN 4]) qYes (eAnd (op2 (eVar 3) (eVar 0) (bD inD)) (opL (aCons (eVar 4) (aCons (op2 (eVar 0) (eVar 3) ixD) (aCons (eVar 2) aNil))) s_does)))) allD))
def s_holds : List D → R D := fnS 5 3 w_holds
abbrev t_holds : Stmt := topS 62
theorem n_holds : FnScope ["some", "wants", "drafts", "name", "wish"] ["some", "wants", "drafts"] (defScope t_holds) := ⟨rfl, rfl, rfl, by decide +kernel, rfl, by decide +kernel, by decide +kernel⟩
theorem d_holds {G : Gx} [Calm G] (T : Tx G) : FnS G 11 "holds" s_holds := by
  obtain ⟨a, fd, hF, hm, hb⟩ := T.d_holds
  have h := fn_defP (N := ["some", "wants", "drafts", "name", "wish"]) (k := 10) (f := w_holds) hF n_holds hm hb fun cdv _ A outer s H E B O tk =>
    (ss_one (s_ret (e_b1 O b_all T.b_all (PE.o (PE.fz (f_lc (own := [("name", 3), ("wish", 4)]) O (i_seq O (e_var 1)) (blkOk_by (N := ["some", "wants", "drafts", "name", "wish"]) (sc := defScope t_holds) (by decide +kernel)) (fun _ _ _ _ _ => (g_tup (OkX.blk O _ _ _ _ _) (gs_cons 3 (gs_cons 4 (gs_nil (js := [3, 4])) ((OkX.blk O _ _ _ _ _)).nd) ((OkX.blk O _ _ _ _ _)).nd))) (fun _ _ _ _ _ => ts_nil) (fun _ _ _ _ _ => (e_and (OkX.blk O _ _ _ _ _) (e_cmp (OkX.blk O _ _ _ _ _) c_in (PE.o (e_var 3)) (PE.o (e_var 0))) (e_one (e_call (OkX.blk O _ _ _ _ _) (d_does T) (by decide) (a_cons (e_var 4) (a_cons (e_ix (OkX.blk O _ _ _ _ _) (PE.o (e_var 0)) (PE.o (e_var 3))) (a_cons (e_var 2) a_nil)))))))))))))
  exact ⟨_, h⟩
def b_is_set_1 : En → R Out :=
    (sIf (op2b (eVar 6) (eOwn 4) ninD) (sApp 4 (eVar 6)) sNx)
def w_is_set : En → R Out :=
    (sSeq (sIf (qNot (opT (opL (aCons (eVar 3) (aCons (eVar 1) (aCons (eVar 2) aNil))) s_holds))) (sRet (eC (.bl false))) sNx)
    (sSeq (sIf (qNot (opT (op1 (fzL (lcS (opI (eVar 3) itK) [6] (gN 6) qYes (opL (aCons (eVar 3) (aCons (opL (aCons (eVar 0) (aCons (eVar 6) (aCons (op2 (eVar 3) (eVar 6) ixD) aNil))) s_needs_of) (aCons (eVar 2) aNil))) s_holds))) allD))) (sRet (eC (.bl false))) sNx)
    (sSeq (sOwn 4 (lcS (opI (eVar 1) itD) [6, 7] (gT 2 [gN 6, gN 7]) qYes (eVar 6)))
    (sSeq (sSet 5 (eC (.int 0)))
    (sSeq (whGo (op2b (eVar 5) (op1 (eOwn 4) lenD) (ordD .lt)) (sSeq (sFor (opI (opL (aCons (eVar 0) (aCons (op2 (eOwn 4) (eVar 5) ixD) (aCons (op2 (eVar 3) (op2 (eOwn 4) (eVar 5) ixD) ixD) aNil))) s_needs_of) itD) (gT 2 [gN 6, gN 7]) b_is_set_1)
    (sSet 5 (op2 (eVar 5) (eC (.int 1)) addD))) 100)
    (sFz 4 (sRet (op2 (op1 (eOwn 4) srtT) (op1 (eVar 3) srtT) (bD eqD)))))))))
def s_is_set : List D → R D := fnS 8 4 w_is_set
abbrev t_is_set : Stmt := topS 63
theorem n_is_set : FnScope ["shelf", "wants", "drafts", "some", "found", "place", "name", "wish"] ["shelf", "wants", "drafts", "some"] (defScope t_is_set) := ⟨rfl, rfl, rfl, by decide +kernel, rfl, by decide +kernel, by decide +kernel⟩
theorem d_is_set {G : Gx} [Calm G] (T : Tx G) : FnS G 12 "is_set" s_is_set := by
  obtain ⟨a, fd, hF, hm, hb⟩ := T.d_is_set
  have h := fn_defP (N := ["shelf", "wants", "drafts", "some", "found", "place", "name", "wish"]) (k := 11) (f := w_is_set) hF n_is_set hm hb fun cdv _ A outer s H E B O tk =>
    (ss_cons (s_if (t_not (t_val O (PE.o (e_call O (d_holds T) (by decide) (a_cons (e_var 3) (a_cons (e_var 1) (a_cons (e_var 2) a_nil))))))) (ss_one (s_ret e_bl)) ss_nil) (ss_cons (s_if (t_not (t_val O (PE.o (e_b1 O b_all T.b_all (PE.o (PE.fz (f_lc (own := [("name", 6)]) O (i_keys O (e_var 3)) (blkOk_by (N := ["shelf", "wants", "drafts", "some", "found", "place", "name", "wish"]) (sc := defScope t_is_set) (by decide +kernel)) (fun _ _ _ _ _ => (g_name 6 ((OkX.blk O _ _ _ _ _)).nd)) (fun _ _ _ _ _ => ts_nil) (fun _ _ _ _ _ => (e_call (OkX.blk O _ _ _ _ _) (d_holds T) (by decide) (a_cons (e_var 3) (a_cons (e_call (OkX.blk O _ _ _ _ _) (d_needs_of T) (by decide) (a_cons (e_var 0) (a_cons (e_var 6) (a_cons (e_ix (OkX.blk O _ _ _ _ _) (PE.o (e_var 3)) (PE.o (e_var 6))) a_nil)))) (a_cons (e_var 2) a_nil)))))))))))) (ss_one (s_ret e_bl)) ss_nil) (ss_cons (s_ownLc 4 (own := [("name", 6), ("wish", 7)]) O (i_seq O (e_var 1)) (blkOk_by (N := ["shelf", "wants", "drafts", "some", "found", "place", "name", "wish"]) (sc := defScope t_is_set) (by decide +kernel)) (fun _ _ _ _ _ => (g_tup (OkX.blk O _ _ _ _ _) (gs_cons 6 (gs_cons 7 (gs_nil (js := [6, 7])) ((OkX.blk O _ _ _ _ _)).nd) ((OkX.blk O _ _ _ _ _)).nd))) (fun _ _ _ _ _ => ts_nil) (fun _ _ _ _ _ => (e_var 6)) (sw_true rfl rfl rfl (by decide +kernel))) (ss_cons (s_set 5 O e_int) (ss_cons (s_while 100 (passes_of rfl) (t_cmp O c_lt (PE.o (e_var 5)) (PE.o (e_b1 O b_len T.b_len (o_var 4)))) (ss_cons (s_for O (passes_of rfl) (i_seq O (e_call O (d_needs_of T) (by decide) (a_cons (e_var 0) (a_cons (e_ix O (o_var 4) (PE.o (e_var 5))) (a_cons (e_ix O (PE.o (e_var 3)) (PE.o (e_ix O (o_var 4) (PE.o (e_var 5))))) a_nil))))) (g_tup O (gs_cons 6 (gs_cons 7 (gs_nil (js := [6, 7])) (O).nd) (O).nd)) (ss_one (s_if (t_cmp O c_notin (PE.o (e_var 6)) (o_var 4)) (ss_one (s_append 4 (e_var 6))) ss_nil))) (ss_one (s_set 5 O (e_add O (PE.o (e_var 5)) (PE.o e_int)))))) (ss_fz 4 (ss_one (s_ret (e_cmp O c_eq (PE.o (e_b1 O b_sortedT T.b_sorted (o_var 4))) (PE.o (e_b1 O b_sortedT T.b_sorted (PE.o (e_var 3)))))))))))))
  exact ⟨_, h⟩
def w_with_one : En → R Out :=
    (sSeq (sOwnDc 3 (eVar 0))
    (sSeq (sPutK 3 (eVar 1) (eVar 2))
    (sFzD 3 (sRet (eVar 3)))))
def s_with_one : List D → R D := fnS 4 3 w_with_one
abbrev t_with_one : Stmt := topS 65
theorem n_with_one : FnScope ["some", "name", "make", "found"] ["some", "name", "make"] (defScope t_with_one) := ⟨rfl, rfl, rfl, by decide +kernel, rfl, by decide +kernel, by decide +kernel⟩
theorem d_with_one {G : Gx} [Calm G] (T : Tx G) : FnS G 1 "with_one" s_with_one := by
  obtain ⟨a, fd, hF, hm, hb⟩ := T.d_with_one
  have h := fn_defP (N := ["some", "name", "make", "found"]) (k := 0) (f := w_with_one) hF n_with_one hm hb fun cdv _ A outer s H E B O tk =>
    (ss_cons (s_ownDc 3 O T.b_dict (PE.o (e_var 0))) (ss_cons (s_putK 3 O (e_var 2) (e_var 1)) (ss_fzD 3 (ss_one (s_ret (e_var 3))))))
  exact ⟨_, h⟩
def b_sets_1 : En → R Out :=
    (sApp 5 (opL (aCons (eVar 6) (aCons (eVar 4) (aCons (eVar 7) aNil))) s_with_one))
def b_sets_2 : En → R Out :=
    (sSeq (sFor (opI (op1 (op2 (eVar 0) (eVar 4) ixD) revD) itD) (gT 2 [gN 7, gN 8]) b_sets_1)
    (sApp 5 (eVar 6)))
def b_sets_3 : En → R Out :=
    (sSeq (sOwn 5 (frL aNil lstL))
    (sSeq (sFor (opI (eVar 3) itD) (gN 6) b_sets_2)
    (sFz 5 (sSet 3 (eVar 5)))))
def w_sets : En → R Out :=
    (sSeq (sSet 3 (fzL (frL (aCons (eC (.dic [])) aNil) lstL)))
    (sSeq (sFor (opI (op1 (eVar 0) srtT) itD) (gN 4) b_sets_3)
    (sRet (fzL (lcS (opI (eVar 3) itD) [6] (gN 6) (opT (opL (aCons (eVar 0) (aCons (eVar 1) (aCons (eVar 2) (aCons (eVar 6) aNil)))) s_is_set)) (eVar 6))))))
def s_sets : List D → R D := fnS 9 3 w_sets
abbrev t_sets : Stmt := topS 64
theorem n_sets : FnScope ["shelf", "wants", "drafts", "found", "name", "longer", "some", "make", "needs"] ["shelf", "wants", "drafts"] (defScope t_sets) := ⟨rfl, rfl, rfl, by decide +kernel, rfl, by decide +kernel, by decide +kernel⟩
theorem d_sets {G : Gx} [Calm G] (T : Tx G) : FnS G 13 "sets" s_sets := by
  obtain ⟨a, fd, hF, hm, hb⟩ := T.d_sets
  have h := fn_defP (N := ["shelf", "wants", "drafts", "found", "name", "longer", "some", "make", "needs"]) (k := 12) (f := w_sets) hF n_sets hm hb fun cdv _ A outer s H E B O tk =>
    (ss_cons (s_set 3 O (PE.fz (f_lst (a_cons e_dict0 a_nil)))) (ss_cons (s_for O (passes_of rfl) (i_seq O (e_b1 O b_sortedT T.b_sorted (PE.o (e_var 0)))) (g_name 4 (O).nd) (ss_cons (s_own 5 O (f_lst a_nil)) (ss_cons (s_for O (passes_of rfl) (i_seq O (e_var 3)) (g_name 6 (O).nd) (ss_cons (s_for O (passes_of rfl) (i_seq O (e_rev O (PE.o (e_ix O (PE.o (e_var 0)) (PE.o (e_var 4)))))) (g_tup O (gs_cons 7 (gs_cons 8 (gs_nil (js := [7, 8])) (O).nd) (O).nd)) (ss_one (s_append 5 (e_call O (d_with_one T) (by decide) (a_cons (e_var 6) (a_cons (e_var 4) (a_cons (e_var 7) a_nil))))))) (ss_one (s_append 5 (e_var 6))))) (ss_fz 5 (ss_one (s_set 3 O (e_var 5))))))) (ss_one (s_ret (PE.fz (f_lc (own := [("some", 6)]) O (i_seq O (e_var 3)) (blkOk_by (N := ["shelf", "wants", "drafts", "found", "name", "longer", "some", "make", "needs"]) (sc := defScope t_sets) (by decide +kernel)) (fun _ _ _ _ _ => (g_name 6 ((OkX.blk O _ _ _ _ _)).nd)) (fun _ _ _ _ _ => (ts_one (t_val (OkX.blk O _ _ _ _ _) (PE.o (e_call (OkX.blk O _ _ _ _ _) (d_is_set T) (by decide) (a_cons (e_var 0) (a_cons (e_var 1) (a_cons (e_var 2) (a_cons (e_var 6) a_nil))))))))) (fun _ _ _ _ _ => (e_var 6))))))))
  exact ⟨_, h⟩
def w_chosen : En → R Out :=
    (sSeq (sDrop (opL (aCons (eVar 0) (aCons (eVar 1) aNil)) s_look))
    (sSeq (sSet 3 (opL (aCons (eVar 0) (aCons (eVar 1) (aCons (eVar 2) aNil))) s_sets))
    (sRet (eIf (op2b (eVar 3) (fzL (frL aNil lstL)) ne0D) (op2 (eVar 3) (eC (.int 0)) ixD) (eC .non)))))
def s_chosen : List D → R D := fnS 4 3 w_chosen
abbrev t_chosen : Stmt := topS 66
theorem n_chosen : FnScope ["shelf", "wants", "drafts", "found"] ["shelf", "wants", "drafts"] (defScope t_chosen) := ⟨rfl, rfl, rfl, by decide +kernel, rfl, by decide +kernel, by decide +kernel⟩
theorem d_chosen {G : Gx} [Calm G] (T : Tx G) : FnS G 14 "chosen" s_chosen := by
  obtain ⟨a, fd, hF, hm, hb⟩ := T.d_chosen
  have h := fn_defP (N := ["shelf", "wants", "drafts", "found"]) (k := 13) (f := w_chosen) hF n_chosen hm hb fun cdv _ A outer s H E B O tk =>
    (ss_cons (s_expr (e_call O (d_look T) (by decide) (a_cons (e_var 0) (a_cons (e_var 1) a_nil)))) (ss_cons (s_set 3 O (e_call O (d_sets T) (by decide) (a_cons (e_var 0) (a_cons (e_var 1) (a_cons (e_var 2) a_nil))))) (ss_one (s_ret (e_if (t_cmp O c_ne0 (PE.o (e_var 3)) (PE.o (PE.fz (f_lst a_nil)))) (e_ix O (PE.o (e_var 3)) (PE.o e_int)) e_non)))))
  exact ⟨_, h⟩
def w_need_lock : En → R Out :=
    (sSeq (sSet 1 (eAnd (op1 (eVar 0) (isiD isDic)) (op1 (fzL (lcS (opI (eVar 0) itK) [2] (gN 2) qYes (opL (aCons (eVar 2) aNil) s_is_name))) allD)))
    (sIf (qOr (qNot (opT (eVar 1))) (qNot (opT (op1 (fzL (lcS (opI (eVar 0) itK) [2] (gN 2) qYes (opL (aCons (op2 (eVar 0) (eVar 2) ixD) aNil) s_is_make))) allD)))) (sExc "BadShelf") sNx))
def s_need_lock : List D → R D := fnS 3 1 w_need_lock
abbrev t_need_lock : Stmt := topS 68
theorem n_need_lock : FnScope ["lock", "good", "name"] ["lock"] (defScope t_need_lock) := ⟨rfl, rfl, rfl, by decide +kernel, rfl, by decide +kernel, by decide +kernel⟩
theorem d_need_lock {G : Gx} [Calm G] (T : Tx G) : FnS G 4 "need_lock" s_need_lock := by
  obtain ⟨a, fd, hF, hm, hb⟩ := T.d_need_lock
  have h := fn_defP (N := ["lock", "good", "name"]) (k := 3) (f := w_need_lock) hF n_need_lock hm hb fun cdv _ A outer s H E B O tk =>
    (ss_cons (s_set 1 O (e_and O (e_isi O k_dict T.b_isinstance T.b_dict (PE.o (e_var 0))) (e_one (e_b1 O b_all T.b_all (PE.o (PE.fz (f_lc (own := [("name", 2)]) O (i_keys O (e_var 0)) (blkOk_by (N := ["lock", "good", "name"]) (sc := defScope t_need_lock) (by decide +kernel)) (fun _ _ _ _ _ => (g_name 2 ((OkX.blk O _ _ _ _ _)).nd)) (fun _ _ _ _ _ => ts_nil) (fun _ _ _ _ _ => (e_call (OkX.blk O _ _ _ _ _) (d_is_name T) (by decide) (a_cons (e_var 2) a_nil)))))))))) (ss_one (s_if (t_w (w_or (t_not (t_val O (PE.o (e_var 1)))) (w_or1 (t_not (t_val O (PE.o (e_b1 O b_all T.b_all (PE.o (PE.fz (f_lc (own := [("name", 2)]) O (i_keys O (e_var 0)) (blkOk_by (N := ["lock", "good", "name"]) (sc := defScope t_need_lock) (by decide +kernel)) (fun _ _ _ _ _ => (g_name 2 ((OkX.blk O _ _ _ _ _)).nd)) (fun _ _ _ _ _ => ts_nil) (fun _ _ _ _ _ => (e_call (OkX.blk O _ _ _ _ _) (d_is_make T) (by decide) (a_cons (e_ix (OkX.blk O _ _ _ _ _) (PE.o (e_var 0)) (PE.o (e_var 2))) a_nil))))))))))))) (ss_one (s_raises (c := "BadShelf") O tk T.c_BadShelf)) ss_nil)))
  exact ⟨_, h⟩
def w_changes_of : En → R Out :=
    (sSeq (sSet 2 (op1 (op2 (op1 (eVar 0) listK) (fzL (lcS (opI (eVar 1) itK) [4] (gN 4) (op2b (eVar 4) (eVar 0) ninD) (eVar 4))) addD) srtT))
    (sSeq (sSet 3 (fzL (lcS (opI (eVar 2) itD) [4] (gN 4) qYes (opL (aCons (eVar 4) (aCons (eGet (eVar 0) (eVar 4) (eC .non)) (aCons (eGet (eVar 1) (eVar 4) (eC .non)) aNil))) tupD))))
    (sRet (fzL (lcS (opI (eVar 3) itD) [5] (gN 5) (op2b (op2 (eVar 5) (eC (.int 1)) ixD) (op2 (eVar 5) (eC (.int 2)) ixD) neD) (eVar 5))))))
def s_changes_of : List D → R D := fnS 6 2 w_changes_of
abbrev t_changes_of : Stmt := topS 69
theorem n_changes_of : FnScope ["one", "other", "names", "rows", "name", "row"] ["one", "other"] (defScope t_changes_of) := ⟨rfl, rfl, rfl, by decide +kernel, rfl, by decide +kernel, by decide +kernel⟩
theorem d_changes_of {G : Gx} [Calm G] (T : Tx G) : FnS G 1 "changes_of" s_changes_of := by
  obtain ⟨a, fd, hF, hm, hb⟩ := T.d_changes_of
  have h := fn_defP (N := ["one", "other", "names", "rows", "name", "row"]) (k := 0) (f := w_changes_of) hF n_changes_of hm hb fun cdv _ A outer s H E B O tk =>
    (ss_cons (s_set 2 O (e_b1 O b_sortedT T.b_sorted (PE.o (e_add O (PE.o (e_t1 O t_listK T.b_list (PE.o (e_var 0)))) (PE.o (PE.fz (f_lc (own := [("name", 4)]) O (i_keys O (e_var 1)) (blkOk_by (N := ["one", "other", "names", "rows", "name", "row"]) (sc := defScope t_changes_of) (by decide +kernel)) (fun _ _ _ _ _ => (g_name 4 ((OkX.blk O _ _ _ _ _)).nd)) (fun _ _ _ _ _ => (ts_one (t_cmp (OkX.blk O _ _ _ _ _) c_notin (PE.o (e_var 4)) (PE.o (e_var 0))))) (fun _ _ _ _ _ => (e_var 4))))))))) (ss_cons (s_setLc 3 (own := [("name", 4)]) O (i_seq O (e_var 2)) (blkOk_by (N := ["one", "other", "names", "rows", "name", "row"]) (sc := defScope t_changes_of) (by decide +kernel)) (fun _ _ _ _ _ => (g_name 4 ((OkX.blk O _ _ _ _ _)).nd)) (fun _ _ _ _ _ => ts_nil) (fun _ _ _ _ _ => (e_tup (a_cons (e_var 4) (a_cons (e_get (OkX.blk O _ _ _ _ _) (e_var 0) (e_var 4) e_non) (a_cons (e_get (OkX.blk O _ _ _ _ _) (e_var 1) (e_var 4) e_non) a_nil))))) (sw_true rfl rfl rfl (by decide +kernel))) (ss_one (s_ret (PE.fz (f_lc (own := [("row", 5)]) O (i_seq O (e_var 3)) (blkOk_by (N := ["one", "other", "names", "rows", "name", "row"]) (sc := defScope t_changes_of) (by decide +kernel)) (fun _ _ _ _ _ => (g_name 5 ((OkX.blk O _ _ _ _ _)).nd)) (fun _ _ _ _ _ => (ts_one (t_cmp (OkX.blk O _ _ _ _ _) c_ne (PE.o (e_ix (OkX.blk O _ _ _ _ _) (PE.o (e_var 5)) (PE.o e_int))) (PE.o (e_ix (OkX.blk O _ _ _ _ _) (PE.o (e_var 5)) (PE.o e_int)))))) (fun _ _ _ _ _ => (e_var 5))))))))
  exact ⟨_, h⟩
def w_relocked : En → R Out :=
    (sSeq (sDrop (opL (aCons (eVar 0) (aCons (eVar 1) aNil)) s_look))
    (sSeq (sDrop (opL (aCons (eVar 3) aNil) s_need_lock))
    (sSeq (sSet 4 (opL (aCons (eVar 0) (aCons (eVar 1) (aCons (eVar 2) aNil))) s_sets))
    (sSeq (sIf (op2b (eVar 4) (fzL (frL aNil lstL)) eq0D) (sRet (eC .non)) sNx)
    (sSeq (sSet 5 (op1 (fzL (lcS (opI (eVar 4) itD) [6] (gN 6) qYes (op1 (opL (aCons (eVar 3) (aCons (eVar 6) aNil)) s_changes_of) lenD))) minD1))
    (sRet (op2 (fzL (lcS (opI (eVar 4) itD) [6] (gN 6) (op2b (op1 (opL (aCons (eVar 3) (aCons (eVar 6) aNil)) s_changes_of) lenD) (eVar 5) eqD) (eVar 6))) (eC (.int 0)) ixD)))))))
def s_relocked : List D → R D := fnS 7 4 w_relocked
abbrev t_relocked : Stmt := topS 70
theorem n_relocked : FnScope ["shelf", "wants", "drafts", "lock", "some", "least", "own"] ["shelf", "wants", "drafts", "lock"] (defScope t_relocked) := ⟨rfl, rfl, rfl, by decide +kernel, rfl, by decide +kernel, by decide +kernel⟩
theorem d_relocked {G : Gx} [Calm G] (T : Tx G) : FnS G 14 "relocked" s_relocked := by
  obtain ⟨a, fd, hF, hm, hb⟩ := T.d_relocked
  have h := fn_defP (N := ["shelf", "wants", "drafts", "lock", "some", "least", "own"]) (k := 13) (f := w_relocked) hF n_relocked hm hb fun cdv _ A outer s H E B O tk =>
    (ss_cons (s_expr (e_call O (d_look T) (by decide) (a_cons (e_var 0) (a_cons (e_var 1) a_nil)))) (ss_cons (s_expr (e_call O (d_need_lock T) (by decide) (a_cons (e_var 3) a_nil))) (ss_cons (s_set 4 O (e_call O (d_sets T) (by decide) (a_cons (e_var 0) (a_cons (e_var 1) (a_cons (e_var 2) a_nil))))) (ss_cons (s_if (t_cmp O c_eq0 (PE.o (e_var 4)) (PE.o (PE.fz (f_lst a_nil)))) (ss_one (s_ret e_non)) ss_nil) (ss_cons (s_set 5 O (e_b1 O b_min T.b_min (PE.o (PE.fz (f_lc (own := [("own", 6)]) O (i_seq O (e_var 4)) (blkOk_by (N := ["shelf", "wants", "drafts", "lock", "some", "least", "own"]) (sc := defScope t_relocked) (by decide +kernel)) (fun _ _ _ _ _ => (g_name 6 ((OkX.blk O _ _ _ _ _)).nd)) (fun _ _ _ _ _ => ts_nil) (fun _ _ _ _ _ => (e_b1 (OkX.blk O _ _ _ _ _) b_len T.b_len (PE.o (e_call (OkX.blk O _ _ _ _ _) (d_changes_of T) (by decide) (a_cons (e_var 3) (a_cons (e_var 6) a_nil))))))))))) (ss_one (s_ret (e_ix O (PE.o (PE.fz (f_lc (own := [("own", 6)]) O (i_seq O (e_var 4)) (blkOk_by (N := ["shelf", "wants", "drafts", "lock", "some", "least", "own"]) (sc := defScope t_relocked) (by decide +kernel)) (fun _ _ _ _ _ => (g_name 6 ((OkX.blk O _ _ _ _ _)).nd)) (fun _ _ _ _ _ => (ts_one (t_cmp (OkX.blk O _ _ _ _ _) c_eq (PE.o (e_b1 (OkX.blk O _ _ _ _ _) b_len T.b_len (PE.o (e_call (OkX.blk O _ _ _ _ _) (d_changes_of T) (by decide) (a_cons (e_var 3) (a_cons (e_var 6) a_nil)))))) (PE.o (e_var 5))))) (fun _ _ _ _ _ => (e_var 6))))) (PE.o e_int)))))))))
  exact ⟨_, h⟩
def b_raised_to_1 : En → R Out :=
    (sSeq (sSet 8 (fzL (lcS (opI (eVar 5) itD) [10] (gN 10) (op2b (eGet (eVar 10) (eVar 4) (eC .non)) (eVar 6) eqD) (eVar 10))))
    (sIf (op2b (eVar 8) (fzL (frL aNil lstL)) ne0D) (sSeq (sSet 9 (op1 (fzL (lcS (opI (eVar 8) itD) [10] (gN 10) qYes (op1 (opL (aCons (eVar 3) (aCons (eVar 10) aNil)) s_changes_of) lenD))) minD1))
    (sRet (op2 (fzL (lcS (opI (eVar 8) itD) [10] (gN 10) (op2b (op1 (opL (aCons (eVar 3) (aCons (eVar 10) aNil)) s_changes_of) lenD) (eVar 9) eqD) (eVar 10))) (eC (.int 0)) ixD))) sNx))
def w_raised_to : En → R Out :=
    (sSeq (sDrop (opL (aCons (eVar 0) (aCons (eVar 1) aNil)) s_look))
    (sSeq (sDrop (opL (aCons (eVar 3) aNil) s_need_lock))
    (sSeq (sIf (qNot (opT (opL (aCons (eVar 4) aNil) s_is_name))) (sExc "BadShelf") sNx)
    (sSeq (sSet 5 (opL (aCons (eVar 0) (aCons (eVar 1) (aCons (eVar 2) aNil))) s_sets))
    (sSeq (sFor (opI (op1 (eGet (eVar 0) (eVar 4) (fzL (frL aNil lstL))) revD) itD) (gT 2 [gN 6, gN 7]) b_raised_to_1)
    (sRet (eC .non)))))))
def s_raised_to : List D → R D := fnS 11 5 w_raised_to
abbrev t_raised_to : Stmt := topS 71
theorem n_raised_to : FnScope ["shelf", "wants", "drafts", "lock", "name", "some", "make", "needs", "own", "least", "one"] ["shelf", "wants", "drafts", "lock", "name"] (defScope t_raised_to) := ⟨rfl, rfl, rfl, by decide +kernel, rfl, by decide +kernel, by decide +kernel⟩
theorem d_raised_to {G : Gx} [Calm G] (T : Tx G) : FnS G 14 "raised_to" s_raised_to := by
  obtain ⟨a, fd, hF, hm, hb⟩ := T.d_raised_to
  have h := fn_defP (N := ["shelf", "wants", "drafts", "lock", "name", "some", "make", "needs", "own", "least", "one"]) (k := 13) (f := w_raised_to) hF n_raised_to hm hb fun cdv _ A outer s H E B O tk =>
    (ss_cons (s_expr (e_call O (d_look T) (by decide) (a_cons (e_var 0) (a_cons (e_var 1) a_nil)))) (ss_cons (s_expr (e_call O (d_need_lock T) (by decide) (a_cons (e_var 3) a_nil))) (ss_cons (s_if (t_not (t_val O (PE.o (e_call O (d_is_name T) (by decide) (a_cons (e_var 4) a_nil))))) (ss_one (s_raises (c := "BadShelf") O tk T.c_BadShelf)) ss_nil) (ss_cons (s_set 5 O (e_call O (d_sets T) (by decide) (a_cons (e_var 0) (a_cons (e_var 1) (a_cons (e_var 2) a_nil))))) (ss_cons (s_for O (passes_of rfl) (i_seq O (e_rev O (PE.o (e_get O (e_var 0) (e_var 4) (PE.fz (f_lst a_nil)))))) (g_tup O (gs_cons 6 (gs_cons 7 (gs_nil (js := [6, 7])) (O).nd) (O).nd)) (ss_cons (s_setLc 8 (own := [("one", 10)]) O (i_seq O (e_var 5)) (blkOk_by (N := ["shelf", "wants", "drafts", "lock", "name", "some", "make", "needs", "own", "least", "one"]) (sc := defScope t_raised_to) (by decide +kernel)) (fun _ _ _ _ _ => (g_name 10 ((OkX.blk O _ _ _ _ _)).nd)) (fun _ _ _ _ _ => (ts_one (t_cmp (OkX.blk O _ _ _ _ _) c_eq (PE.o (e_get (OkX.blk O _ _ _ _ _) (e_var 10) (e_var 4) e_non)) (PE.o (e_var 6))))) (fun _ _ _ _ _ => (e_var 10)) (sw_true rfl rfl rfl (by decide +kernel))) (ss_one (s_if (t_cmp O c_ne0 (PE.o (e_var 8)) (PE.o (PE.fz (f_lst a_nil)))) (ss_cons (s_set 9 O (e_b1 O b_min T.b_min (PE.o (PE.fz (f_lc (own := [("one", 10)]) O (i_seq O (e_var 8)) (blkOk_by (N := ["shelf", "wants", "drafts", "lock", "name", "some", "make", "needs", "own", "least", "one"]) (sc := defScope t_raised_to) (by decide +kernel)) (fun _ _ _ _ _ => (g_name 10 ((OkX.blk O _ _ _ _ _)).nd)) (fun _ _ _ _ _ => ts_nil) (fun _ _ _ _ _ => (e_b1 (OkX.blk O _ _ _ _ _) b_len T.b_len (PE.o (e_call (OkX.blk O _ _ _ _ _) (d_changes_of T) (by decide) (a_cons (e_var 3) (a_cons (e_var 10) a_nil))))))))))) (ss_one (s_ret (e_ix O (PE.o (PE.fz (f_lc (own := [("one", 10)]) O (i_seq O (e_var 8)) (blkOk_by (N := ["shelf", "wants", "drafts", "lock", "name", "some", "make", "needs", "own", "least", "one"]) (sc := defScope t_raised_to) (by decide +kernel)) (fun _ _ _ _ _ => (g_name 10 ((OkX.blk O _ _ _ _ _)).nd)) (fun _ _ _ _ _ => (ts_one (t_cmp (OkX.blk O _ _ _ _ _) c_eq (PE.o (e_b1 (OkX.blk O _ _ _ _ _) b_len T.b_len (PE.o (e_call (OkX.blk O _ _ _ _ _) (d_changes_of T) (by decide) (a_cons (e_var 3) (a_cons (e_var 10) a_nil)))))) (PE.o (e_var 9))))) (fun _ _ _ _ _ => (e_var 10))))) (PE.o e_int))))) ss_nil)))) (ss_one (s_ret e_non)))))))
  exact ⟨_, h⟩
def w_copied (self_ : List D → R D) : En → R Out :=
    (sSeq (sIf (opT (op1 (eVar 0) (isiD isDic))) (sRet (op1 (fzL (lcS (opI (eVar 0) itK) [1] (gN 1) qYes (opL (aCons (eVar 1) (aCons (opL (aCons (op2 (eVar 0) (eVar 1) ixD) aNil) self_) aNil)) tupD))) dictD)) sNx)
    (sSeq (sIf (opT (op1 (eVar 0) (isiD isLst))) (sRet (fzL (lcS (opI (eVar 0) itD) [2] (gN 2) qYes (opL (aCons (eVar 2) aNil) self_)))) sNx)
    (sRet (eIf (opT (op1 (eVar 0) (isiD isTup))) (op1 (fzL (lcS (opI (eVar 0) itD) [2] (gN 2) qYes (opL (aCons (eVar 2) aNil) self_))) tupleD) (eVar 0)))))
def s_copied : Nat → List D → R D
  | 0 => fnS 3 1 (fun _ => .bad)
  | n + 1 => fnS 3 1 (w_copied (s_copied n))
abbrev t_copied : Stmt := topS 73
theorem n_copied : FnScope ["thing", "name", "one"] ["thing"] (defScope t_copied) := ⟨rfl, rfl, rfl, by decide +kernel, rfl, by decide +kernel, by decide +kernel⟩
theorem d_copied {G : Gx} [Calm G] (T : Tx G) : ∀ n : Nat, FnS G (n + 1) "copied" (s_copied n)
  | 0 => by
    obtain ⟨a, fd, hF, hm, hb⟩ := T.d_copied
    exact ⟨_, fn_defP (N := ["thing", "name", "one"]) (k := 0) (f := fun _ => .bad) hF n_copied hm hb fun cdv _ A outer s H E B O tk => ss_bad⟩
  | n + 1 => by
    have ih := d_copied T n
    obtain ⟨a, fd, hF, hm, hb⟩ := T.d_copied
    exact ⟨_, fn_defP (N := ["thing", "name", "one"]) (k := n + 1) (f := w_copied (s_copied n)) hF n_copied hm hb fun cdv _ A outer s H E B O tk =>
      (ss_cons (s_if (t_val O (PE.o (e_isi O k_dict T.b_isinstance T.b_dict (PE.o (e_var 0))))) (ss_one (s_ret (e_t1 O t_dict T.b_dict (PE.o (PE.fz (f_lc (own := [("name", 1)]) O (i_keys O (e_var 0)) (blkOk_by (N := ["thing", "name", "one"]) (sc := defScope t_copied) (by decide +kernel)) (fun _ _ _ _ _ => (g_name 1 ((OkX.blk O _ _ _ _ _)).nd)) (fun _ _ _ _ _ => ts_nil) (fun _ _ _ _ _ => (e_tup (a_cons (e_var 1) (a_cons (e_call (OkX.blk O _ _ _ _ _) ih (Nat.le_refl _) (a_cons (e_ix (OkX.blk O _ _ _ _ _) (PE.o (e_var 0)) (PE.o (e_var 1))) a_nil)) a_nil)))))))))) ss_nil) (ss_cons (s_if (t_val O (PE.o (e_isi O k_list T.b_isinstance T.b_list (PE.o (e_var 0))))) (ss_one (s_ret (PE.fz (f_lc (own := [("one", 2)]) O (i_seq O (e_var 0)) (blkOk_by (N := ["thing", "name", "one"]) (sc := defScope t_copied) (by decide +kernel)) (fun _ _ _ _ _ => (g_name 2 ((OkX.blk O _ _ _ _ _)).nd)) (fun _ _ _ _ _ => ts_nil) (fun _ _ _ _ _ => (e_call (OkX.blk O _ _ _ _ _) ih (Nat.le_refl _) (a_cons (e_var 2) a_nil))))))) ss_nil) (ss_one (s_ret (e_if (t_val O (PE.o (e_isi O k_tuple T.b_isinstance T.b_tuple (PE.o (e_var 0))))) (e_t1 O b_tuple T.b_tuple (PE.o (PE.fz (f_lc (own := [("one", 2)]) O (i_seq O (e_var 0)) (blkOk_by (N := ["thing", "name", "one"]) (sc := defScope t_copied) (by decide +kernel)) (fun _ _ _ _ _ => (g_name 2 ((OkX.blk O _ _ _ _ _)).nd)) (fun _ _ _ _ _ => ts_nil) (fun _ _ _ _ _ => (e_call (OkX.blk O _ _ _ _ _) ih (Nat.le_refl _) (a_cons (e_var 2) a_nil))))))) (e_var 0))))))⟩
def w_l_cell : En → R Out :=
    (sSeq (sIf (op2b (eVar 0) (fzL (frL aNil lstL)) eqD) (sRet (op2 (eVar 1) (eC (.int 7919)) mulD)) sNx)
    (sRet (op2 (op2 (eVar 0) (op2 (eVar 1) (op1 (eVar 0) lenD) modD) ixD) (op2 (op2 (eVar 1) (op1 (eVar 0) lenD) divD) (eC (.int 104729)) mulD) addD)))
def s_l_cell : List D → R D := fnS 2 2 w_l_cell
abbrev t_l_cell : Stmt := topS 76
theorem n_l_cell : FnScope ["script", "k"] ["script", "k"] (defScope t_l_cell) := ⟨rfl, rfl, rfl, by decide +kernel, rfl, by decide +kernel, by decide +kernel⟩
theorem d_l_cell {G : Gx} [Calm G] (T : Tx G) : FnS G 1 "_law_cell" s_l_cell := by
  obtain ⟨a, fd, hF, hm, hb⟩ := T.d_l_cell
  have h := fn_defP (N := ["script", "k"]) (k := 0) (f := w_l_cell) hF n_l_cell hm hb fun cdv _ A outer s H E B O tk =>
    (ss_cons (s_if (t_cmp O c_eq (PE.o (e_var 0)) (PE.o (PE.fz (f_lst a_nil)))) (ss_one (s_ret (e_mul (PE.o (e_var 1)) (PE.o e_int)))) ss_nil) (ss_one (s_ret (e_add O (PE.o (e_ix O (PE.o (e_var 0)) (PE.o (e_mod (PE.o (e_var 1)) (PE.o (e_b1 O b_len T.b_len (PE.o (e_var 0)))))))) (PE.o (e_mul (PE.o (e_div (PE.o (e_var 1)) (PE.o (e_b1 O b_len T.b_len (PE.o (e_var 0)))))) (PE.o e_int)))))))
  exact ⟨_, h⟩
def w_l_drawn : En → R Out :=
    (sSeq (sSet 2 (op2 (op2 (op2 (eVar 0) (eC (.int 6364136223846793005)) mulD) (op2 (op2 (eVar 1) (eC (.int 1)) addD) (eC (.int 1442695040888963407)) mulD) addD) (eC (.int 340282366920938463463374607431768211507)) modD))
    (sSeq (sSet 2 (op2 (op2 (eVar 2) (eVar 2) mulD) (eC (.int 340282366920938463463374607431768211297)) modD))
    (sSeq (sSet 2 (op2 (op2 (op2 (op2 (eVar 2) (eC (.int 18446744073709551557)) modD) (eC (.int 1)) addD) (op2 (op2 (eVar 2) (eC (.int 18446744073709551557)) divD) (eC (.int 1)) addD) mulD) (eVar 2) mulD))
    (sRet (op2 (eVar 2) (eC (.int 340282366920938463463374607431768211507)) modD)))))
def s_l_drawn : List D → R D := fnS 3 2 w_l_drawn
abbrev t_l_drawn : Stmt := topS 77
theorem n_l_drawn : FnScope ["cell", "k", "more"] ["cell", "k"] (defScope t_l_drawn) := ⟨rfl, rfl, rfl, by decide +kernel, rfl, by decide +kernel, by decide +kernel⟩
theorem d_l_drawn {G : Gx} [Calm G] (T : Tx G) : FnS G 1 "_law_drawn" s_l_drawn := by
  obtain ⟨a, fd, hF, hm, hb⟩ := T.d_l_drawn
  have h := fn_defP (N := ["cell", "k", "more"]) (k := 0) (f := w_l_drawn) hF n_l_drawn hm hb fun cdv _ A outer s H E B O tk =>
    (ss_cons (s_set 2 O (e_mod (PE.o (e_add O (PE.o (e_mul (PE.o (e_var 0)) (PE.o e_int))) (PE.o (e_mul (PE.o (e_add O (PE.o (e_var 1)) (PE.o e_int))) (PE.o e_int))))) (PE.o e_int))) (ss_cons (s_set 2 O (e_mod (PE.o (e_mul (PE.o (e_var 2)) (PE.o (e_var 2)))) (PE.o e_int))) (ss_cons (s_set 2 O (e_mul (PE.o (e_mul (PE.o (e_add O (PE.o (e_mod (PE.o (e_var 2)) (PE.o e_int))) (PE.o e_int))) (PE.o (e_add O (PE.o (e_div (PE.o (e_var 2)) (PE.o e_int))) (PE.o e_int))))) (PE.o (e_var 2)))) (ss_one (s_ret (e_mod (PE.o (e_var 2)) (PE.o e_int)))))))
  exact ⟨_, h⟩
abbrev t_l_word : Stmt := topS 78
theorem n_l_word : FnScope ["e", "flags", "words"] ["e"] (defScope t_l_word) := ⟨rfl, rfl, rfl, by decide +kernel, rfl, by decide +kernel, by decide +kernel⟩
def w_l_word (a : Addr) (c : String) : En → R Out := sSeq (sSet 1 (fzL (frL (aCons (op1 (eVar 0) (isED a (c == "BadKind"))) (aCons (op1 (eVar 0) (isED a (c == "BadMake"))) (aCons (op1 (eVar 0) (isED a (c == "BadNumber"))) (aCons (op1 (eVar 0) (isED a (c == "BadRange"))) aNil)))) lstL))) (sSeq (sSet 1 (op2 (eOwn 1) (fzL (frL (aCons (op1 (eVar 0) (isED a (c == "BadShelf"))) (aCons (op1 (eVar 0) (isED a (c == "BadText"))) (aCons (op1 (eVar 0) (isED a (c == "BadWish"))) (aCons (op1 (eVar 0) (isED a (c == "NoMake"))) aNil)))) lstL)) addD)) (sSeq (sSet 1 (op2 (eOwn 1) (fzL (frL (aCons (op1 (eVar 0) (isED a (c == "Barred"))) (aCons (op1 (eVar 0) (isED a (c == "Nothing"))) aNil)) lstL)) addD)) (sSeq (sIf (qOr (op2b (op1 (eVar 1) sumBD) (eC (.int 1)) neD) (qNot (opT (op1 (eVar 0) (isED a true))))) (sRet (eC (.str ("other" : PySem.Str)))) sNx) (sSeq (sSet 2 (fzL (frL (aCons (eC (.str ("BadKind" : PySem.Str))) (aCons (eC (.str ("BadMake" : PySem.Str))) (aCons (eC (.str ("BadNumber" : PySem.Str))) (aCons (eC (.str ("BadRange" : PySem.Str))) (aCons (eC (.str ("BadShelf" : PySem.Str))) (aCons (eC (.str ("BadText" : PySem.Str))) (aCons (eC (.str ("BadWish" : PySem.Str))) (aCons (eC (.str ("NoMake" : PySem.Str))) aNil)))))))) lstL))) (sRet (op2 (op2 (eOwn 2) (fzL (frL (aCons (eC (.str ("Barred" : PySem.Str))) (aCons (eC (.str ("Nothing" : PySem.Str))) aNil)) lstL)) addD) (opM isL (eOwn 1) (eC (.bl true)) lidxD) ixD))))))
theorem v_l_word (a : Addr) (c : String) (hc : c ∈ wsL) : w_l_word a c (startE 3 [.obj a]) = .ok (.rt (.str (Str.ofString c))) := by
  have hI : ∀ (b : Bool) (e1 e2 : Option SV), op1 (eVar 0) (isED a b) [some (.fro (.obj a)), e1, e2] = .ok (.bl b) := fun b e1 e2 => if_pos rfl
  let fl := fun (b : Bool) => D.bl b
  let l1 : List D := [fl (c == "BadKind"), fl (c == "BadMake"), fl (c == "BadNumber"), fl (c == "BadRange")]
  let l2 : List D := [fl (c == "BadShelf"), fl (c == "BadText"), fl (c == "BadWish"), fl (c == "NoMake")]
  have e0 : startE 3 [.obj a] = [some (.fro (.obj a)), none, none] := rfl
  rw [e0]
  unfold w_l_word
  rw [sSeq_nx (env' := [some (.fro (.obj a)), some (.fro (.lst l1)), none]) (by simp only [sSet, fzL, frL, aCons, aNil, hI]; rfl)]
  rw [sSeq_nx (env' := [some (.fro (.obj a)), some (.fro (.lst (l1 ++ l2))), none]) (by simp only [sSet, op2, fzL, frL, aCons, aNil, hI]; rfl)]
  let l3 : List D := [fl (c == "Barred"), fl (c == "Nothing")]
  rw [sSeq_nx (env' := [some (.fro (.obj a)), some (.fro (.lst (l1 ++ l2 ++ l3))), none]) (by simp only [sSet, op2, fzL, frL, aCons, aNil, hI]; rfl)]
  rw [sSeq_nx (env' := [some (.fro (.obj a)), some (.fro (.lst (l1 ++ l2 ++ l3))), none]) (by
    simp only [sIf, qOr, qNot, opT, hI]
    simp only [wsL, List.mem_cons, List.not_mem_nil, or_false] at hc
    rcases hc with rfl | rfl | rfl | rfl | rfl | rfl | rfl | rfl | rfl | rfl <;> rfl)]
  simp only [wsL, List.mem_cons, List.not_mem_nil, or_false] at hc
  rcases hc with rfl | rfl | rfl | rfl | rfl | rfl | rfl | rfl | rfl | rfl <;> rfl
theorem d_l_word {G : Gx} [Calm G] (T : Tx G) : WordS G 1 "_law_word" wsL := by
  obtain ⟨a0, fd, hF, hm, hb⟩ := T.d_l_word
  refine word_def (k := 0) (N := ["e", "flags", "words"]) hF n_l_word hm hb fun c hc cdv A outer s H B a oe O hot hz hfl => ?_
  obtain ⟨cl, e1, e2, e3, e4⟩ := T.wf.exc c hc
  rw [e1] at hz
  have kk : ∀ c' (h' : c' ∈ wsL), ∃ a', G.mg (Str.ofString c') = some (.ref a') ∧ PySem.W.kitOne G.K (.ref cl) (.ref a') = some (c == c') := fun c' h' => by
    obtain ⟨a', f1, f2, _⟩ := T.wf.exc c' h'
    exact ⟨a', f2, T.wf.kit c hc c' h' cl a' e1 f1⟩
  obtain ⟨aBadKind, gBadKind, kBadKind⟩ := kk "BadKind" (by decide)
  obtain ⟨aBadMake, gBadMake, kBadMake⟩ := kk "BadMake" (by decide)
  obtain ⟨aBadNumber, gBadNumber, kBadNumber⟩ := kk "BadNumber" (by decide)
  obtain ⟨aBadRange, gBadRange, kBadRange⟩ := kk "BadRange" (by decide)
  obtain ⟨aBadShelf, gBadShelf, kBadShelf⟩ := kk "BadShelf" (by decide)
  obtain ⟨aBadText, gBadText, kBadText⟩ := kk "BadText" (by decide)
  obtain ⟨aBadWish, gBadWish, kBadWish⟩ := kk "BadWish" (by decide)
  obtain ⟨aNoMake, gNoMake, kNoMake⟩ := kk "NoMake" (by decide)
  obtain ⟨aBarred, gBarred, kBarred⟩ := kk "Barred" (by decide)
  obtain ⟨aNothing, gNothing, kNothing⟩ := kk "Nothing" (by decide)
  have hp : (a, oe) ∈ [(a, oe)] := by simp
  exact ⟨w_l_word a c, v_l_word a c hc, ss_cons (s_set 1 O (PE.fz (f_lst (a_cons (e_isE (v := .ref aBadKind) (cv := .ref aBadKind) 0 O e3 hp hz hfl T.b_isinstance (fun _ r => r) kBadKind (pe_glob rfl gBadKind rfl) (PE.o (e_var 0))) (a_cons (e_isE (v := .ref aBadMake) (cv := .ref aBadMake) 0 O e3 hp hz hfl T.b_isinstance (fun _ r => r) kBadMake (pe_glob rfl gBadMake rfl) (PE.o (e_var 0))) (a_cons (e_isE (v := .ref aBadNumber) (cv := .ref aBadNumber) 0 O e3 hp hz hfl T.b_isinstance (fun _ r => r) kBadNumber (pe_glob rfl gBadNumber rfl) (PE.o (e_var 0))) (a_cons (e_isE (v := .ref aBadRange) (cv := .ref aBadRange) 0 O e3 hp hz hfl T.b_isinstance (fun _ r => r) kBadRange (pe_glob rfl gBadRange rfl) (PE.o (e_var 0))) a_nil))))))) (ss_cons (s_set 1 O (e_add O (o_var 1) (PE.o (PE.fz (f_lst (a_cons (e_isE (v := .ref aBadShelf) (cv := .ref aBadShelf) 0 O e3 hp hz hfl T.b_isinstance (fun _ r => r) kBadShelf (pe_glob rfl gBadShelf rfl) (PE.o (e_var 0))) (a_cons (e_isE (v := .ref aBadText) (cv := .ref aBadText) 0 O e3 hp hz hfl T.b_isinstance (fun _ r => r) kBadText (pe_glob rfl gBadText rfl) (PE.o (e_var 0))) (a_cons (e_isE (v := .ref aBadWish) (cv := .ref aBadWish) 0 O e3 hp hz hfl T.b_isinstance (fun _ r => r) kBadWish (pe_glob rfl gBadWish rfl) (PE.o (e_var 0))) (a_cons (e_isE (v := .ref aNoMake) (cv := .ref aNoMake) 0 O e3 hp hz hfl T.b_isinstance (fun _ r => r) kNoMake (pe_glob rfl gNoMake rfl) (PE.o (e_var 0))) a_nil))))))))) (ss_cons (s_set 1 O (e_add O (o_var 1) (PE.o (PE.fz (f_lst (a_cons (e_isE (v := .ref aBarred) (cv := .ref aBarred) 0 O e3 hp hz hfl T.b_isinstance (fun _ r => r) kBarred (pe_glob rfl gBarred rfl) (PE.o (e_var 0))) (a_cons (e_isE (v := .ref aNothing) (cv := .ref aNothing) 0 O e3 hp hz hfl T.b_isinstance (fun _ r => r) kNothing (pe_glob rfl gNothing rfl) (PE.o (e_var 0))) a_nil))))))) (ss_cons (s_if (t_w (w_or (t_cmp O c_ne (PE.o (e_sumH 1 O hot T.b_sum T.b_int)) (PE.o e_int)) (w_or1 (t_not (t_val O (PE.o (e_isE (v := .ty "ValueError") (cv := .type "ValueError") 0 O e3 hp hz hfl T.b_isinstance (fun _ r => r) e4 (pe_bltn (v := .ty "ValueError") rfl T.b_ValueError (by decide +kernel) rfl) (PE.o (e_var 0))))))))) (ss_one (s_ret e_str)) ss_nil) (ss_cons (s_set 2 O (PE.fz (f_lst (a_cons e_str (a_cons e_str (a_cons e_str (a_cons e_str (a_cons e_str (a_cons e_str (a_cons e_str (a_cons e_str a_nil))))))))))) (ss_one (s_ret (e_ix O (PE.o (e_add O (o_var 2) (PE.o (PE.fz (f_lst (a_cons e_str (a_cons e_str a_nil))))))) (PE.o (e_lindex O (o_var 1) (PE.o e_bl))))))))))⟩
def w_l_small : En → R Out :=
    (sRet (opL (aCons (op2 (eC (.int 1)) (op2 (eVar 0) (eC (.int 3)) modD) addD) (aCons (op2 (op2 (eVar 0) (eC (.int 8)) divD) (eC (.int 2)) modD) (aCons (op2 (op2 (eVar 0) (eC (.int 32)) divD) (eC (.int 2)) modD) (aCons (eIf (op2b (op2 (op2 (eVar 0) (eC (.int 64)) divD) (eC (.int 4)) modD) (eC (.int 0)) eqD) (opL (aCons (eC (.str ("b" : PySem.Str))) (aCons (op2 (op2 (eVar 0) (eC (.int 128)) divD) (eC (.int 2)) modD) aNil)) tupD) (eC .non)) aNil)))) tupD))
def s_l_small : List D → R D := fnS 1 1 w_l_small
abbrev t_l_small : Stmt := topS 80
theorem n_l_small : FnScope ["more"] ["more"] (defScope t_l_small) := ⟨rfl, rfl, rfl, by decide +kernel, rfl, by decide +kernel, by decide +kernel⟩
theorem d_l_small {G : Gx} [Calm G] (T : Tx G) : FnS G 1 "_law_small" s_l_small := by
  obtain ⟨a, fd, hF, hm, hb⟩ := T.d_l_small
  have h := fn_defP (N := ["more"]) (k := 0) (f := w_l_small) hF n_l_small hm hb fun cdv _ A outer s H E B O tk =>
    (ss_one (s_ret (e_tup (a_cons (e_add O (PE.o e_int) (PE.o (e_mod (PE.o (e_var 0)) (PE.o e_int)))) (a_cons (e_mod (PE.o (e_div (PE.o (e_var 0)) (PE.o e_int))) (PE.o e_int)) (a_cons (e_mod (PE.o (e_div (PE.o (e_var 0)) (PE.o e_int))) (PE.o e_int)) (a_cons (e_if (t_cmp O c_eq (PE.o (e_mod (PE.o (e_div (PE.o (e_var 0)) (PE.o e_int))) (PE.o e_int))) (PE.o e_int)) (e_tup (a_cons e_str (a_cons (e_mod (PE.o (e_div (PE.o (e_var 0)) (PE.o e_int))) (PE.o e_int)) a_nil))) e_non) a_nil)))))))
  exact ⟨_, h⟩
abbrev t_H_init : Stmt := inClass (topS 74) 0
theorem n_H_init : FnScope ["self", "shelf", "drafts"] ["self", "shelf", "drafts"] (defScope t_H_init) := ⟨rfl, rfl, rfl, by decide +kernel, rfl, by decide +kernel, by decide +kernel⟩
def s_H_init : List D → R HSt := iniM s_need_shelf (s_copied 12)
theorem d_H_init {G : Gx} [Calm G] (T : Tx G) : MtI G 14 s_H_init :=
  mt_I (N := ["self", "shelf", "drafts"]) (k := 13) (need := s_need_shelf) (cop := s_copied 12) T.h_init n_H_init rfl rfl fun cdv A outer s H E B p O O2 =>
    ss_consK (s_expr (e_call O (d_need_shelf T) (by decide) (a_cons (e_var 1) a_nil))) (s_ini (O.xf T.hsF) (O.nD T.hsF) (pss_cons (ps_fld (pvr 0) (pvr 2) rfl) (pss_cons (ps_fld (pvr 0) (e_tup (a_cons (e_call O2 (d_copied T 12) (by decide) (a_cons (e_var 1) a_nil)) (a_cons (PE.fz (f_lst a_nil)) (a_cons e_dict0 a_nil)))) rfl) (pss_cons (ps_fld (pvr 0) (pe_lst pa_nil) rfl) (pss_one (ps_fld (pvr 0) (pe_lst pa_nil) rfl))))))
abbrev t_H_locked_by : Stmt := inClass (topS 74) 2
theorem n_H_locked_by : FnScope ["self", "shelf", "wants"] ["self", "shelf", "wants"] (defScope t_H_locked_by) := ⟨rfl, rfl, rfl, by decide +kernel, rfl, by decide +kernel, by decide +kernel⟩
def w_H_locked_by : En → R Out :=
    (sRet (opL (aCons (eVar 1) (aCons (eVar 2) (aCons (eDr 0) (aCons (op2 (eNow 0) (eC (.int 2)) ixD) aNil)))) s_relocked))
def s_H_locked_by : HSt → List D → R D := fnP 3 3 w_H_locked_by
theorem d_H_locked_by {G : Gx} [Calm G] (T : Tx G) : MtS G 15 "locked_by" (spP G s_H_locked_by) :=
  mt_P (N := ["self", "shelf", "wants"]) (k := 14) (w := w_H_locked_by) T.h_locked_by n_H_locked_by fun f cdv A outer s H E B O tk =>
    (ss_one (s_ret (e_call O (d_relocked T) (by decide) (a_cons (e_var 1) (a_cons (e_var 2) (a_cons (e_dr 0 O T.hsF) (a_cons (e_ix O (PE.o (e_now 0 O T.hsF)) (PE.o e_int)) a_nil)))))))
abbrev t_H_become : Stmt := inClass (topS 74) 1
theorem n_H_become : FnScope ["self", "shelf", "wants", "lock", "found"] ["self", "shelf", "wants", "lock"] (defScope t_H_become) := ⟨rfl, rfl, rfl, by decide +kernel, rfl, by decide +kernel, by decide +kernel⟩
def f_H_become_1 : En → R Out :=
    (sIf (op2b (eVar 3) (eC .non) isND) (sExc "Barred") sNx)
def f_H_become_2 : En → R Out :=
    (sSet 4 (opL (aCons (op2 (eNow 0) (eC (.int 2)) ixD) (aCons (eVar 3) aNil)) s_changes_of))
abbrev fs_H_become : List (En → R Out) := [f_H_become_1, f_H_become_2]
def s_H_become : HSt → List D → R (HSt × D) := becM 5 4 fs_H_become
theorem d_H_become {G : Gx} [Calm G] (T : Tx G) : MtS G 2 "become" (spM G s_H_become) :=
  mt_bec (N := ["self", "shelf", "wants", "lock", "found"]) (k := 1) (fs := fs_H_become) T.h_become n_H_become fun f cdv A outer s H E B O tk =>
    (ss_consK (s_if (t_cmp O c_is (PE.o (e_var 3)) (PE.o e_non)) (ss_one (s_raises (c := "Barred") O tk T.c_Barred)) ss_nil)
    (ss_consK (s_set 4 O (e_call O (d_changes_of T) (by decide) (a_cons (e_ix O (PE.o (e_now 0 O T.hsF)) (PE.o e_int)) (a_cons (e_var 3) a_nil))))
    (s_bec (O.xf T.hsF) (pss_cons (ps_expr (pe_bm PySem.F.plainAttrs_list PySem.F.slot_list_append PySem.F.type_list_append mt_append (pe_fld (pvr 0) rfl) (pa_cons (pe_fld (pvr 0) rfl) pa_nil))) (pss_cons (ps_fld (pvr 0) (pe_lst pa_nil) rfl) (pss_cons (ps_fld (pvr 0) (pe_tup (pa_cons (pvr 1) (pa_cons (pvr 2) (pa_cons (pvr 3) pa_nil)))) rfl) (pss_one (ps_ret (pvr 4)))))))))
abbrev t_H_want : Stmt := inClass (topS 74) 3
theorem n_H_want : FnScope ["self", "name", "wish", "shelf", "wants", "lock", "later", "own", "its"] ["self", "name", "wish"] (defScope t_H_want) := ⟨rfl, rfl, rfl, by decide +kernel, rfl, by decide +kernel, by decide +kernel⟩
def a_H_want : En → R (List D) :=
    (aCons (eVar 3) (aCons (eVar 6) (aCons (eMP 0 (aCons (eVar 3) (aCons (eVar 6) aNil)) s_H_locked_by) aNil)))
def f_H_want_1 : En → R Out :=
    (sAsg (eNow 0) (gT 3 [gN 3, gN 4, gN 5]))
def f_H_want_2 : En → R Out :=
    (sIf (op2b (eVar 1) (fzL (lcS (opI (eVar 4) itD) [7, 8] (gT 2 [gN 7, gN 8]) qYes (eVar 7))) inD) (sSet 6 (fzL (lcS (opI (eVar 4) itD) [7, 8] (gT 2 [gN 7, gN 8]) qYes (opL (aCons (eVar 7) (aCons (eIf (op2b (eVar 7) (eVar 1) eqD) (eVar 2) (eVar 8)) aNil)) tupD)))) (sSet 6 (op2 (eVar 4) (fzL (frL (aCons (opL (aCons (eVar 1) (aCons (eVar 2) aNil)) tupD) aNil) lstL)) addD)))
def f_H_want_3 : En → R Out :=
    (sIf (qNot (opT (opL (aCons (eVar 6) aNil) s_are_wants))) (sExc "BadShelf") sNx)
def f_H_want_4 : En → R Out :=
    (sSet 6 (opL (aCons (eVar 6) aNil) (s_copied 12)))
abbrev fs_H_want : List (En → R Out) := [f_H_want_1, f_H_want_2, f_H_want_3, f_H_want_4]
def s_H_want : HSt → List D → R (HSt × D) := tailM fs_H_want a_H_want 9 3 s_H_become
theorem d_H_want {G : Gx} [Calm G] (T : Tx G) : MtS G 16 "want" (spM G s_H_want) :=
  mt_T (N := ["self", "name", "wish", "shelf", "wants", "lock", "later", "own", "its"]) (k := 15) (fs := fs_H_want) (args := a_H_want) (mb := s_H_become) T.h_want n_H_want fun f cdv A outer s H E B O tk =>
    (ss_consK (s_asg (e_now 0 O T.hsF) (g_tup O (gs_cons 3 (gs_cons 4 (gs_cons 5 (gs_nil (js := [3, 4, 5])) (O).nd) (O).nd) (O).nd)))
    (ss_consK (s_if (t_cmp O c_in (PE.o (e_var 1)) (PE.o (PE.fz (f_lc (own := [("own", 7), ("its", 8)]) O (i_seq O (e_var 4)) (blkOk_by (N := ["self", "name", "wish", "shelf", "wants", "lock", "later", "own", "its"]) (sc := defScope t_H_want) (by decide +kernel)) (fun _ _ _ _ _ => (g_tup (OkX.blk O _ _ _ _ _) (gs_cons 7 (gs_cons 8 (gs_nil (js := [7, 8])) ((OkX.blk O _ _ _ _ _)).nd) ((OkX.blk O _ _ _ _ _)).nd))) (fun _ _ _ _ _ => ts_nil) (fun _ _ _ _ _ => (e_var 7)))))) (ss_one (s_setLc 6 (own := [("own", 7), ("its", 8)]) O (i_seq O (e_var 4)) (blkOk_by (N := ["self", "name", "wish", "shelf", "wants", "lock", "later", "own", "its"]) (sc := defScope t_H_want) (by decide +kernel)) (fun _ _ _ _ _ => (g_tup (OkX.blk O _ _ _ _ _) (gs_cons 7 (gs_cons 8 (gs_nil (js := [7, 8])) ((OkX.blk O _ _ _ _ _)).nd) ((OkX.blk O _ _ _ _ _)).nd))) (fun _ _ _ _ _ => ts_nil) (fun _ _ _ _ _ => (e_tup (a_cons (e_var 7) (a_cons (e_if (t_cmp (OkX.blk O _ _ _ _ _) c_eq (PE.o (e_var 7)) (PE.o (e_var 1))) (e_var 2) (e_var 8)) a_nil)))) (sw_true rfl rfl rfl (by decide +kernel)))) (ss_one (s_set 6 O (e_add O (PE.o (e_var 4)) (PE.o (PE.fz (f_lst (a_cons (e_tup (a_cons (e_var 1) (a_cons (e_var 2) a_nil))) a_nil))))))))
    (ss_consK (s_if (t_not (t_val O (PE.o (e_call O (d_are_wants T) (by decide) (a_cons (e_var 6) a_nil))))) (ss_one (s_raises (c := "BadShelf") O tk T.c_BadShelf)) ss_nil)
    (ss_consK (s_set 6 O (e_call O (d_copied T 12) (by decide) (a_cons (e_var 6) a_nil)))
    (s_retMt O T.hsF (d_H_become T) (by decide) (a_cons (e_var 3) (a_cons (e_var 6) (a_cons (e_methP 0 O T.hsF (d_H_locked_by T) (by decide) (a_cons (e_var 3) (a_cons (e_var 6) a_nil))) a_nil))))))))
abbrev t_H_unwant : Stmt := inClass (topS 74) 4
theorem n_H_unwant : FnScope ["self", "name", "shelf", "wants", "lock", "later", "own", "wish"] ["self", "name"] (defScope t_H_unwant) := ⟨rfl, rfl, rfl, by decide +kernel, rfl, by decide +kernel, by decide +kernel⟩
def a_H_unwant : En → R (List D) :=
    (aCons (eVar 2) (aCons (eVar 5) (aCons (eMP 0 (aCons (eVar 2) (aCons (eVar 5) aNil)) s_H_locked_by) aNil)))
def f_H_unwant_1 : En → R Out :=
    (sAsg (eNow 0) (gT 3 [gN 2, gN 3, gN 4]))
def f_H_unwant_2 : En → R Out :=
    (sSet 5 (fzL (lcS (opI (eVar 3) itD) [6, 7] (gT 2 [gN 6, gN 7]) (op2b (eVar 6) (eVar 1) neD) (opL (aCons (eVar 6) (aCons (eVar 7) aNil)) tupD))))
def f_H_unwant_3 : En → R Out :=
    (sIf (op2b (op1 (eVar 5) lenD) (op1 (eVar 3) lenD) eqD) (sExc "BadShelf") sNx)
abbrev fs_H_unwant : List (En → R Out) := [f_H_unwant_1, f_H_unwant_2, f_H_unwant_3]
def s_H_unwant : HSt → List D → R (HSt × D) := tailM fs_H_unwant a_H_unwant 8 2 s_H_become
theorem d_H_unwant {G : Gx} [Calm G] (T : Tx G) : MtS G 16 "unwant" (spM G s_H_unwant) :=
  mt_T (N := ["self", "name", "shelf", "wants", "lock", "later", "own", "wish"]) (k := 15) (fs := fs_H_unwant) (args := a_H_unwant) (mb := s_H_become) T.h_unwant n_H_unwant fun f cdv A outer s H E B O tk =>
    (ss_consK (s_asg (e_now 0 O T.hsF) (g_tup O (gs_cons 2 (gs_cons 3 (gs_cons 4 (gs_nil (js := [2, 3, 4])) (O).nd) (O).nd) (O).nd)))
    (ss_consK (s_setLc 5 (own := [("own", 6), ("wish", 7)]) O (i_seq O (e_var 3)) (blkOk_by (N := ["self", "name", "shelf", "wants", "lock", "later", "own", "wish"]) (sc := defScope t_H_unwant) (by decide +kernel)) (fun _ _ _ _ _ => (g_tup (OkX.blk O _ _ _ _ _) (gs_cons 6 (gs_cons 7 (gs_nil (js := [6, 7])) ((OkX.blk O _ _ _ _ _)).nd) ((OkX.blk O _ _ _ _ _)).nd))) (fun _ _ _ _ _ => (ts_one (t_cmp (OkX.blk O _ _ _ _ _) c_ne (PE.o (e_var 6)) (PE.o (e_var 1))))) (fun _ _ _ _ _ => (e_tup (a_cons (e_var 6) (a_cons (e_var 7) a_nil)))) (sw_true rfl rfl rfl (by decide +kernel)))
    (ss_consK (s_if (t_cmp O c_eq (PE.o (e_b1 O b_len T.b_len (PE.o (e_var 5)))) (PE.o (e_b1 O b_len T.b_len (PE.o (e_var 3))))) (ss_one (s_raises (c := "BadShelf") O tk T.c_BadShelf)) ss_nil)
    (s_retMt O T.hsF (d_H_become T) (by decide) (a_cons (e_var 2) (a_cons (e_var 5) (a_cons (e_methP 0 O T.hsF (d_H_locked_by T) (by decide) (a_cons (e_var 2) (a_cons (e_var 5) a_nil))) a_nil)))))))
abbrev t_H_bring : Stmt := inClass (topS 74) 5
theorem n_H_bring : FnScope ["self", "name", "make", "needs", "shelf", "wants", "lock", "ahead", "later", "one"] ["self", "name", "make", "needs"] (defScope t_H_bring) := ⟨rfl, rfl, rfl, by decide +kernel, rfl, by decide +kernel, by decide +kernel⟩
def a_H_bring : En → R (List D) :=
    (aCons (eVar 8) (aCons (eVar 5) (aCons (eVar 6) aNil)))
def f_H_bring_1 : En → R Out :=
    (sAsg (eNow 0) (gT 3 [gN 4, gN 5, gN 6]))
def f_H_bring_2 : En → R Out :=
    (sIf (qNot (opT (opL (aCons (eVar 1) aNil) s_is_name))) (sExc "BadShelf") sNx)
def f_H_bring_3 : En → R Out :=
    (sDrop (opL (aCons (dicE (((eVar 1), (fzL (frL (aCons (opL (aCons (eVar 2) (aCons (eVar 3) aNil)) tupD) aNil) lstL))) :: [])) aNil) s_need_shelf))
def f_H_bring_4 : En → R Out :=
    (sSet 7 (fzL (lcS (opI (eGet (eVar 4) (eVar 1) (fzL (frL aNil lstL))) itD) [9] (gN 9) (op2b (opL (aCons (op2 (eVar 9) (eC (.int 0)) ixD) aNil) s_rank_of) (opL (aCons (eVar 2) aNil) s_rank_of) (ordD .lt)) (eVar 9))))
def f_H_bring_5 : En → R Out :=
    (sOwnDc 8 (eVar 4))
def f_H_bring_6 : En → R Out :=
    (postD 8 (sPutK 8 (eVar 1) (opL (aCons (op2 (op2 (eVar 7) (fzL (frL (aCons (opL (aCons (eVar 2) (aCons (eVar 3) aNil)) tupD) aNil) lstL)) addD) (eSl (eGet (eVar 4) (eVar 1) (fzL (frL aNil lstL))) (soO (op1 (eVar 7) lenD)) noO) addD) aNil) (s_copied 12))))
def f_H_bring_7 : En → R Out :=
    (sDrop (opL (aCons (eVar 8) aNil) s_need_shelf))
abbrev fs_H_bring : List (En → R Out) := [f_H_bring_1, f_H_bring_2, f_H_bring_3, f_H_bring_4, f_H_bring_5, f_H_bring_6, f_H_bring_7]
def s_H_bring : HSt → List D → R (HSt × D) := tailM fs_H_bring a_H_bring 10 4 s_H_become
theorem d_H_bring {G : Gx} [Calm G] (T : Tx G) : MtS G 14 "bring" (spM G s_H_bring) :=
  mt_T (N := ["self", "name", "make", "needs", "shelf", "wants", "lock", "ahead", "later", "one"]) (k := 13) (fs := fs_H_bring) (args := a_H_bring) (mb := s_H_become) T.h_bring n_H_bring fun f cdv A outer s H E B O tk =>
    (ss_consK (s_asg (e_now 0 O T.hsF) (g_tup O (gs_cons 4 (gs_cons 5 (gs_cons 6 (gs_nil (js := [4, 5, 6])) (O).nd) (O).nd) (O).nd)))
    (ss_consK (s_if (t_not (t_val O (PE.o (e_call O (d_is_name T) (by decide) (a_cons (e_var 1) a_nil))))) (ss_one (s_raises (c := "BadShelf") O tk T.c_BadShelf)) ss_nil)
    (ss_consK (s_expr (e_call O (d_need_shelf T) (by decide) (a_cons (e_disp (dp_cons (e_var 1) (PE.fz (f_lst (a_cons (e_tup (a_cons (e_var 2) (a_cons (e_var 3) a_nil))) a_nil))) dp_nil)) a_nil)))
    (ss_consK (s_setLc 7 (own := [("one", 9)]) O (i_seq O (e_get O (e_var 4) (e_var 1) (PE.fz (f_lst a_nil)))) (blkOk_by (N := ["self", "name", "make", "needs", "shelf", "wants", "lock", "ahead", "later", "one"]) (sc := defScope t_H_bring) (by decide +kernel)) (fun _ _ _ _ _ => (g_name 9 ((OkX.blk O _ _ _ _ _)).nd)) (fun _ _ _ _ _ => (ts_one (t_cmp (OkX.blk O _ _ _ _ _) c_lt (PE.o (e_call (OkX.blk O _ _ _ _ _) (d_rank_of T) (by decide) (a_cons (e_ix (OkX.blk O _ _ _ _ _) (PE.o (e_var 9)) (PE.o e_int)) a_nil))) (PE.o (e_call (OkX.blk O _ _ _ _ _) (d_rank_of T) (by decide) (a_cons (e_var 2) a_nil)))))) (fun _ _ _ _ _ => (e_var 9)) (sw_true rfl rfl rfl (by decide +kernel)))
    (ss_consK (s_ownDc 8 O T.b_dict (PE.o (e_var 4)))
    (ss_consK (s_postD 8 (s_putK 8 O (e_call O (d_copied T 12) (by decide) (a_cons (e_add O (PE.o (e_add O (PE.o (e_var 7)) (PE.o (PE.fz (f_lst (a_cons (e_tup (a_cons (e_var 2) (a_cons (e_var 3) a_nil))) a_nil)))))) (PE.o (e_slice O (PE.o (e_get O (e_var 4) (e_var 1) (PE.fz (f_lst a_nil)))) (o_some (PE.o (e_b1 O b_len T.b_len (PE.o (e_var 7))))) o_none))) a_nil)) (e_var 1)))
    (ss_consK (s_expr (e_call O (d_need_shelf T) (by decide) (a_cons (e_var 8) a_nil)))
    (s_retMt O T.hsF (d_H_become T) (by decide) (a_cons (e_var 8) (a_cons (e_var 5) (a_cons (e_var 6) a_nil)))))))))))
abbrev t_H_take : Stmt := inClass (topS 74) 6
theorem n_H_take : FnScope ["self", "name", "make", "shelf", "wants", "lock", "later", "own", "needs"] ["self", "name", "make"] (defScope t_H_take) := ⟨rfl, rfl, rfl, by decide +kernel, rfl, by decide +kernel, by decide +kernel⟩
def a_H_take : En → R (List D) :=
    (aCons (eVar 6) (aCons (eVar 4) (aCons (eMP 0 (aCons (eVar 6) (aCons (eVar 4) aNil)) s_H_locked_by) aNil)))
def f_H_take_1 : En → R Out :=
    (sAsg (eNow 0) (gT 3 [gN 3, gN 4, gN 5]))
def f_H_take_2 : En → R Out :=
    (sIf (qOr (qNot (opT (opL (aCons (eVar 1) aNil) s_is_name))) (op2b (eVar 2) (fzL (lcS (opI (eGet (eVar 3) (eVar 1) (fzL (frL aNil lstL))) itD) [7, 8] (gT 2 [gN 7, gN 8]) qYes (eVar 7))) ninD)) (sExc "BadShelf") sNx)
def f_H_take_3 : En → R Out :=
    (sOwnDc 6 (eVar 3))
def f_H_take_4 : En → R Out :=
    (postD 6 (sPutK 6 (eVar 1) (fzL (lcS (opI (op2 (eVar 3) (eVar 1) ixD) itD) [7, 8] (gT 2 [gN 7, gN 8]) (op2b (eVar 7) (eVar 2) neD) (opL (aCons (eVar 7) (aCons (eVar 8) aNil)) tupD)))))
abbrev fs_H_take : List (En → R Out) := [f_H_take_1, f_H_take_2, f_H_take_3, f_H_take_4]
def s_H_take : HSt → List D → R (HSt × D) := tailM fs_H_take a_H_take 9 3 s_H_become
theorem d_H_take {G : Gx} [Calm G] (T : Tx G) : MtS G 16 "take" (spM G s_H_take) :=
  mt_T (N := ["self", "name", "make", "shelf", "wants", "lock", "later", "own", "needs"]) (k := 15) (fs := fs_H_take) (args := a_H_take) (mb := s_H_become) T.h_take n_H_take fun f cdv A outer s H E B O tk =>
    (ss_consK (s_asg (e_now 0 O T.hsF) (g_tup O (gs_cons 3 (gs_cons 4 (gs_cons 5 (gs_nil (js := [3, 4, 5])) (O).nd) (O).nd) (O).nd)))
    (ss_consK (s_if (t_w (w_or (t_not (t_val O (PE.o (e_call O (d_is_name T) (by decide) (a_cons (e_var 1) a_nil))))) (w_or1 (t_cmp O c_notin (PE.o (e_var 2)) (PE.o (PE.fz (f_lc (own := [("own", 7), ("needs", 8)]) O (i_seq O (e_get O (e_var 3) (e_var 1) (PE.fz (f_lst a_nil)))) (blkOk_by (N := ["self", "name", "make", "shelf", "wants", "lock", "later", "own", "needs"]) (sc := defScope t_H_take) (by decide +kernel)) (fun _ _ _ _ _ => (g_tup (OkX.blk O _ _ _ _ _) (gs_cons 7 (gs_cons 8 (gs_nil (js := [7, 8])) ((OkX.blk O _ _ _ _ _)).nd) ((OkX.blk O _ _ _ _ _)).nd))) (fun _ _ _ _ _ => ts_nil) (fun _ _ _ _ _ => (e_var 7))))))))) (ss_one (s_raises (c := "BadShelf") O tk T.c_BadShelf)) ss_nil)
    (ss_consK (s_ownDc 6 O T.b_dict (PE.o (e_var 3)))
    (ss_consK (s_postD 6 (s_putK 6 O (PE.fz (f_lc (own := [("own", 7), ("needs", 8)]) O (i_seq O (e_ix O (PE.o (e_var 3)) (PE.o (e_var 1)))) (blkOk_by (N := ["self", "name", "make", "shelf", "wants", "lock", "later", "own", "needs"]) (sc := defScope t_H_take) (by decide +kernel)) (fun _ _ _ _ _ => (g_tup (OkX.blk O _ _ _ _ _) (gs_cons 7 (gs_cons 8 (gs_nil (js := [7, 8])) ((OkX.blk O _ _ _ _ _)).nd) ((OkX.blk O _ _ _ _ _)).nd))) (fun _ _ _ _ _ => (ts_one (t_cmp (OkX.blk O _ _ _ _ _) c_ne (PE.o (e_var 7)) (PE.o (e_var 2))))) (fun _ _ _ _ _ => (e_tup (a_cons (e_var 7) (a_cons (e_var 8) a_nil)))))) (e_var 1)))
    (s_retMt O T.hsF (d_H_become T) (by decide) (a_cons (e_var 6) (a_cons (e_var 4) (a_cons (e_methP 0 O T.hsF (d_H_locked_by T) (by decide) (a_cons (e_var 6) (a_cons (e_var 4) a_nil))) a_nil))))))))
abbrev t_H_raise_one : Stmt := inClass (topS 74) 7
theorem n_H_raise_one : FnScope ["self", "name", "shelf", "wants", "lock"] ["self", "name"] (defScope t_H_raise_one) := ⟨rfl, rfl, rfl, by decide +kernel, rfl, by decide +kernel, by decide +kernel⟩
def a_H_raise_one : En → R (List D) :=
    (aCons (eVar 2) (aCons (eVar 3) (aCons (opL (aCons (eVar 2) (aCons (eVar 3) (aCons (eDr 0) (aCons (eVar 4) (aCons (eVar 1) aNil))))) s_raised_to) aNil)))
def f_H_raise_one_1 : En → R Out :=
    (sAsg (eNow 0) (gT 3 [gN 2, gN 3, gN 4]))
abbrev fs_H_raise_one : List (En → R Out) := [f_H_raise_one_1]
def s_H_raise_one : HSt → List D → R (HSt × D) := tailM fs_H_raise_one a_H_raise_one 5 2 s_H_become
theorem d_H_raise_one {G : Gx} [Calm G] (T : Tx G) : MtS G 15 "raise_one" (spM G s_H_raise_one) :=
  mt_T (N := ["self", "name", "shelf", "wants", "lock"]) (k := 14) (fs := fs_H_raise_one) (args := a_H_raise_one) (mb := s_H_become) T.h_raise_one n_H_raise_one fun f cdv A outer s H E B O tk =>
    (ss_consK (s_asg (e_now 0 O T.hsF) (g_tup O (gs_cons 2 (gs_cons 3 (gs_cons 4 (gs_nil (js := [2, 3, 4])) (O).nd) (O).nd) (O).nd)))
    (s_retMt O T.hsF (d_H_become T) (by decide) (a_cons (e_var 2) (a_cons (e_var 3) (a_cons (e_call O (d_raised_to T) (by decide) (a_cons (e_var 2) (a_cons (e_var 3) (a_cons (e_dr 0 O T.hsF) (a_cons (e_var 4) (a_cons (e_var 1) a_nil)))))) a_nil)))))
abbrev t_H_raise_all : Stmt := inClass (topS 74) 8
theorem n_H_raise_all : FnScope ["self", "shelf", "wants", "lock"] ["self"] (defScope t_H_raise_all) := ⟨rfl, rfl, rfl, by decide +kernel, rfl, by decide +kernel, by decide +kernel⟩
def a_H_raise_all : En → R (List D) :=
    (aCons (eVar 1) (aCons (eVar 2) (aCons (opL (aCons (eVar 1) (aCons (eVar 2) (aCons (eDr 0) aNil))) s_chosen) aNil)))
def f_H_raise_all_1 : En → R Out :=
    (sAsg (eNow 0) (gT 3 [gN 1, gN 2, gN 3]))
abbrev fs_H_raise_all : List (En → R Out) := [f_H_raise_all_1]
def s_H_raise_all : HSt → List D → R (HSt × D) := tailM fs_H_raise_all a_H_raise_all 4 1 s_H_become
theorem d_H_raise_all {G : Gx} [Calm G] (T : Tx G) : MtS G 15 "raise_all" (spM G s_H_raise_all) :=
  mt_T (N := ["self", "shelf", "wants", "lock"]) (k := 14) (fs := fs_H_raise_all) (args := a_H_raise_all) (mb := s_H_become) T.h_raise_all n_H_raise_all fun f cdv A outer s H E B O tk =>
    (ss_consK (s_asg (e_now 0 O T.hsF) (g_tup O (gs_cons 1 (gs_cons 2 (gs_cons 3 (gs_nil (js := [1, 2, 3])) (O).nd) (O).nd) (O).nd)))
    (s_retMt O T.hsF (d_H_become T) (by decide) (a_cons (e_var 1) (a_cons (e_var 2) (a_cons (e_call O (d_chosen T) (by decide) (a_cons (e_var 1) (a_cons (e_var 2) (a_cons (e_dr 0 O T.hsF) a_nil)))) a_nil)))))
abbrev t_H_undo : Stmt := inClass (topS 74) 9
theorem n_H_undo : FnScope ["self"] ["self"] (defScope t_H_undo) := ⟨rfl, rfl, rfl, by decide +kernel, rfl, by decide +kernel, by decide +kernel⟩
def f_H_undo_1 : En → R Out :=
    (sIf (qNil 0 true) (sExc "Nothing") sNx)
abbrev fs_H_undo : List (En → R Out) := [f_H_undo_1]
def s_H_undo : HSt → List D → R (HSt × D) := mUnd 1 1 fs_H_undo
theorem d_H_undo {G : Gx} [Calm G] (T : Tx G) : MtS G 1 "undo" (spM G s_H_undo) :=
  mt_Und (N := ["self"]) (k := 0) (fs := fs_H_undo) T.h_undo n_H_undo fun f cdv A outer s H E B O tk =>
    (ss_consK (s_if (t_nil 0 true O T.hsF rfl) (ss_one (s_raises (c := "Nothing") O tk T.c_Nothing)) ss_nil)
    (s_Und (O.xf T.hsF) (pss_cons (ps_expr (pe_bm PySem.F.plainAttrs_list PySem.F.slot_list_append PySem.F.type_list_append mt_append (pe_fld (pvr 0) rfl) (pa_cons (pe_fld (pvr 0) rfl) pa_nil))) (pss_one (ps_fld (pvr 0) (pe_bm0 PySem.F.plainAttrs_list PySem.F.slot_list_pop PySem.F.type_list_pop mt_pop (pe_fld (pvr 0) rfl)) rfl)))))
abbrev t_H_redo : Stmt := inClass (topS 74) 10
theorem n_H_redo : FnScope ["self"] ["self"] (defScope t_H_redo) := ⟨rfl, rfl, rfl, by decide +kernel, rfl, by decide +kernel, by decide +kernel⟩
def f_H_redo_1 : En → R Out :=
    (sIf (qNil 0 false) (sExc "Nothing") sNx)
abbrev fs_H_redo : List (En → R Out) := [f_H_redo_1]
def s_H_redo : HSt → List D → R (HSt × D) := mRed 1 1 fs_H_redo
theorem d_H_redo {G : Gx} [Calm G] (T : Tx G) : MtS G 1 "redo" (spM G s_H_redo) :=
  mt_Red (N := ["self"]) (k := 0) (fs := fs_H_redo) T.h_redo n_H_redo fun f cdv A outer s H E B O tk =>
    (ss_consK (s_if (t_nil 0 false O T.hsF rfl) (ss_one (s_raises (c := "Nothing") O tk T.c_Nothing)) ss_nil)
    (s_Red (O.xf T.hsF) (pss_cons (ps_expr (pe_bm PySem.F.plainAttrs_list PySem.F.slot_list_append PySem.F.type_list_append mt_append (pe_fld (pvr 0) rfl) (pa_cons (pe_fld (pvr 0) rfl) pa_nil))) (pss_one (ps_fld (pvr 0) (pe_bm0 PySem.F.plainAttrs_list PySem.F.slot_list_pop PySem.F.type_list_pop mt_pop (pe_fld (pvr 0) rfl)) rfl)))))
abbrev t_H_wants : Stmt := inClass (topS 74) 12
theorem n_H_wants : FnScope ["self"] ["self"] (defScope t_H_wants) := ⟨rfl, rfl, rfl, by decide +kernel, rfl, by decide +kernel, by decide +kernel⟩
def w_H_wants : En → R Out :=
    (sRet (opL (aCons (op2 (eNow 0) (eC (.int 1)) ixD) aNil) (s_copied 12)))
def s_H_wants : HSt → List D → R D := fnP 1 1 w_H_wants
theorem d_H_wants {G : Gx} [Calm G] (T : Tx G) : MtS G 14 "wants" (spP G s_H_wants) :=
  mt_P (N := ["self"]) (k := 13) (w := w_H_wants) T.h_wants n_H_wants fun f cdv A outer s H E B O tk =>
    (ss_one (s_ret (e_call O (d_copied T 12) (by decide) (a_cons (e_ix O (PE.o (e_now 0 O T.hsF)) (PE.o e_int)) a_nil))))
abbrev t_H_lock : Stmt := inClass (topS 74) 13
theorem n_H_lock : FnScope ["self"] ["self"] (defScope t_H_lock) := ⟨rfl, rfl, rfl, by decide +kernel, rfl, by decide +kernel, by decide +kernel⟩
def w_H_lock : En → R Out :=
    (sRet (op1 (op2 (eNow 0) (eC (.int 2)) ixD) dictD))
def s_H_lock : HSt → List D → R D := fnP 1 1 w_H_lock
theorem d_H_lock {G : Gx} [Calm G] (T : Tx G) : MtS G 1 "lock" (spP G s_H_lock) :=
  mt_P (N := ["self"]) (k := 0) (w := w_H_lock) T.h_lock n_H_lock fun f cdv A outer s H E B O tk =>
    (ss_one (s_ret (e_t1 O t_dict T.b_dict (PE.o (e_ix O (PE.o (e_now 0 O T.hsF)) (PE.o e_int))))))
abbrev t_H_is_best : Stmt := inClass (topS 74) 14
theorem n_H_is_best : FnScope ["self"] ["self"] (defScope t_H_is_best) := ⟨rfl, rfl, rfl, by decide +kernel, rfl, by decide +kernel, by decide +kernel⟩
def w_H_is_best : En → R Out :=
    (sRet (op2 (opL (aCons (op2 (eNow 0) (eC (.int 0)) ixD) (aCons (op2 (eNow 0) (eC (.int 1)) ixD) (aCons (eDr 0) aNil))) s_chosen) (op2 (eNow 0) (eC (.int 2)) ixD) (bD eqDicD)))
def s_H_is_best : HSt → List D → R D := fnP 1 1 w_H_is_best
theorem d_H_is_best {G : Gx} [Calm G] (T : Tx G) : MtS G 15 "is_best" (spP G s_H_is_best) :=
  mt_P (N := ["self"]) (k := 14) (w := w_H_is_best) T.h_is_best n_H_is_best fun f cdv A outer s H E B O tk =>
    (ss_one (s_ret (e_cmp O c_eqDic (PE.o (e_call O (d_chosen T) (by decide) (a_cons (e_ix O (PE.o (e_now 0 O T.hsF)) (PE.o e_int)) (a_cons (e_ix O (PE.o (e_now 0 O T.hsF)) (PE.o e_int)) (a_cons (e_dr 0 O T.hsF) a_nil))))) (PE.o (e_ix O (PE.o (e_now 0 O T.hsF)) (PE.o e_int))))))
def b_l_full_right_1 : En → R Out :=
    (sIfE (cmpE (eME 0 (aCons (op2 (eVar 3) (op2 (eC (.int 0)) (op2 (eVar 5) (eC (.int 3)) subD) maxD2) ixD) (aCons (opL (aCons (eVar 5) (aCons (eVar 4) (aCons (eC (.int 0)) (aCons (eC .non) aNil)))) tupD) (aCons (fzL (frL aNil lstL)) aNil))) s_H_bring) (fzL (frL aNil lstL)) neD) (sRet (eC (.bl false))) sNx)
def b_l_full_right_2 : En → R Out :=
    (sIf (op2b (toldE wsL (eMX 0 (aCons (eVar 6) (aCons (eVar 7) (aCons (fzL (frL aNil lstL)) aNil))) s_H_bring)) (eC (.str ("BadShelf" : PySem.Str))) neD) (sRet (eC (.bl false))) sNx)
def b_l_full_right_3 : En → R Out :=
    (sIfE (cmpE (eME 0 (aCons (eVar 6) (aCons (eVar 1) aNil)) s_H_want) (fzL (frL (aCons (opL (aCons (eVar 6) (aCons (eC .non) (aCons (opL (aCons (op2 (eC (.int 3)) (eVar 5) addD) (aCons (eVar 4) (aCons (eC (.int 0)) (aCons (eC .non) aNil)))) tupD) aNil))) tupD) aNil) lstL)) neD) (sRet (eC (.bl false))) sNx)
def w_l_full_right : En → R Out :=
    (sSeq (sAsg (opL (aCons (fzL (frL (aCons (eC (.str ("a" : PySem.Str))) (aCons (eC (.str ("b" : PySem.Str))) (aCons (eC (.str ("cc" : PySem.Str))) (aCons (eC (.str ("dddd" : PySem.Str))) aNil)))) lstL)) (aCons (op2 (eVar 2) (eC (.int 9)) modD) aNil)) tupD) (gT 2 [gN 3, gN 4]))
    (sSeq (sFor (opI (eC (.int 7)) rg1) (gN 5) b_l_full_right_1)
    (sSeq (sFor (opI (fzL (frL (aCons (opL (aCons (eC (.str ("a" : PySem.Str))) (aCons (opL (aCons (eC (.int 77)) (aCons (eC (.int 0)) (aCons (eC (.int 0)) (aCons (eC .non) aNil)))) tupD) aNil)) tupD) (aCons (opL (aCons (eC (.str ("e" : PySem.Str))) (aCons (opL (aCons (eC (.int 1)) (aCons (eC (.int 1)) (aCons (eC (.int 1)) (aCons (eC .non) aNil)))) tupD) aNil)) tupD) (aCons (opL (aCons (eC (.str ("b" : PySem.Str))) (aCons (opL (aCons (eC (.int 4)) (aCons (eVar 4) (aCons (eC (.int 0)) (aCons (eC .non) aNil)))) tupD) aNil)) tupD) aNil))) lstL)) itD) (gT 2 [gN 6, gN 7]) b_l_full_right_2)
    (sSeq (sFor (opI (eVar 3) enumD) (gT 2 [gN 5, gN 6]) b_l_full_right_3)
    (sSeq (sIf (qOr (op2b (toldE wsL (eMX 0 (aCons (eC (.str ("e" : PySem.Str))) (aCons (eVar 1) aNil)) s_H_want)) (eC (.str ("BadShelf" : PySem.Str))) neD) (qOr (qNot (opT (eMP 0 aNil s_H_is_best))) (op2b (op1 (eMP 0 aNil s_H_lock) lenD) (eC (.int 4)) neD))) (sRet (eC (.bl false))) sNx)
    (sSeq (sIfE (cmpE (eME 0 (aCons (eC (.str ("a" : PySem.Str))) (aCons (opL (aCons (eC (.int 3)) (aCons (eVar 4) (aCons (eC (.int 0)) (aCons (eC .non) aNil)))) tupD) aNil)) s_H_take) (fzL (frL (aCons (opL (aCons (eC (.str ("a" : PySem.Str))) (aCons (opL (aCons (eC (.int 3)) (aCons (eVar 4) (aCons (eC (.int 0)) (aCons (eC .non) aNil)))) tupD) (aCons (opL (aCons (eC (.int 2)) (aCons (eVar 4) (aCons (eC (.int 0)) (aCons (eC .non) aNil)))) tupD) aNil))) tupD) aNil) lstL)) neD) (sRet (eC (.bl false))) sNx)
    (sRet (op2 (toldE wsL (eMX 0 (aCons (eC (.str ("a" : PySem.Str))) (aCons (opL (aCons (eC (.int 3)) (aCons (eVar 4) (aCons (eC (.int 0)) (aCons (eC .non) aNil)))) tupD) aNil)) s_H_take)) (eC (.str ("BadShelf" : PySem.Str))) (bD eqD)))))))))
def s_l_full_right : HSt → List D → R D := fnO 8 3 w_l_full_right
abbrev t_l_full_right : Stmt := topS 81
theorem n_l_full_right : FnScope ["house", "all_let", "more", "names", "small", "n", "name", "make"] ["house", "all_let", "more"] (defScope t_l_full_right) := ⟨rfl, rfl, rfl, by decide +kernel, rfl, by decide +kernel, by decide +kernel⟩
theorem d_l_full_right {G : Gx} [Calm G] (T : Tx G) : FnO G 20 "_law_full_right" s_l_full_right :=
  fn_defO (w := w_l_full_right) (N := ["house", "all_let", "more", "names", "small", "n", "name", "make"]) (k := 19) T.d_l_full_right n_l_full_right fun a cdv A outer s H E B O tk la h0 =>
    (ss_cons (s_asg (e_tup (a_cons (PE.fz (f_lst (a_cons e_str (a_cons e_str (a_cons e_str (a_cons e_str a_nil)))))) (a_cons (e_mod (PE.o (e_var 2)) (PE.o e_int)) a_nil))) (g_tup O (gs_cons 3 (gs_cons 4 (gs_nil (js := [3, 4])) (O).nd) (O).nd))) (ss_cons (s_for O (passes_of rfl) (i_range1 O T.b_range (PE.o e_int)) (g_name 5 (O).nd) (ss_one (s_ifE (t_cmpE O c_ne (e_methE 0 O h0 T.hsF (d_H_bring T) (by decide) (a_cons (e_ix O (PE.o (e_var 3)) (PE.o (e_b2 O b_max2 T.b_max (PE.o e_int) (PE.o (e_sub (PE.o (e_var 5)) (PE.o e_int)))))) (a_cons (e_tup (a_cons (e_var 5) (a_cons (e_var 4) (a_cons e_int (a_cons e_non a_nil))))) (a_cons (PE.fz (f_lst a_nil)) a_nil)))) (PE.fz (f_lst a_nil))) (ss_one (s_ret e_bl)) ss_nil))) (ss_cons (s_for O (passes_of rfl) (i_seq O (PE.fz (f_lst (a_cons (e_tup (a_cons e_str (a_cons (e_tup (a_cons e_int (a_cons e_int (a_cons e_int (a_cons e_non a_nil))))) a_nil))) (a_cons (e_tup (a_cons e_str (a_cons (e_tup (a_cons e_int (a_cons e_int (a_cons e_int (a_cons e_non a_nil))))) a_nil))) (a_cons (e_tup (a_cons e_str (a_cons (e_tup (a_cons e_int (a_cons (e_var 4) (a_cons e_int (a_cons e_non a_nil))))) a_nil))) a_nil)))))) (g_tup O (gs_cons 6 (gs_cons 7 (gs_nil (js := [6, 7])) (O).nd) (O).nd)) (ss_one (s_if (t_cmp O c_ne (PE.o (e_told O la T.told (d_l_word T) (by decide) 14 (by decide) (fun _ _ _ _ _ _ _ _ O1 => (e_methX 0 O1 T.hsF (d_H_bring T) (by decide) (a_cons (e_var 6) (a_cons (e_var 7) (a_cons (PE.fz (f_lst a_nil)) a_nil))))))) (PE.o e_str)) (ss_one (s_ret e_bl)) ss_nil))) (ss_cons (s_for O (passes_of rfl) (i_enum O T.b_enumerate (e_var 3)) (g_tup O (gs_cons 5 (gs_cons 6 (gs_nil (js := [5, 6])) (O).nd) (O).nd)) (ss_one (s_ifE (t_cmpE O c_ne (e_methE 0 O h0 T.hsF (d_H_want T) (by decide) (a_cons (e_var 6) (a_cons (e_var 1) a_nil))) (PE.fz (f_lst (a_cons (e_tup (a_cons (e_var 6) (a_cons e_non (a_cons (e_tup (a_cons (e_add O (PE.o e_int) (PE.o (e_var 5))) (a_cons (e_var 4) (a_cons e_int (a_cons e_non a_nil))))) a_nil)))) a_nil)))) (ss_one (s_ret e_bl)) ss_nil))) (ss_cons (s_if (t_w (w_or (t_cmp O c_ne (PE.o (e_told O la T.told (d_l_word T) (by decide) 16 (by decide) (fun _ _ _ _ _ _ _ _ O2 => (e_methX 0 O2 T.hsF (d_H_want T) (by decide) (a_cons e_str (a_cons (e_var 1) a_nil)))))) (PE.o e_str)) (w_or (t_not (t_val O (PE.o (e_methP0 0 O T.hsF (d_H_is_best T) (by decide))))) (w_or1 (t_cmp O c_ne (PE.o (e_b1 O b_len T.b_len (PE.o (e_methP0 0 O T.hsF (d_H_lock T) (by decide))))) (PE.o e_int)))))) (ss_one (s_ret e_bl)) ss_nil) (ss_cons (s_ifE (t_cmpE O c_ne (e_methE 0 O h0 T.hsF (d_H_take T) (by decide) (a_cons e_str (a_cons (e_tup (a_cons e_int (a_cons (e_var 4) (a_cons e_int (a_cons e_non a_nil))))) a_nil))) (PE.fz (f_lst (a_cons (e_tup (a_cons e_str (a_cons (e_tup (a_cons e_int (a_cons (e_var 4) (a_cons e_int (a_cons e_non a_nil))))) (a_cons (e_tup (a_cons e_int (a_cons (e_var 4) (a_cons e_int (a_cons e_non a_nil))))) a_nil)))) a_nil)))) (ss_one (s_ret e_bl)) ss_nil) (ss_one (s_ret (e_cmp O c_eq (PE.o (e_told O la T.told (d_l_word T) (by decide) 16 (by decide) (fun _ _ _ _ _ _ _ _ O3 => (e_methX 0 O3 T.hsF (d_H_take T) (by decide) (a_cons e_str (a_cons (e_tup (a_cons e_int (a_cons (e_var 4) (a_cons e_int (a_cons e_non a_nil))))) a_nil)))))) (PE.o e_str))))))))))
def b_law_1 : En → R Out :=
    (sIf (op2b (toldE wsL (eMkX (aCons (eVar 5) (aCons (eC (.bl true)) aNil)) s_H_init)) (eC (.str ("BadShelf" : PySem.Str))) neD) (sRet (eC (.bl false))) sNx)
def b_law_2 : En → R Out :=
    (sSeq (sOwn 7 (frL (aCons (toldE wsL (eMX 6 (aCons (eVar 5) (aCons (eVar 3) aNil)) s_H_want)) aNil) lstL))
    (sSeq (sApp 7 (toldE wsL (eMX 6 (aCons (eVar 5) aNil) s_H_unwant)))
    (sSeq (sApp 7 (toldE wsL (eMX 6 (aCons (eVar 5) (aCons (eVar 4) (aCons (fzL (frL aNil lstL)) aNil))) s_H_bring)))
    (sSeq (sApp 7 (toldE wsL (eMX 6 (aCons (eVar 5) (aCons (eVar 4) aNil)) s_H_take)))
    (sSeq (sApp 7 (toldE wsL (eMX 6 (aCons (eVar 5) aNil) s_H_raise_one)))
    (sIf (op2b (eOwn 7) (op2 (fzL (frL (aCons (eC (.str ("BadShelf" : PySem.Str))) aNil) lstL)) (eC (.int 5)) mulD) neD) (sRet (eC (.bl false))) sNx))))))
def b_law_3 : En → R Out :=
    (sIf (op2b (toldE wsL (eMX 6 (aCons (eC (.str ("a" : PySem.Str))) (aCons (eVar 5) aNil)) s_H_want)) (eC (.str ("BadShelf" : PySem.Str))) neD) (sRet (eC (.bl false))) sNx)
def b_law_4 : En → R Out :=
    (sIf (op2b (toldE wsL (eMX 6 (aCons (eC (.str ("a" : PySem.Str))) (aCons (eVar 5) (aCons (fzL (frL aNil lstL)) aNil))) s_H_bring)) (eC (.str ("BadShelf" : PySem.Str))) neD) (sRet (eC (.bl false))) sNx)
def b_law_5 : En → R Out :=
    (sIf (op2b (toldE wsL (eMX 6 (aCons (eC (.str ("a" : PySem.Str))) (aCons (eVar 4) (aCons (eVar 5) aNil))) s_H_bring)) (eC (.str ("BadShelf" : PySem.Str))) neD) (sRet (eC (.bl false))) sNx)
def b_law_6 : En → R Out :=
    (sSeq (sSet 2 (opL (aCons (opL (aCons (eVar 0) (aCons (eVar 1) aNil)) s_l_cell) (aCons (eVar 1) aNil)) s_l_drawn))
    (sSeq (sAsg (opL (aCons (fzL (frL (aCons (fzL (frL (aCons (opL (aCons (eC (.str ("*" : PySem.Str))) (aCons (opL aNil tupD) (aCons (eC .non) aNil))) tupD) aNil) lstL)) aNil) lstL)) (aCons (opL (aCons (op2 (eVar 2) (eC (.int 8)) divD) aNil) s_l_small) aNil)) tupD) (gT 2 [gN 3, gN 4]))
    (sSeq (sFor (opI (fzL (frL (aCons (eC .non) (aCons (fzL (frL aNil lstL)) (aCons (dicE (((eC (.str ("A" : PySem.Str))), (fzL (frL aNil lstL))) :: [])) (aCons (dicE (((eC (.str ("a" : PySem.Str))), (eC .non)) :: [])) (aCons (dicE (((eC (.str ("a" : PySem.Str))), (fzL (frL (aCons (eVar 4) aNil) lstL))) :: [])) (aCons (dicE (((eC (.str ("a" : PySem.Str))), (op2 (fzL (frL (aCons (opL (aCons (eVar 4) (aCons (fzL (frL aNil lstL)) aNil)) tupD) aNil) lstL)) (eC (.int 2)) mulD)) :: [])) (aCons (dicE (((eC (.str ("a" : PySem.Str))), (fzL (frL (aCons (opL (aCons (eVar 4) (aCons (eC .non) aNil)) tupD) aNil) lstL))) :: [])) aNil))))))) lstL)) itD) (gN 5) b_law_1)
    (sSeq (sMk 6 (aCons (eC (.dic [])) (aCons (eC (.bl true)) aNil)) s_H_init)
    (sSeq (sFor (opI (fzL (frL (aCons (eC .non) (aCons (eC (.str ("" : PySem.Str))) (aCons (eC (.str ("A" : PySem.Str))) (aCons (eC (.str ("abcde" : PySem.Str))) (aCons (eC (.int 5)) aNil))))) lstL)) itD) (gN 5) b_law_2)
    (sSeq (sFor (opI (fzL (frL (aCons (eC .non) (aCons (fzL (frL aNil lstL)) (aCons (fzL (frL (aCons (fzL (frL aNil lstL)) aNil) lstL)) (aCons (eC (.str ("*" : PySem.Str))) (aCons (fzL (frL (aCons (fzL (frL (aCons (opL (aCons (eC (.str ("*" : PySem.Str))) (aCons (opL aNil tupD) (aCons (eC (.int 1)) aNil))) tupD) aNil) lstL)) aNil) lstL)) aNil))))) lstL)) itD) (gN 5) b_law_3)
    (sSeq (sIfE (orE (liftQ (op2b (toldE wsL (eMX 6 (aCons (eC (.str ("a" : PySem.Str))) (aCons (eVar 3) aNil)) s_H_want)) (eC (.str ("Barred" : PySem.Str))) neD)) (orE (liftQ (op2b (eMP 6 aNil s_H_wants) (fzL (frL aNil lstL)) neD)) (cmpE (eME 6 aNil s_H_raise_all) (fzL (frL aNil lstL)) neD))) (sRet (eC (.bl false))) sNx)
    (sSeq (sIfE (orE (cmpE (eME 6 aNil s_H_undo) (eC .non) isntD) (orE (liftQ (op2b (toldE wsL (eMX 6 aNil s_H_undo)) (eC (.str ("Nothing" : PySem.Str))) neD)) (cmpE (eME 6 aNil s_H_redo) (eC .non) isntD))) (sRet (eC (.bl false))) sNx)
    (sSeq (sFor (opI (fzL (frL (aCons (eC .non) (aCons (opL (aCons (eC (.int 1)) (aCons (eC (.int 2)) aNil)) tupD) (aCons (opL (aCons (eC (.int 1)) (aCons (eC (.int 2)) (aCons (eC (.int 3)) aNil))) tupD) (aCons (opL (aCons (eC (.int 1)) (aCons (eC (.int 2)) (aCons (eC (.int 1000)) (aCons (eC .non) aNil)))) tupD) (aCons (fzL (frL (aCons (eC (.int 1)) (aCons (eC (.int 2)) (aCons (eC (.int 3)) (aCons (eC .non) aNil)))) lstL)) aNil))))) lstL)) itD) (gN 5) b_law_4)
    (sSeq (sFor (opI (fzL (frL (aCons (eC .non) (aCons (opL aNil tupD) (aCons (fzL (frL (aCons (opL (aCons (eC (.str ("a" : PySem.Str))) (aCons (eC .non) aNil)) tupD) aNil) lstL)) (aCons (op2 (fzL (frL (aCons (opL (aCons (eC (.str ("a" : PySem.Str))) (aCons (eVar 3) aNil)) tupD) aNil) lstL)) (eC (.int 2)) mulD) (aCons (fzL (frL (aCons (opL (aCons (eC (.str ("A" : PySem.Str))) (aCons (eVar 3) aNil)) tupD) aNil) lstL)) aNil))))) lstL)) itD) (gN 5) b_law_5)
    (sIfE (andE (liftQ (op2b (eVar 1) (eC (.int 0)) eqD)) (notE (truE (eCO 6 (aCons (eVar 3) (aCons (eVar 2) aNil)) s_l_full_right)))) (sRet (eC (.bl false))) sNx)))))))))))
def w_law : En → R Out :=
    (sSeq (sFor (opI (op2 (eC (.int 1)) (op2 (eC (.int 4)) (op1 (eVar 0) lenD) minD2) maxD2) rg1) (gN 1) b_law_6)
    (sRet (eC (.bl true))))
def s_law : List D → R D := fnS 8 1 w_law
abbrev t_law : Stmt := topS 82
theorem n_law : FnScope ["script", "k", "more", "all_let", "make", "bad", "house", "found"] ["script"] (defScope t_law) := ⟨rfl, rfl, rfl, by decide +kernel, rfl, by decide +kernel, by decide +kernel⟩
theorem d_law {G : Gx} [Calm G] (T : Tx G) : FnSp G 21 "law" ["script"] s_law :=
  fn_defLO (f := w_law) (N := ["script", "k", "more", "all_let", "make", "bad", "house", "found"]) (k := 20) T.d_law n_law fun a cdv A outer s H E B O tk la h0 =>
    (ss_cons (s_for O (passes_of rfl) (i_range1 O T.b_range (PE.o (e_b2 O b_max2 T.b_max (PE.o e_int) (PE.o (e_b2 O b_min2 T.b_min (PE.o e_int) (PE.o (e_b1 O b_len T.b_len (PE.o (e_var 0))))))))) (g_name 1 (O).nd) (ss_cons (s_set 2 O (e_call O (d_l_drawn T) (by decide) (a_cons (e_call O (d_l_cell T) (by decide) (a_cons (e_var 0) (a_cons (e_var 1) a_nil))) (a_cons (e_var 1) a_nil)))) (ss_cons (s_asg (e_tup (a_cons (PE.fz (f_lst (a_cons (PE.fz (f_lst (a_cons (e_tup (a_cons e_str (a_cons (e_tup a_nil) (a_cons e_non a_nil)))) a_nil))) a_nil))) (a_cons (e_call O (d_l_small T) (by decide) (a_cons (e_div (PE.o (e_var 2)) (PE.o e_int)) a_nil)) a_nil))) (g_tup O (gs_cons 3 (gs_cons 4 (gs_nil (js := [3, 4])) (O).nd) (O).nd))) (ss_cons (s_for O (passes_of rfl) (i_seq O (PE.fz (f_lst (a_cons e_non (a_cons (PE.fz (f_lst a_nil)) (a_cons (e_disp (dp_cons e_str (PE.fz (f_lst a_nil)) dp_nil)) (a_cons (e_disp (dp_cons e_str e_non dp_nil)) (a_cons (e_disp (dp_cons e_str (PE.fz (f_lst (a_cons (e_var 4) a_nil))) dp_nil)) (a_cons (e_disp (dp_cons e_str (e_mul (PE.o (PE.fz (f_lst (a_cons (e_tup (a_cons (e_var 4) (a_cons (PE.fz (f_lst a_nil)) a_nil))) a_nil)))) (PE.o e_int)) dp_nil)) (a_cons (e_disp (dp_cons e_str (PE.fz (f_lst (a_cons (e_tup (a_cons (e_var 4) (a_cons e_non a_nil))) a_nil))) dp_nil)) a_nil)))))))))) (g_name 5 (O).nd) (ss_one (s_if (t_cmp O c_ne (PE.o (e_told O la T.told (d_l_word T) (by decide) 15 (by decide) (fun _ _ _ _ _ _ _ _ O1 => (e_house O1 T.hsF (d_H_init T) (by decide) (a_cons (e_var 5) (a_cons e_bl a_nil)))))) (PE.o e_str)) (ss_one (s_ret e_bl)) ss_nil))) (ss_cons (s_house 6 O T.hsF (d_H_init T) (by decide) (a_cons e_dict0 (a_cons e_bl a_nil))) (ss_cons (s_for O (passes_of rfl) (i_seq O (PE.fz (f_lst (a_cons e_non (a_cons e_str (a_cons e_str (a_cons e_str (a_cons e_int a_nil)))))))) (g_name 5 (O).nd) (ss_cons (s_own 7 O (f_lst (a_cons (e_told O la T.told (d_l_word T) (by decide) 16 (by decide) (fun _ _ _ _ _ _ _ _ O2 => (e_methX 6 O2 T.hsF (d_H_want T) (by decide) (a_cons (e_var 5) (a_cons (e_var 3) a_nil))))) a_nil))) (ss_cons (s_append 7 (e_told O la T.told (d_l_word T) (by decide) 16 (by decide) (fun _ _ _ _ _ _ _ _ O3 => (e_methX 6 O3 T.hsF (d_H_unwant T) (by decide) (a_cons (e_var 5) a_nil))))) (ss_cons (s_append 7 (e_told O la T.told (d_l_word T) (by decide) 14 (by decide) (fun _ _ _ _ _ _ _ _ O4 => (e_methX 6 O4 T.hsF (d_H_bring T) (by decide) (a_cons (e_var 5) (a_cons (e_var 4) (a_cons (PE.fz (f_lst a_nil)) a_nil))))))) (ss_cons (s_append 7 (e_told O la T.told (d_l_word T) (by decide) 16 (by decide) (fun _ _ _ _ _ _ _ _ O5 => (e_methX 6 O5 T.hsF (d_H_take T) (by decide) (a_cons (e_var 5) (a_cons (e_var 4) a_nil)))))) (ss_cons (s_append 7 (e_told O la T.told (d_l_word T) (by decide) 15 (by decide) (fun _ _ _ _ _ _ _ _ O6 => (e_methX 6 O6 T.hsF (d_H_raise_one T) (by decide) (a_cons (e_var 5) a_nil))))) (ss_one (s_if (t_cmp O c_ne (o_var 7) (PE.o (e_mul (PE.o (PE.fz (f_lst (a_cons e_str a_nil)))) (PE.o e_int)))) (ss_one (s_ret e_bl)) ss_nil)))))))) (ss_cons (s_for O (passes_of rfl) (i_seq O (PE.fz (f_lst (a_cons e_non (a_cons (PE.fz (f_lst a_nil)) (a_cons (PE.fz (f_lst (a_cons (PE.fz (f_lst a_nil)) a_nil))) (a_cons e_str (a_cons (PE.fz (f_lst (a_cons (PE.fz (f_lst (a_cons (e_tup (a_cons e_str (a_cons (e_tup a_nil) (a_cons e_int a_nil)))) a_nil))) a_nil))) a_nil)))))))) (g_name 5 (O).nd) (ss_one (s_if (t_cmp O c_ne (PE.o (e_told O la T.told (d_l_word T) (by decide) 16 (by decide) (fun _ _ _ _ _ _ _ _ O7 => (e_methX 6 O7 T.hsF (d_H_want T) (by decide) (a_cons e_str (a_cons (e_var 5) a_nil)))))) (PE.o e_str)) (ss_one (s_ret e_bl)) ss_nil))) (ss_cons (s_ifE (t_wE (w_orE (t_lift (t_cmp O c_ne (PE.o (e_told O la T.told (d_l_word T) (by decide) 16 (by decide) (fun _ _ _ _ _ _ _ _ O8 => (e_methX 6 O8 T.hsF (d_H_want T) (by decide) (a_cons e_str (a_cons (e_var 3) a_nil)))))) (PE.o e_str))) (w_orE (t_lift (t_cmp O c_ne (PE.o (e_methP0 6 O T.hsF (d_H_wants T) (by decide))) (PE.o (PE.fz (f_lst a_nil))))) (w_or1E (t_cmpE O c_ne (e_methE0 6 O h0 T.hsF (d_H_raise_all T) (by decide)) (PE.fz (f_lst a_nil))))))) (ss_one (s_ret e_bl)) ss_nil) (ss_cons (s_ifE (t_wE (w_orE (t_cmpE O c_isnt (e_methE0 6 O h0 T.hsF (d_H_undo T) (by decide)) e_non) (w_orE (t_lift (t_cmp O c_ne (PE.o (e_told O la T.told (d_l_word T) (by decide) 1 (by decide) (fun _ _ _ _ _ _ _ _ O9 => (e_methX0 6 O9 T.hsF (d_H_undo T) (by decide))))) (PE.o e_str))) (w_or1E (t_cmpE O c_isnt (e_methE0 6 O h0 T.hsF (d_H_redo T) (by decide)) e_non))))) (ss_one (s_ret e_bl)) ss_nil) (ss_cons (s_for O (passes_of rfl) (i_seq O (PE.fz (f_lst (a_cons e_non (a_cons (e_tup (a_cons e_int (a_cons e_int a_nil))) (a_cons (e_tup (a_cons e_int (a_cons e_int (a_cons e_int a_nil)))) (a_cons (e_tup (a_cons e_int (a_cons e_int (a_cons e_int (a_cons e_non a_nil))))) (a_cons (PE.fz (f_lst (a_cons e_int (a_cons e_int (a_cons e_int (a_cons e_non a_nil)))))) a_nil)))))))) (g_name 5 (O).nd) (ss_one (s_if (t_cmp O c_ne (PE.o (e_told O la T.told (d_l_word T) (by decide) 14 (by decide) (fun _ _ _ _ _ _ _ _ O10 => (e_methX 6 O10 T.hsF (d_H_bring T) (by decide) (a_cons e_str (a_cons (e_var 5) (a_cons (PE.fz (f_lst a_nil)) a_nil))))))) (PE.o e_str)) (ss_one (s_ret e_bl)) ss_nil))) (ss_cons (s_for O (passes_of rfl) (i_seq O (PE.fz (f_lst (a_cons e_non (a_cons (e_tup a_nil) (a_cons (PE.fz (f_lst (a_cons (e_tup (a_cons e_str (a_cons e_non a_nil))) a_nil))) (a_cons (e_mul (PE.o (PE.fz (f_lst (a_cons (e_tup (a_cons e_str (a_cons (e_var 3) a_nil))) a_nil)))) (PE.o e_int)) (a_cons (PE.fz (f_lst (a_cons (e_tup (a_cons e_str (a_cons (e_var 3) a_nil))) a_nil))) a_nil)))))))) (g_name 5 (O).nd) (ss_one (s_if (t_cmp O c_ne (PE.o (e_told O la T.told (d_l_word T) (by decide) 14 (by decide) (fun _ _ _ _ _ _ _ _ O11 => (e_methX 6 O11 T.hsF (d_H_bring T) (by decide) (a_cons e_str (a_cons (e_var 4) (a_cons (e_var 5) a_nil))))))) (PE.o e_str)) (ss_one (s_ret e_bl)) ss_nil))) (ss_one (s_ifE (t_wE (w_andE (t_lift (t_cmp O c_eq (PE.o (e_var 1)) (PE.o e_int))) (w_and1E (t_notE (t_truE O (e_callO (i := 6) O h0 (d_l_full_right T) (by decide) (a_cons (e_var 3) (a_cons (e_var 2) a_nil)))))))) (ss_one (s_ret e_bl)) ss_nil))))))))))))) (ss_one (s_ret e_bl)))
def exL (K : PySem.W.Frag) : Bool := (apartB tfL K) && (wordB wsL "MakeError" K) && (tupB K "LEAST" [(.str ("a" : PySem.Str)), (.int 0)]) && (tupB K "SIGNS" [(.str ("" : PySem.Str)), (.str ("!" : PySem.Str)), (.str (">" : PySem.Str)), (.str (">=" : PySem.Str)), (.str ("<" : PySem.Str)), (.str ("<=" : PySem.Str)), (.str ("^" : PySem.Str)), (.str ("~" : PySem.Str))])
abbrev hkX : PySem.W.Hook := He.hookX 4 faL fnL [] tfL exL
def obX (s : PySem.W.SharedT) : He.AlX := He.obsX 4 faL fnL [] tfL exL (HandSHeadRun.getT s)
theorem obX_eq (s : PySem.W.SharedT) : obX s = hkX.obs s.abs := He.obsX_eq (HandSHeadRun.getT_eq s)
theorem run8 (w : World) (os : OsState) : (endX w os).map (fun s => exL (fragX s)) = some true := by
  kernel_rfl
theorem obX_parts (s : PySem.W.SharedT) : obX s = (((((faL.all fun f => f.ok (fragX s)) && fnL.all fun d => d.ok (fragX s)), fnL.map fun d => He.fnW (fragX s) d.at_), []), (exL (fragX s) && He.tabsB (HandSHeadRun.getT s) tfL (fragX s))) := rfl
theorem runX (w : World) : HandSHeadRun.RunEq rowR (PySem.W.view rowR.prog [82]) hkX obX stepsM looseL w := by
  intro os
  have h1 := run1 w os
  have h2 := run2 w os
  have h3 := run3 w os
  have h4 := run4 w os
  have h5 := run5 w os
  have h6 := run6 w os
  have h7 := run7 w os
  have h8 := run8 w os
  show (endX w os).map _ = _
  generalize endX w os = E at h1 h2 h3 h4 h5 h6 h7 h8 ⊢
  cases E with
  | none => cases h1
  | some s =>
    have g1 := Option.some.inj h1
    have g2 := Option.some.inj h2
    have g3 : (fa0.all (fun f => f.ok (fragX s)) && fa1.all (fun f => f.ok (fragX s))) = true := Option.some.inj h3
    have g4 : (fa2.all (fun f => f.ok (fragX s))) = true := Option.some.inj h4
    have g5 : (fnL.all (fun d => d.ok (fragX s)) && He.tabsB (HandSHeadRun.getT s) tfL (fragX s)) = true := Option.some.inj h5
    have g6 : fn0.map (fun d => He.fnW (fragX s) d.at_) = fn0.map He.DefD.val := Option.some.inj h6
    have g7 : fn1.map (fun d => He.fnW (fragX s) d.at_) = fn1.map He.DefD.val := Option.some.inj h7
    have g8 : exL (fragX s) = true := Option.some.inj h8
    simp only [Bool.and_eq_true] at g3 g4 g5
    have gf : (faL.all fun f => f.ok (fragX s)) = true := by
      simp only [faL, List.all_append, Bool.and_eq_true]
      simp only [g3, g4, and_self]
    have gm : (fnL.map fun d => He.fnW (fragX s) d.at_) = fnL.map He.DefD.val := by
      unfold fnL
      rw [List.map_append, List.map_append, g6, g7]
    have go : obX s = He.valX fnL [] w := by
      refine (obX_parts s).trans ?_
      rw [gf, g5.1, gm, g8, g5.2]
      rfl
    exact congrArg some (Prod.ext g1 (Prod.ext g2 go))
theorem tx_of {w : World} {K : PySem.W.Frag} {mg : Str → Option Value} {h base : Heap} (X : K.In h) (N : h.Ns mainGlobals mg) (c : He.SaysX faL fnL [] tfL exL w h K) (tb : ∀ p ∈ tfL.map (He.cT K), TabB base mg p.1 p.2) : Tx (mkG PySem.Challenge.pw_makeranges_k92_houses_refused w K mg base tfL) := by
  have sokL : ∀ c ∈ wsL, SOk (Str.ofString c) := by
    intro c hc
    simp only [wsL, List.mem_cons, List.not_mem_nil, or_false] at hc
    rcases hc with rfl | rfl | rfl | rfl | rfl | rfl | rfl | rfl | rfl | rfl <;> exact ⟨by decide +kernel, by decide +kernel⟩
  have m := c.more
  obtain ⟨m, m3⟩ := He.ba m
  obtain ⟨m, m2⟩ := He.ba m
  obtain ⟨m, m1⟩ := He.ba m
  have ap : apartB tfL K = true := m
  have wf : WordF (mkG PySem.Challenge.pw_makeranges_k92_houses_refused w K mg base tfL) wsL "MakeError" := g_word X N m1 (c.t.d.fact 110 rfl) (fun c0 hc => c.t.d.facts (by
    simp only [wsL, List.mem_cons, List.not_mem_nil, or_false] at hc
    rcases hc with rfl | rfl | rfl | rfl | rfl | rfl | rfl | rfl | rfl | rfl <;> simp [faL, fa0, fa1, fa2]))
  have fdT : FD (mkG PySem.Challenge.pw_makeranges_k92_houses_refused w K mg base tfL) "_law_told" (topS 79) ["deed"] := g_def X N (c.t.d.fact 109 rfl) (c.t.d.def_ 63 rfl) (fun _ _ _ _ _ _ us hl => match us, hl with | [_], _ => rfl)
  have ex_LEAST := m2
  have ex_SIGNS := m3
  exact ⟨He.free_ok X N (c.t.d.fact 0 rfl),
    He.free_ok X N (c.t.d.fact 1 rfl),
    He.free_ok X N (c.t.d.fact 2 rfl),
    He.free_ok X N (c.t.d.fact 3 rfl),
    He.free_ok X N (c.t.d.fact 4 rfl),
    He.free_ok X N (c.t.d.fact 5 rfl),
    He.free_ok X N (c.t.d.fact 6 rfl),
    He.free_ok X N (c.t.d.fact 7 rfl),
    He.free_ok X N (c.t.d.fact 8 rfl),
    He.free_ok X N (c.t.d.fact 9 rfl),
    He.free_ok X N (c.t.d.fact 10 rfl),
    He.free_ok X N (c.t.d.fact 11 rfl),
    He.free_ok X N (c.t.d.fact 12 rfl),
    He.free_ok X N (c.t.d.fact 13 rfl),
    He.free_ok X N (c.t.d.fact 14 rfl),
    He.free_ok X N (c.t.d.fact 15 rfl),
    He.free_ok X N (c.t.d.fact 16 rfl),
    He.free_ok X N (c.t.d.fact 17 rfl),
    He.free_ok X N (c.t.d.fact 18 rfl),
    g_str ⟨by decide +kernel, by decide +kernel⟩ X N (c.t.d.fact 19 rfl),
    g_int X N (c.t.d.fact 20 rfl),
    g_tupK X N (c.t.d.fact 21 rfl) ex_LEAST,
    g_int X N (c.t.d.fact 22 rfl),
    g_int X N (c.t.d.fact 23 rfl),
    g_int X N (c.t.d.fact 24 rfl),
    g_int X N (c.t.d.fact 25 rfl),
    g_int X N (c.t.d.fact 26 rfl),
    g_int X N (c.t.d.fact 27 rfl),
    g_int X N (c.t.d.fact 28 rfl),
    g_int X N (c.t.d.fact 29 rfl),
    g_tupK X N (c.t.d.fact 30 rfl) ex_SIGNS,
    g_str ⟨by decide +kernel, by decide +kernel⟩ X N (c.t.d.fact 31 rfl),
    g_exc X N (c.t.d.fact 32 rfl) (c.t.d.fact 33 rfl),
    g_exc X N (c.t.d.fact 34 rfl) (c.t.d.fact 35 rfl),
    g_exc X N (c.t.d.fact 36 rfl) (c.t.d.fact 37 rfl),
    g_exc X N (c.t.d.fact 38 rfl) (c.t.d.fact 39 rfl),
    g_def X N (c.t.d.fact 40 rfl) (c.t.d.def_ 0 rfl) (fun _ _ _ _ _ _ us hl => match us, hl with | [_, _, _], _ => rfl),
    g_def X N (c.t.d.fact 41 rfl) (c.t.d.def_ 1 rfl) (fun _ _ _ _ _ _ us hl => match us, hl with | [_], _ => rfl),
    g_def X N (c.t.d.fact 42 rfl) (c.t.d.def_ 2 rfl) (fun _ _ _ _ _ _ us hl => match us, hl with | [_], _ => rfl),
    g_def X N (c.t.d.fact 43 rfl) (c.t.d.def_ 3 rfl) (fun _ _ _ _ _ _ us hl => match us, hl with | [_], _ => rfl),
    g_def X N (c.t.d.fact 44 rfl) (c.t.d.def_ 4 rfl) (fun _ _ _ _ _ _ us hl => match us, hl with | [_], _ => rfl),
    g_def X N (c.t.d.fact 45 rfl) (c.t.d.def_ 5 rfl) (fun _ _ _ _ _ _ us hl => match us, hl with | [_], _ => rfl),
    g_def X N (c.t.d.fact 46 rfl) (c.t.d.def_ 6 rfl) (fun _ _ _ _ _ _ us hl => match us, hl with | [_], _ => rfl),
    g_def X N (c.t.d.fact 47 rfl) (c.t.d.def_ 7 rfl) (fun _ _ _ _ _ _ us hl => match us, hl with | [_], _ => rfl),
    g_def X N (c.t.d.fact 48 rfl) (c.t.d.def_ 8 rfl) (fun _ _ _ _ _ _ us hl => match us, hl with | [_], _ => rfl),
    g_def X N (c.t.d.fact 49 rfl) (c.t.d.def_ 9 rfl) (fun _ _ _ _ _ _ us hl => match us, hl with | [_], _ => rfl),
    g_def X N (c.t.d.fact 50 rfl) (c.t.d.def_ 10 rfl) (fun _ _ _ _ _ _ us hl => match us, hl with | [], _ => rfl),
    g_def X N (c.t.d.fact 51 rfl) (c.t.d.def_ 11 rfl) (fun _ _ _ _ _ _ us hl => match us, hl with | [_, _], _ => rfl),
    g_def X N (c.t.d.fact 52 rfl) (c.t.d.def_ 12 rfl) (fun _ _ _ _ _ _ us hl => match us, hl with | [_, _], _ => rfl),
    g_def X N (c.t.d.fact 53 rfl) (c.t.d.def_ 13 rfl) (fun _ _ _ _ _ _ us hl => match us, hl with | [_, _], _ => rfl),
    g_def X N (c.t.d.fact 54 rfl) (c.t.d.def_ 14 rfl) (fun _ _ _ _ _ _ us hl => match us, hl with | [_], _ => rfl),
    g_def X N (c.t.d.fact 55 rfl) (c.t.d.def_ 15 rfl) (fun _ _ _ _ _ _ us hl => match us, hl with | [_], _ => rfl),
    g_def X N (c.t.d.fact 56 rfl) (c.t.d.def_ 16 rfl) (fun _ _ _ _ _ _ us hl => match us, hl with | [_, _], _ => rfl),
    g_def X N (c.t.d.fact 57 rfl) (c.t.d.def_ 17 rfl) (fun _ _ _ _ _ _ us hl => match us, hl with | [_], _ => rfl),
    g_def X N (c.t.d.fact 58 rfl) (c.t.d.def_ 18 rfl) (fun _ _ _ _ _ _ us hl => match us, hl with | [_], _ => rfl),
    g_def X N (c.t.d.fact 59 rfl) (c.t.d.def_ 19 rfl) (fun _ _ _ _ _ _ us hl => match us, hl with | [_, _], _ => rfl),
    g_def X N (c.t.d.fact 60 rfl) (c.t.d.def_ 20 rfl) (fun _ _ _ _ _ _ us hl => match us, hl with | [_, _], _ => rfl),
    g_def X N (c.t.d.fact 61 rfl) (c.t.d.def_ 21 rfl) (fun _ _ _ _ _ _ us hl => match us, hl with | [_, _], _ => rfl),
    g_def X N (c.t.d.fact 62 rfl) (c.t.d.def_ 22 rfl) (fun _ _ _ _ _ _ us hl => match us, hl with | [_], _ => rfl),
    g_def X N (c.t.d.fact 63 rfl) (c.t.d.def_ 23 rfl) (fun _ _ _ _ _ _ us hl => match us, hl with | [_], _ => rfl),
    g_def X N (c.t.d.fact 64 rfl) (c.t.d.def_ 24 rfl) (fun _ _ _ _ _ _ us hl => match us, hl with | [_], _ => rfl),
    g_def X N (c.t.d.fact 65 rfl) (c.t.d.def_ 25 rfl) (fun _ _ _ _ _ _ us hl => match us, hl with | [_, _, _], _ => rfl),
    g_def X N (c.t.d.fact 66 rfl) (c.t.d.def_ 26 rfl) (fun _ _ _ _ _ _ us hl => match us, hl with | [_], _ => rfl),
    g_def X N (c.t.d.fact 67 rfl) (c.t.d.def_ 27 rfl) (fun _ _ _ _ _ _ us hl => match us, hl with | [_], _ => rfl),
    g_def X N (c.t.d.fact 68 rfl) (c.t.d.def_ 28 rfl) (fun _ _ _ _ _ _ us hl => match us, hl with | [_], _ => rfl),
    g_def X N (c.t.d.fact 69 rfl) (c.t.d.def_ 29 rfl) (fun _ _ _ _ _ _ us hl => match us, hl with | [_], _ => rfl),
    g_def X N (c.t.d.fact 70 rfl) (c.t.d.def_ 30 rfl) (fun _ _ _ _ _ _ us hl => match us, hl with | [_, _], _ => rfl),
    g_def X N (c.t.d.fact 71 rfl) (c.t.d.def_ 31 rfl) (fun _ _ _ _ _ _ us hl => match us, hl with | [_, _, _], _ => rfl),
    g_def X N (c.t.d.fact 72 rfl) (c.t.d.def_ 32 rfl) (fun _ _ _ _ _ _ us hl => match us, hl with | [_, _, _], _ => rfl),
    g_def X N (c.t.d.fact 73 rfl) (c.t.d.def_ 33 rfl) (fun _ _ _ _ _ _ us hl => match us, hl with | [_, _, _, _], _ => rfl),
    g_def X N (c.t.d.fact 74 rfl) (c.t.d.def_ 34 rfl) (fun _ _ _ _ _ _ us hl => match us, hl with | [_, _, _], _ => rfl),
    g_def X N (c.t.d.fact 75 rfl) (c.t.d.def_ 35 rfl) (fun _ _ _ _ _ _ us hl => match us, hl with | [_, _, _], _ => rfl),
    g_def X N (c.t.d.fact 76 rfl) (c.t.d.def_ 36 rfl) (fun _ _ _ _ _ _ us hl => match us, hl with | [_, _, _], _ => rfl),
    g_def X N (c.t.d.fact 77 rfl) (c.t.d.def_ 37 rfl) (fun _ _ _ _ _ _ us hl => match us, hl with | [_], _ => rfl),
    g_def X N (c.t.d.fact 78 rfl) (c.t.d.def_ 38 rfl) (fun _ _ _ _ _ _ us hl => match us, hl with | [_, _], _ => rfl),
    g_def X N (c.t.d.fact 79 rfl) (c.t.d.def_ 39 rfl) (fun _ _ _ _ _ _ us hl => match us, hl with | [_, _, _, _], _ => rfl),
    g_def X N (c.t.d.fact 80 rfl) (c.t.d.def_ 40 rfl) (fun _ _ _ _ _ _ us hl => match us, hl with | [_, _, _, _, _], _ => rfl),
    g_def X N (c.t.d.fact 81 rfl) (c.t.d.def_ 41 rfl) (fun _ _ _ _ _ _ us hl => match us, hl with | [_], _ => rfl),
    g_def X N (c.t.d.fact 82 rfl) (c.t.d.def_ 42 rfl) (fun _ _ _ _ _ _ us hl => match us, hl with | [_, _], _ => rfl),
    g_def X N (c.t.d.fact 83 rfl) (c.t.d.def_ 43 rfl) (fun _ _ _ _ _ _ us hl => match us, hl with | [_, _], _ => rfl),
    g_def X N (c.t.d.fact 84 rfl) (c.t.d.def_ 44 rfl) (fun _ _ _ _ _ _ us hl => match us, hl with | [_], _ => rfl),
    g_def X N (c.t.d.fact 85 rfl) (c.t.d.def_ 45 rfl) (fun _ _ _ _ _ _ us hl => match us, hl with | [_], _ => rfl),
    g_defL X N (c.t.d.fact 86 rfl) (c.t.d.def_ 46 rfl) (fun _ _ _ _ _ _ us hl => match us, hl with | [_, _, _], _ => rfl) ap (by decide) tb,
    g_defL X N (c.t.d.fact 87 rfl) (c.t.d.def_ 47 rfl) (fun _ _ _ _ _ _ us hl => match us, hl with | [_], _ => rfl) ap (by decide) tb,
    g_house X N (c.t.d.fact 88 rfl) (c.t.d.fact 89 rfl) (c.t.d.fact 90 rfl) (c.t.d.fact 91 rfl) (c.t.d.fact 92 rfl) (c.t.d.fact 93 rfl) (c.t.d.fact 94 rfl),
    g_ini (c.t.d.def_ 48 rfl) (fun _ _ _ _ _ _ us hl => match us, hl with | [_, _, _], _ => rfl),
    g_meth (c.t.d.fact 95 rfl) (c.t.d.def_ 49 rfl) (fun _ _ _ _ _ _ us hl => match us, hl with | [_, _, _, _], _ => rfl),
    g_meth (c.t.d.fact 96 rfl) (c.t.d.def_ 50 rfl) (fun _ _ _ _ _ _ us hl => match us, hl with | [_, _, _], _ => rfl),
    g_meth (c.t.d.fact 97 rfl) (c.t.d.def_ 51 rfl) (fun _ _ _ _ _ _ us hl => match us, hl with | [_, _, _], _ => rfl),
    g_meth (c.t.d.fact 98 rfl) (c.t.d.def_ 52 rfl) (fun _ _ _ _ _ _ us hl => match us, hl with | [_, _], _ => rfl),
    g_meth (c.t.d.fact 99 rfl) (c.t.d.def_ 53 rfl) (fun _ _ _ _ _ _ us hl => match us, hl with | [_, _, _, _], _ => rfl),
    g_meth (c.t.d.fact 100 rfl) (c.t.d.def_ 54 rfl) (fun _ _ _ _ _ _ us hl => match us, hl with | [_, _, _], _ => rfl),
    g_meth (c.t.d.fact 101 rfl) (c.t.d.def_ 55 rfl) (fun _ _ _ _ _ _ us hl => match us, hl with | [_, _], _ => rfl),
    g_meth (c.t.d.fact 102 rfl) (c.t.d.def_ 56 rfl) (fun _ _ _ _ _ _ us hl => match us, hl with | [_], _ => rfl),
    g_meth (c.t.d.fact 103 rfl) (c.t.d.def_ 57 rfl) (fun _ _ _ _ _ _ us hl => match us, hl with | [_], _ => rfl),
    g_meth (c.t.d.fact 104 rfl) (c.t.d.def_ 58 rfl) (fun _ _ _ _ _ _ us hl => match us, hl with | [_], _ => rfl),
    g_meth (c.t.d.fact 105 rfl) (c.t.d.def_ 59 rfl) (fun _ _ _ _ _ _ us hl => match us, hl with | [_], _ => rfl),
    g_meth (c.t.d.fact 106 rfl) (c.t.d.def_ 60 rfl) (fun _ _ _ _ _ _ us hl => match us, hl with | [_], _ => rfl),
    g_meth (c.t.d.fact 107 rfl) (c.t.d.def_ 61 rfl) (fun _ _ _ _ _ _ us hl => match us, hl with | [_], _ => rfl),
    g_meth (c.t.d.fact 108 rfl) (c.t.d.def_ 62 rfl) (fun _ _ _ _ _ _ us hl => match us, hl with | [_], _ => rfl),
    ⟨⟨⟨_, _, _, _, _, _, _, _, _, _, rfl⟩, ⟨rfl, rfl, rfl, by decide +kernel, rfl, by decide +kernel, by decide +kernel⟩, rfl, rfl, rfl, rfl, by decide, by decide, by decide, by decide, by decide, by decide⟩, fdT, wf.err, sokL⟩,
    wf⟩
theorem end_ (math : ∀ ns : List Int, ns.length ≤ 63 → s_law [.scr ns] = .ok (.bl true)) : PySem.Challenge.rw_makeranges_k92_houses_refused.Holds := by
  w_on; o_law
  refine HandSHeadRun.head_any (r := rowR) (q := PySem.W.view rowR.prog [82]) (H := hkX) (ob := obX) (M := stepsM) (loose := looseL) (d := HandSHeadRun.topDef rowR.prog 82) (kwd := []) obX_eq
    (by kernel_rfl) (fun s => by kernel_rfl) runX (by kernel_rfl) (by kernel_rfl) (by kernel_rfl) (by rfl) (by first | assumption | decide +kernel) (by decide +kernel) ⟨rfl, rfl, rfl, rfl, rfl, by decide +kernel⟩ ?hw ?hc
  case hw => w_witness2
  case hc =>
    have en : (HandSHeadRun.topDef rowR.prog 82).name = ("law" : PySem.Str) := by kernel_rfl
    refine walk_end (l := PySem.Challenge.rw_makeranges_k92_houses_refused) (n := 63) (k := 21) (x := "script") (f := s_law) rfl (by decide) (by kernel_rfl) ⟨rfl, by decide, by decide⟩ (fun w K mg h base X N c tb _ _ => ?_) (fun w K mg h X N c => ?_) math
    · rw [en]
      exact d_law (tx_of X N c tb)
    · rw [en]
      obtain ⟨fd, F⟩ := c.t.d.def_ 47 rfl
      have b := FunD.bindsA (ps := ["script"]) F fun _ _ _ _ _ _ us hl => match us, hl with | [_], _ => rfl
      obtain ⟨oc, od, dV, kV, doc, pm, an, cdv, ct, osl, e1, e2, _⟩ := F.ex
      exact ⟨_, fd, oc, od, osl, He.glo_ok X N (c.t.d.fact 87 rfl), e2, fun s v => b s [v] rfl⟩
end Mk
set_option maxHeartbeats 4000000
namespace Mk
open PySem PySem.Spec PyProof.Rows L2
theorem depth_list (l : List PyData) : PyData.depth (.list l) = PyData.depthAll l + 1 := by
  first | rfl | simp [PyData.depth]
theorem depth_cons (x : PyData) (l : List PyData) : PyData.depthAll (x :: l) = max x.depth (PyData.depthAll l) := by
  first | rfl | simp [PyData.depthAll]
theorem mul_r {i j : Int} (h : j.natAbs < 2 ^ 64) : mulD (.int i) (.int j) = .ok (.int (i * j)) := by
  have : mulOk i j = true := by simp only [mulOk, h, decide_true, Bool.or_true, Bool.true_or]
  simp only [mulD, this, if_true]
theorem mul_l {i j : Int} (h : i.natAbs < 2 ^ 64) : mulD (.int i) (.int j) = .ok (.int (i * j)) := by
  have : mulOk i j = true := by simp only [mulOk, h, decide_true, Bool.true_or]
  simp only [mulD, this, if_true]
theorem mul_b {i j : Int} (h : i.natAbs < 2 ^ 256) (h' : j.natAbs < 2 ^ 256) : mulD (.int i) (.int j) = .ok (.int (i * j)) := by
  have e : (2 : Nat) ^ 256 ≤ 2 ^ 4096 := Nat.pow_le_pow_right (by decide) (by decide)
  have : mulOk i j = true := by
    have h1 := Nat.lt_of_lt_of_le h e
    have h2 := Nat.lt_of_lt_of_le h' e
    simp only [mulOk, h1, h2, decide_true, Bool.and_true, Bool.or_true]
  simp only [mulD, this, if_true]
theorem div_r {i j : Int} (h : 0 < j) (h' : j.natAbs < 2 ^ 256) : divD (.int i) (.int j) = .ok (.int (i / j)) := by
  have e : (2 : Nat) ^ 256 ≤ 2 ^ 4096 := Nat.pow_le_pow_right (by decide) (by decide)
  have : 0 < j ∧ j.natAbs < 2 ^ 4096 := ⟨h, Nat.lt_of_lt_of_le h' e⟩
  simp only [divD, this, and_self, if_true]
theorem mod_r {i j : Int} (h : 0 < j) : modD (.int i) (.int j) = .ok (.int (i % j)) := by
  simp only [modD, h, if_true]
theorem drawn_ok (c k : Int) : ∃ r, s_l_drawn [.int c, .int k] = .ok (.int r) ∧ 0 ≤ r := by
  have a1 : mulD (.int c) (.int 6364136223846793005) = .ok (.int (c * 6364136223846793005)) := mul_r (by decide)
  have a2 : mulD (.int (k + 1)) (.int 1442695040888963407) = .ok (.int ((k + 1) * 1442695040888963407)) := mul_r (by decide)
  generalize hx : c * 6364136223846793005 + (k + 1) * 1442695040888963407 = x
  have b1 : modD (.int x) (.int 340282366920938463463374607431768211507) = .ok (.int (x % 340282366920938463463374607431768211507)) := mod_r (by decide)
  have c1 : 0 ≤ x % 340282366920938463463374607431768211507 := Int.emod_nonneg _ (by decide)
  have c2 : x % 340282366920938463463374607431768211507 < 340282366920938463463374607431768211507 := Int.emod_lt_of_pos _ (by decide)
  generalize x % 340282366920938463463374607431768211507 = m at *
  have a3 : mulD (.int m) (.int m) = .ok (.int (m * m)) := mul_b (by omega) (by omega)
  generalize m * m = y at *
  have b2 : modD (.int y) (.int 340282366920938463463374607431768211297) = .ok (.int (y % 340282366920938463463374607431768211297)) := mod_r (by decide)
  have c3 : 0 ≤ y % 340282366920938463463374607431768211297 := Int.emod_nonneg _ (by decide)
  have c4 : y % 340282366920938463463374607431768211297 < 340282366920938463463374607431768211297 := Int.emod_lt_of_pos _ (by decide)
  generalize y % 340282366920938463463374607431768211297 = n at *
  have b3 : modD (.int n) (.int 18446744073709551557) = .ok (.int (n % 18446744073709551557)) := mod_r (by decide)
  have b4 : divD (.int n) (.int 18446744073709551557) = .ok (.int (n / 18446744073709551557)) := div_r (by decide) (by decide)
  have d1 : 0 ≤ n % 18446744073709551557 := Int.emod_nonneg _ (by decide)
  have d2 : n % 18446744073709551557 < 18446744073709551557 := Int.emod_lt_of_pos _ (by decide)
  have d3 : 0 ≤ n / 18446744073709551557 := Int.ediv_nonneg c3 (by decide)
  have d4 : n / 18446744073709551557 < 2 ^ 66 := by omega
  generalize n % 18446744073709551557 = u at *
  generalize n / 18446744073709551557 = v at *
  have a4 : mulD (.int (u + 1)) (.int (v + 1)) = .ok (.int ((u + 1) * (v + 1))) := mul_l (by omega)
  have e1 : 0 ≤ (u + 1) * (v + 1) := Int.mul_nonneg (by omega) (by omega)
  have e2 : (u + 1) * (v + 1) ≤ 18446744073709551557 * 2 ^ 66 := Int.mul_le_mul (by omega) (by omega) (by omega) (by decide)
  generalize (u + 1) * (v + 1) = z at *
  have a5 : mulD (.int z) (.int n) = .ok (.int (z * n)) := mul_b (by omega) (by omega)
  generalize z * n = t at *
  have b5 : modD (.int t) (.int 340282366920938463463374607431768211507) = .ok (.int (t % 340282366920938463463374607431768211507)) := mod_r (by decide)
  refine ⟨t % 340282366920938463463374607431768211507, ?_, Int.emod_nonneg _ (by decide)⟩
  simp only [s_l_drawn, w_l_drawn, fnS, startE, outD, sSeq, sSet, sOwn, sIf, sRet, sRetN, sNx, sExc, sDrop, sFor, sApp, sFz, eVar, eOwn, eC, eB, op1, op2, op2b, opL, opT, opI, opI2, opM, opF, aCons, aNil, qAnd, qOr, qNot, qYes, eAnd, eOr, eIf, eNot, opCh, bD, frL, fzL, lcS, lcGo, noX, wipeE, gN, R.bind, R.map, noO, soO, intO, eSl, List.map, List.length, List.replicate, List.append_nil, List.cons_append, List.nil_append, List.getElem?_cons_zero, List.getElem?_cons_succ, List.set_cons_zero, List.set_cons_succ, Nat.sub_self, Nat.reduceSub, Nat.reduceAdd, Nat.reduceLT, Nat.zero_add, if_true, if_false, reduceIte, Bool.false_eq_true, Bool.not_true, Bool.not_false, addD, a1, a2, hx, b1, a3, b2, b3, b4, a4, a5, b5]
theorem eq_scr (n : Int) (ns : List Int) : eqD (.scr (n :: ns)) (.lst []) = .ok false := by
  have dp : ∀ l : List Int, PyData.depthAll (l.map PyData.int) ≤ 1 := by
    intro l
    induction l with
    | nil => decide
    | cons x l ih =>
      rw [List.map_cons, depth_cons]
      exact Nat.max_le.mpr ⟨by show PyData.depth (.int x) ≤ 1; exact Nat.le_of_ble_eq_true rfl, ih⟩
  have ok : eqOk (.scr (n :: ns)) (.lst []) = true := by
    simp only [eqOk, Bool.and_eq_true, decide_eq_true_eq]
    refine ⟨⟨⟨rfl, rfl⟩, ?_⟩, by decide⟩
    show PyData.depth (.list ((n :: ns).map PyData.int)) ≤ 64
    rw [depth_list]
    have := dp (n :: ns)
    omega
  unfold eqD
  rw [if_pos ok]
  rfl
theorem cell_ok (ns : List Int) (k : Int) (h : ns.length ≤ 63) (hk : 0 ≤ k) : ∃ c, s_l_cell [.scr ns, .int k] = .ok (.int c) := by
  cases ns with
  | nil =>
    have e : eqD (.scr []) (.lst []) = .ok true := rfl
    have m : mulD (.int k) (.int 7919) = .ok (.int (k * 7919)) := mul_r (by decide)
    have lim0 : (0 : Nat) ≤ LIM := by decide
    exact ⟨k * 7919, by simp only [s_l_cell, w_l_cell, fnS, startE, outD, sSeq, sSet, sOwn, sIf, sRet, sRetN, sNx, sExc, sDrop, sFor, sApp, sFz, eVar, eOwn, eC, eB, op1, op2, op2b, opL, opT, opI, opI2, opM, opF, aCons, aNil, qAnd, qOr, qNot, qYes, eAnd, eOr, eIf, eNot, opCh, bD, frL, fzL, lcS, lcGo, noX, wipeE, gN, R.bind, R.map, noO, soO, intO, eSl, List.map, List.length, List.replicate, List.append_nil, List.cons_append, List.nil_append, List.getElem?_cons_zero, List.getElem?_cons_succ, List.set_cons_zero, List.set_cons_succ, Nat.sub_self, Nat.reduceSub, Nat.reduceAdd, Nat.reduceLT, Nat.zero_add, if_true, if_false, reduceIte, Bool.false_eq_true, Bool.not_true, Bool.not_false, lstL, lim0, e, m]⟩
  | cons n ns =>
    have e := eq_scr n ns
    have lim0 : (0 : Nat) ≤ LIM := by decide
    have hl : lenD (.scr (n :: ns)) = .ok (.int ((n :: ns).length : Nat)) := rfl
    have hl63 : ((n :: ns).length : Int) ≤ 63 := by omega
    have hl0 : 0 < ((n :: ns).length : Int) := by simp only [List.length_cons]; omega
    generalize hL : ((n :: ns).length : Int) = L at *
    have m1 : modD (.int k) (.int L) = .ok (.int (k % L)) := mod_r hl0
    have d1 : divD (.int k) (.int L) = .ok (.int (k / L)) := div_r hl0 (by
      have : L.natAbs ≤ 63 := by omega
      exact Nat.lt_of_le_of_lt this (by decide))
    have u1 : mulD (.int (k / L)) (.int 104729) = .ok (.int (k / L * 104729)) := mul_r (by decide)
    have p1 : 0 ≤ k % L := Int.emod_nonneg _ (by omega)
    have p2 : k % L < L := Int.emod_lt_of_pos _ hl0
    have hat : ∃ v, ixD (.scr (n :: ns)) (.int (k % L)) = .ok (.int v) := by
      have hj : (k % L).toNat < (n :: ns).length := by omega
      refine ⟨(n :: ns)[(k % L).toNat], ?_⟩
      show (ofO (atI (n :: ns) (k % L))).map D.int = _
      have : atI (n :: ns) (k % L) = some ((n :: ns)[(k % L).toNat]) := by
        unfold atI ixN
        rw [if_pos p1, if_pos (by rw [hL]; exact p2)]
        show (n :: ns)[(k % L).toNat]? = _
        exact List.getElem?_eq_getElem hj
      rw [this]
      rfl
    obtain ⟨v, hv⟩ := hat
    exact ⟨v + k / L * 104729, by simp only [s_l_cell, w_l_cell, fnS, startE, outD, sSeq, sSet, sOwn, sIf, sRet, sRetN, sNx, sExc, sDrop, sFor, sApp, sFz, eVar, eOwn, eC, eB, op1, op2, op2b, opL, opT, opI, opI2, opM, opF, aCons, aNil, qAnd, qOr, qNot, qYes, eAnd, eOr, eIf, eNot, opCh, bD, frL, fzL, lcS, lcGo, noX, wipeE, gN, R.bind, R.map, noO, soO, intO, eSl, List.map, List.length, List.replicate, List.append_nil, List.cons_append, List.nil_append, List.getElem?_cons_zero, List.getElem?_cons_succ, List.set_cons_zero, List.set_cons_succ, Nat.sub_self, Nat.reduceSub, Nat.reduceAdd, Nat.reduceLT, Nat.zero_add, if_true, if_false, reduceIte, Bool.false_eq_true, Bool.not_true, Bool.not_false, lstL, lim0, e, hl, m1, d1, u1, hv, addD]⟩
def mk4D (a b c : Int) (e : D) : D := .tup [.int a, .int b, .int c, e]
def drS : List D := [.non, .tup [.str "b", .int 0], .tup [.str "b", .int 1]]
theorem small_ok (m : Int) : ∃ a b c e, s_l_small [.int m] = .ok (mk4D a b c e) ∧ (a = 1 ∨ a = 2 ∨ a = 3) ∧ (b = 0 ∨ b = 1) ∧ (c = 0 ∨ c = 1) ∧ e ∈ drS := by
  have d8 : divD (.int m) (.int 8) = .ok (.int (m / 8)) := div_r (by decide) (by decide)
  have d32 : divD (.int m) (.int 32) = .ok (.int (m / 32)) := div_r (by decide) (by decide)
  have d64 : divD (.int m) (.int 64) = .ok (.int (m / 64)) := div_r (by decide) (by decide)
  have d128 : divD (.int m) (.int 128) = .ok (.int (m / 128)) := div_r (by decide) (by decide)
  have m3 : modD (.int m) (.int 3) = .ok (.int (m % 3)) := mod_r (by decide)
  have m8 : modD (.int (m / 8)) (.int 2) = .ok (.int (m / 8 % 2)) := mod_r (by decide)
  have m32 : modD (.int (m / 32)) (.int 2) = .ok (.int (m / 32 % 2)) := mod_r (by decide)
  have m64 : modD (.int (m / 64)) (.int 4) = .ok (.int (m / 64 % 4)) := mod_r (by decide)
  have m128 : modD (.int (m / 128)) (.int 2) = .ok (.int (m / 128 % 2)) := mod_r (by decide)
  have q0 : ∀ x : Int, eqD (.int x) (.int 0) = .ok (decide (x = 0)) := fun x => by
    show R.ok (PyData.eqv (.int x) (.int 0)) = _
    exact congrArg R.ok rfl
  have l2 : (2 : Nat) ≤ LIM := by decide
  have l4 : (4 : Nat) ≤ LIM := by decide
  by_cases h : m / 64 % 4 = 0
  · refine ⟨1 + m % 3, m / 8 % 2, m / 32 % 2, .tup [.str "b", .int (m / 128 % 2)], ?_, by omega, by omega, by omega, ?_⟩
    · simp only [s_l_small, w_l_small, fnS, startE, outD, sSeq, sSet, sOwn, sIf, sRet, sRetN, sNx, sExc, sDrop, sFor, sApp, sFz, eVar, eOwn, eC, eB, op1, op2, op2b, opL, opT, opI, opI2, opM, opF, aCons, aNil, qAnd, qOr, qNot, qYes, eAnd, eOr, eIf, eNot, opCh, bD, frL, fzL, lcS, lcGo, noX, wipeE, gN, R.bind, R.map, noO, soO, intO, eSl, List.map, List.length, List.replicate, List.append_nil, List.cons_append, List.nil_append, List.getElem?_cons_zero, List.getElem?_cons_succ, List.set_cons_zero, List.set_cons_succ, Nat.sub_self, Nat.reduceSub, Nat.reduceAdd, Nat.reduceLT, Nat.zero_add, if_true, if_false, reduceIte, Bool.false_eq_true, Bool.not_true, Bool.not_false, addD, d8, d32, d64, d128, m3, m8, m32, m64, m128, q0, h, decide_true, tupD, l2, l4, mk4D]
    · have : m / 128 % 2 = 0 ∨ m / 128 % 2 = 1 := by omega
      rcases this with e | e <;> rw [e] <;> simp [drS]
  · refine ⟨1 + m % 3, m / 8 % 2, m / 32 % 2, .non, ?_, by omega, by omega, by omega, by simp [drS]⟩
    simp only [s_l_small, w_l_small, fnS, startE, outD, sSeq, sSet, sOwn, sIf, sRet, sRetN, sNx, sExc, sDrop, sFor, sApp, sFz, eVar, eOwn, eC, eB, op1, op2, op2b, opL, opT, opI, opI2, opM, opF, aCons, aNil, qAnd, qOr, qNot, qYes, eAnd, eOr, eIf, eNot, opCh, bD, frL, fzL, lcS, lcGo, noX, wipeE, gN, R.bind, R.map, noO, soO, intO, eSl, List.map, List.length, List.replicate, List.append_nil, List.cons_append, List.nil_append, List.getElem?_cons_zero, List.getElem?_cons_succ, List.set_cons_zero, List.set_cons_succ, Nat.sub_self, Nat.reduceSub, Nat.reduceAdd, Nat.reduceLT, Nat.zero_add, if_true, if_false, reduceIte, Bool.false_eq_true, Bool.not_true, Bool.not_false, addD, d8, d32, d64, d128, m3, m8, m32, m64, m128, q0, h, decide_false, tupD, l2, l4, mk4D]
theorem seq_nx {f g : En → R Out} {env env' : En} {r : R Out} (h : f env = .ok (.nx env')) (h2 : g env' = r) : sSeq f g env = r := by
  unfold sSeq
  rw [h]
  exact h2
theorem seq_to {f g : En → R Out} {env env' : En} (h : f env = .ok (.nx env')) : sSeq f g env = g env' := seq_nx h rfl
end Mk
set_option maxHeartbeats 4000000
namespace Mk
open PySem PySem.Spec PyProof.Rows L2
def allL : D := .lst [.lst [.tup [.str ("*" : PySem.Str), .tup [], .non]]]
def now0 : D := .tup [.dic [], .lst [], .dic []]
def st0 : HSt := ⟨.bl true, now0, [now0], []⟩
def badZ : D := .lst [.tup [.str ("A" : PySem.Str), allL]]
def runQ : List (En → R Out) → En → R Out
  | [], env => .ok (.nx env)
  | f :: fs, env => match f env with
    | .ok (.nx e) => runQ fs e
    | r => r
theorem seqQ {f g : En → R Out} {fs : List (En → R Out)} {env env' : En} (h : runQ (f :: fs) env = .ok (.nx env')) (h2 : ∀ e, runQ fs e = .ok (.nx env') → g e = h3) : sSeq f g env = h3 := by
  unfold runQ at h
  cases hf : f env with
  | ok o =>
    rw [hf] at h
    cases o with
    | nx e => exact seq_nx hf (h2 e h)
    | bk e => cases h
    | ct e => cases h
    | rt d => cases h
  | exc c => rw [hf] at h; cases h
  | bad => rw [hf] at h; cases h
theorem runQ_nil {e env' : En} (h : runQ [] e = .ok (.nx env')) : e = env' := by
  unfold runQ at h
  injection h with h
  injection h
theorem seq8 {f1 f2 f3 f4 f5 f6 f7 f8 g : En → R Out} {env env' : En} (h : runQ [f1, f2, f3, f4, f5, f6, f7, f8] env = .ok (.nx env')) : sSeq f1 (sSeq f2 (sSeq f3 (sSeq f4 (sSeq f5 (sSeq f6 (sSeq f7 (sSeq f8 g))))))) env = g env' :=
  seqQ h fun _ h => seqQ h fun _ h => seqQ h fun _ h => seqQ h fun _ h => seqQ h fun _ h => seqQ h fun _ h => seqQ h fun _ h => seqQ h fun _ h => by rw [runQ_nil h]
def lastW : En → R Out := sIfE (andE (liftQ (op2b (eVar 1) (eC (.int 0)) eqD)) (notE (truE (eCO 6 (aCons (eVar 3) (aCons (eVar 2) aNil)) s_l_full_right)))) (sRet (eC (.bl false))) sNx
theorem b6 (ns : List Int) (k : Int) (h : ns.length ≤ 63) (hk : 0 ≤ k) (e2 e3 e4 e5 e6 e7 : Option SV) : ∃ m a b c e, b_law_6 [some (.fro (.scr ns)), some (.fro (.int k)), e2, e3, e4, e5, e6, e7] =
    lastW [some (.fro (.scr ns)), some (.fro (.int k)), some (.fro (.int m)), some (.fro allL), some (.fro (mk4D a b c e)), some (.fro badZ), some (.ob st0), none] := by
  obtain ⟨c0, hc⟩ := cell_ok ns k h hk
  obtain ⟨m, hm, _⟩ := drawn_ok c0 k
  obtain ⟨a, b, c, e, hs, ha, hb, hcc, he⟩ := small_ok (m / 8)
  have d8 : divD (.int m) (.int 8) = .ok (.int (m / 8)) := div_r (by decide) (by decide)
  have l0 : (0 : Nat) ≤ LIM := by decide
  have l1 : (1 : Nat) ≤ LIM := by decide
  have l2 : (2 : Nat) ≤ LIM := by decide
  have l3 : (3 : Nat) ≤ LIM := by decide
  refine ⟨m, a, b, c, e, ?_⟩
  unfold b_law_6
  refine seq_nx (env' := [some (.fro (.scr ns)), some (.fro (.int k)), some (.fro (.int m)), e3, e4, e5, e6, e7]) ?_ ?_
  · simp only [fnS, startE, outD, sSeq, sSet, sOwn, sIf, sRet, sRetN, sNx, sExc, sDrop, sFor, sApp, sFz, eVar, eOwn, eC, eB, op1, op2, op2b, opL, opT, opI, opI2, opM, opF, aCons, aNil, qAnd, qOr, qNot, qYes, eAnd, eOr, eIf, eNot, opCh, bD, frL, fzL, lcS, lcGo, noX, wipeE, gN, R.bind, R.map, noO, soO, intO, eSl, List.map, List.length, List.replicate, List.append_nil, List.cons_append, List.nil_append, List.getElem?_cons_zero, List.getElem?_cons_succ, List.set_cons_zero, List.set_cons_succ, Nat.sub_self, Nat.reduceSub, Nat.reduceAdd, Nat.reduceLT, Nat.zero_add, if_true, if_false, reduceIte, Bool.false_eq_true, Bool.not_true, Bool.not_false, hc, hm]
  refine seq_nx (env' := [some (.fro (.scr ns)), some (.fro (.int k)), some (.fro (.int m)), some (.fro allL), some (.fro (mk4D a b c e)), e5, e6, e7]) ?_ ?_
  · simp only [fnS, startE, outD, sSeq, sSet, sOwn, sIf, sRet, sRetN, sNx, sExc, sDrop, sFor, sApp, sFz, eVar, eOwn, eC, eB, op1, op2, op2b, opL, opT, opI, opI2, opM, opF, aCons, aNil, qAnd, qOr, qNot, qYes, eAnd, eOr, eIf, eNot, opCh, bD, frL, fzL, lcS, lcGo, noX, wipeE, gN, R.bind, R.map, noO, soO, intO, eSl, List.map, List.length, List.replicate, List.append_nil, List.cons_append, List.nil_append, List.getElem?_cons_zero, List.getElem?_cons_succ, List.set_cons_zero, List.set_cons_succ, Nat.sub_self, Nat.reduceSub, Nat.reduceAdd, Nat.reduceLT, Nat.zero_add, if_true, if_false, reduceIte, Bool.false_eq_true, Bool.not_true, Bool.not_false, sAsg, gT, gNs, lstL, tupD, l0, l1, l2, l3, d8, hs, allL]
  simp only [drS, List.mem_cons, List.not_mem_nil, or_false] at he
  refine seq8 ?_
  rcases ha with rfl | rfl | rfl
  all_goals rcases hb with rfl | rfl
  all_goals rcases hcc with rfl | rfl
  all_goals rcases he with rfl | rfl | rfl
  all_goals kernel_rfl
end Mk
set_option maxHeartbeats 4000000
namespace Mk
open PySem PySem.Spec PyProof.Rows L2
def mkJ (n j : Int) : D := .tup [.int n, .int j, .int 0, .non]
def enJ (n j : Int) : D := .tup [mkJ n j, .lst []]
def shJ (j : Int) : Nat → List (Key × D)
  | 0 => []
  | 1 => [(.inr "a", .lst [enJ 0 j])]
  | 2 => [(.inr "a", .lst [enJ 0 j, enJ 1 j])]
  | 3 => [(.inr "a", .lst [enJ 0 j, enJ 1 j, enJ 2 j])]
  | 4 => [(.inr "a", .lst [enJ 0 j, enJ 1 j, enJ 2 j, enJ 3 j])]
  | 5 => [(.inr "a", .lst [enJ 0 j, enJ 1 j, enJ 2 j, enJ 3 j]), (.inr "b", .lst [enJ 4 j])]
  | 6 => [(.inr "a", .lst [enJ 0 j, enJ 1 j, enJ 2 j, enJ 3 j]), (.inr "b", .lst [enJ 4 j]), (.inr "cc", .lst [enJ 5 j])]
  | _ => [(.inr "a", .lst [enJ 0 j, enJ 1 j, enJ 2 j, enJ 3 j]), (.inr "b", .lst [enJ 4 j]), (.inr "cc", .lst [enJ 5 j]), (.inr "dddd", .lst [enJ 6 j])]
def nwJ (j : Int) (n : Nat) : D := .tup [.dic (shJ j n), .lst [], .dic []]
def stJ (j : Int) (n : Nat) : HSt := ⟨.bl true, nwJ j n, now0 :: (List.range n).map (nwJ j), []⟩
def nmJ : Nat → Str
  | 0 => "a"
  | 1 => "b"
  | 2 => "cc"
  | _ => "dddd"
def wnJ : Nat → List D
  | 0 => []
  | n + 1 => wnJ n ++ [.tup [.str (nmJ n), allL]]
def lkJ (j : Int) : Nat → List (Key × D)
  | 0 => []
  | n + 1 => lkJ j n ++ [(.inr (nmJ n), mkJ (3 + n) j)]
def nvJ (j : Int) (n : Nat) : D := .tup [.dic (shJ j 7), .lst (wnJ n), .dic (lkJ j n)]
def suJ (j : Int) (n : Nat) : HSt := ⟨.bl true, nvJ j n, now0 :: (List.range 7).map (nwJ j) ++ (List.range n).map (nvJ j), []⟩
def shK (j : Int) : List (Key × D) := [(.inr "a", .lst [enJ 0 j, enJ 1 j, enJ 2 j]), (.inr "b", .lst [enJ 4 j]), (.inr "cc", .lst [enJ 5 j]), (.inr "dddd", .lst [enJ 6 j])]
def stK (j : Int) : HSt := ⟨.bl true, .tup [.dic (shK j), .lst (wnJ 4), .dic [(.inr "a", mkJ 2 j), (.inr "b", mkJ 4 j), (.inr "cc", mkJ 5 j), (.inr "dddd", mkJ 6 j)]], (suJ j 4).past ++ [nvJ j 4], []⟩
def nmsL : D := .lst [.str ("a" : PySem.Str), .str ("b" : PySem.Str), .str ("cc" : PySem.Str), .str ("dddd" : PySem.Str)]
def q1 : En → R Out := (sFor (opI (eC (.int 7)) rg1) (gN 5) b_l_full_right_1)
def q2 : En → R Out := (sFor (opI (fzL (frL (aCons (opL (aCons (eC (.str ("a" : PySem.Str))) (aCons (opL (aCons (eC (.int 77)) (aCons (eC (.int 0)) (aCons (eC (.int 0)) (aCons (eC .non) aNil)))) tupD) aNil)) tupD) (aCons (opL (aCons (eC (.str ("e" : PySem.Str))) (aCons (opL (aCons (eC (.int 1)) (aCons (eC (.int 1)) (aCons (eC (.int 1)) (aCons (eC .non) aNil)))) tupD) aNil)) tupD) (aCons (opL (aCons (eC (.str ("b" : PySem.Str))) (aCons (opL (aCons (eC (.int 4)) (aCons (eVar 4) (aCons (eC (.int 0)) (aCons (eC .non) aNil)))) tupD) aNil)) tupD) aNil))) lstL)) itD) (gT 2 [gN 6, gN 7]) b_l_full_right_2)
def q3 : En → R Out := (sFor (opI (eVar 3) enumD) (gT 2 [gN 5, gN 6]) b_l_full_right_3)
def q4 : En → R Out := (sIf (qOr (op2b (toldE wsL (eMX 0 (aCons (eC (.str ("e" : PySem.Str))) (aCons (eVar 1) aNil)) s_H_want)) (eC (.str ("BadShelf" : PySem.Str))) neD) (qOr (qNot (opT (eMP 0 aNil s_H_is_best))) (op2b (op1 (eMP 0 aNil s_H_lock) lenD) (eC (.int 4)) neD))) (sRet (eC (.bl false))) sNx)
def q5 : En → R Out := (sIfE (cmpE (eME 0 (aCons (eC (.str ("a" : PySem.Str))) (aCons (opL (aCons (eC (.int 3)) (aCons (eVar 4) (aCons (eC (.int 0)) (aCons (eC .non) aNil)))) tupD) aNil)) s_H_take) (fzL (frL (aCons (opL (aCons (eC (.str ("a" : PySem.Str))) (aCons (opL (aCons (eC (.int 3)) (aCons (eVar 4) (aCons (eC (.int 0)) (aCons (eC .non) aNil)))) tupD) (aCons (opL (aCons (eC (.int 2)) (aCons (eVar 4) (aCons (eC (.int 0)) (aCons (eC .non) aNil)))) tupD) aNil))) tupD) aNil) lstL)) neD) (sRet (eC (.bl false))) sNx)
def q6 : En → R Out := (sRet (op2 (toldE wsL (eMX 0 (aCons (eC (.str ("a" : PySem.Str))) (aCons (opL (aCons (eC (.int 3)) (aCons (eVar 4) (aCons (eC (.int 0)) (aCons (eC .non) aNil)))) tupD) aNil)) s_H_take)) (eC (.str ("BadShelf" : PySem.Str))) (bD eqD)))
theorem q1_0 (m : Int) : q1 [some (.ob (st0)), some (.fro allL), some (.fro (.int m)), some (.fro nmsL), some (.fro (.int 0)), none, none, none] = .ok (.nx [some (.ob (stJ 0 7)), some (.fro allL), some (.fro (.int m)), some (.fro nmsL), some (.fro (.int 0)), some (.fro (.int 6)), none, none]) := by kernel_rfl
theorem q2_0 (m : Int) : q2 [some (.ob (stJ 0 7)), some (.fro allL), some (.fro (.int m)), some (.fro nmsL), some (.fro (.int 0)), some (.fro (.int 6)), none, none] = .ok (.nx [some (.ob (stJ 0 7)), some (.fro allL), some (.fro (.int m)), some (.fro nmsL), some (.fro (.int 0)), some (.fro (.int 6)), some (.fro (.str "b")), some (.fro (mkJ 4 0))]) := by kernel_rfl
theorem q3_0 (m : Int) : q3 [some (.ob (stJ 0 7)), some (.fro allL), some (.fro (.int m)), some (.fro nmsL), some (.fro (.int 0)), some (.fro (.int 6)), some (.fro (.str "b")), some (.fro (mkJ 4 0))] = .ok (.nx [some (.ob (suJ 0 4)), some (.fro allL), some (.fro (.int m)), some (.fro nmsL), some (.fro (.int 0)), some (.fro (.int 3)), some (.fro (.str "dddd")), some (.fro (mkJ 4 0))]) := by kernel_rfl
theorem q4_0 (m : Int) : q4 [some (.ob (suJ 0 4)), some (.fro allL), some (.fro (.int m)), some (.fro nmsL), some (.fro (.int 0)), some (.fro (.int 3)), some (.fro (.str "dddd")), some (.fro (mkJ 4 0))] = .ok (.nx [some (.ob (suJ 0 4)), some (.fro allL), some (.fro (.int m)), some (.fro nmsL), some (.fro (.int 0)), some (.fro (.int 3)), some (.fro (.str "dddd")), some (.fro (mkJ 4 0))]) := by kernel_rfl
theorem q5_0 (m : Int) : q5 [some (.ob (suJ 0 4)), some (.fro allL), some (.fro (.int m)), some (.fro nmsL), some (.fro (.int 0)), some (.fro (.int 3)), some (.fro (.str "dddd")), some (.fro (mkJ 4 0))] = .ok (.nx [some (.ob (stK 0)), some (.fro allL), some (.fro (.int m)), some (.fro nmsL), some (.fro (.int 0)), some (.fro (.int 3)), some (.fro (.str "dddd")), some (.fro (mkJ 4 0))]) := by kernel_rfl
theorem q6_0 (m : Int) : q6 [some (.ob (stK 0)), some (.fro allL), some (.fro (.int m)), some (.fro nmsL), some (.fro (.int 0)), some (.fro (.int 3)), some (.fro (.str "dddd")), some (.fro (mkJ 4 0))] = .ok (.rt (.bl true)) := by kernel_rfl
theorem qq_0 (m : Int) : sSeq q1 (sSeq q2 (sSeq q3 (sSeq q4 (sSeq q5 q6)))) [some (.ob (st0)), some (.fro allL), some (.fro (.int m)), some (.fro nmsL), some (.fro (.int 0)), none, none, none] = .ok (.rt (.bl true)) := seq_nx (q1_0 m) (seq_nx (q2_0 m) (seq_nx (q3_0 m) (seq_nx (q4_0 m) (seq_nx (q5_0 m) (q6_0 m)))))
theorem q1_1 (m : Int) : q1 [some (.ob (st0)), some (.fro allL), some (.fro (.int m)), some (.fro nmsL), some (.fro (.int 1)), none, none, none] = .ok (.nx [some (.ob (stJ 1 7)), some (.fro allL), some (.fro (.int m)), some (.fro nmsL), some (.fro (.int 1)), some (.fro (.int 6)), none, none]) := by kernel_rfl
theorem q2_1 (m : Int) : q2 [some (.ob (stJ 1 7)), some (.fro allL), some (.fro (.int m)), some (.fro nmsL), some (.fro (.int 1)), some (.fro (.int 6)), none, none] = .ok (.nx [some (.ob (stJ 1 7)), some (.fro allL), some (.fro (.int m)), some (.fro nmsL), some (.fro (.int 1)), some (.fro (.int 6)), some (.fro (.str "b")), some (.fro (mkJ 4 1))]) := by kernel_rfl
theorem q3_1 (m : Int) : q3 [some (.ob (stJ 1 7)), some (.fro allL), some (.fro (.int m)), some (.fro nmsL), some (.fro (.int 1)), some (.fro (.int 6)), some (.fro (.str "b")), some (.fro (mkJ 4 1))] = .ok (.nx [some (.ob (suJ 1 4)), some (.fro allL), some (.fro (.int m)), some (.fro nmsL), some (.fro (.int 1)), some (.fro (.int 3)), some (.fro (.str "dddd")), some (.fro (mkJ 4 1))]) := by kernel_rfl
theorem q4_1 (m : Int) : q4 [some (.ob (suJ 1 4)), some (.fro allL), some (.fro (.int m)), some (.fro nmsL), some (.fro (.int 1)), some (.fro (.int 3)), some (.fro (.str "dddd")), some (.fro (mkJ 4 1))] = .ok (.nx [some (.ob (suJ 1 4)), some (.fro allL), some (.fro (.int m)), some (.fro nmsL), some (.fro (.int 1)), some (.fro (.int 3)), some (.fro (.str "dddd")), some (.fro (mkJ 4 1))]) := by kernel_rfl
theorem q5_1 (m : Int) : q5 [some (.ob (suJ 1 4)), some (.fro allL), some (.fro (.int m)), some (.fro nmsL), some (.fro (.int 1)), some (.fro (.int 3)), some (.fro (.str "dddd")), some (.fro (mkJ 4 1))] = .ok (.nx [some (.ob (stK 1)), some (.fro allL), some (.fro (.int m)), some (.fro nmsL), some (.fro (.int 1)), some (.fro (.int 3)), some (.fro (.str "dddd")), some (.fro (mkJ 4 1))]) := by kernel_rfl
theorem q6_1 (m : Int) : q6 [some (.ob (stK 1)), some (.fro allL), some (.fro (.int m)), some (.fro nmsL), some (.fro (.int 1)), some (.fro (.int 3)), some (.fro (.str "dddd")), some (.fro (mkJ 4 1))] = .ok (.rt (.bl true)) := by kernel_rfl
theorem qq_1 (m : Int) : sSeq q1 (sSeq q2 (sSeq q3 (sSeq q4 (sSeq q5 q6)))) [some (.ob (st0)), some (.fro allL), some (.fro (.int m)), some (.fro nmsL), some (.fro (.int 1)), none, none, none] = .ok (.rt (.bl true)) := seq_nx (q1_1 m) (seq_nx (q2_1 m) (seq_nx (q3_1 m) (seq_nx (q4_1 m) (seq_nx (q5_1 m) (q6_1 m)))))
theorem q1_2 (m : Int) : q1 [some (.ob (st0)), some (.fro allL), some (.fro (.int m)), some (.fro nmsL), some (.fro (.int 2)), none, none, none] = .ok (.nx [some (.ob (stJ 2 7)), some (.fro allL), some (.fro (.int m)), some (.fro nmsL), some (.fro (.int 2)), some (.fro (.int 6)), none, none]) := by kernel_rfl
theorem q2_2 (m : Int) : q2 [some (.ob (stJ 2 7)), some (.fro allL), some (.fro (.int m)), some (.fro nmsL), some (.fro (.int 2)), some (.fro (.int 6)), none, none] = .ok (.nx [some (.ob (stJ 2 7)), some (.fro allL), some (.fro (.int m)), some (.fro nmsL), some (.fro (.int 2)), some (.fro (.int 6)), some (.fro (.str "b")), some (.fro (mkJ 4 2))]) := by kernel_rfl
theorem q3_2 (m : Int) : q3 [some (.ob (stJ 2 7)), some (.fro allL), some (.fro (.int m)), some (.fro nmsL), some (.fro (.int 2)), some (.fro (.int 6)), some (.fro (.str "b")), some (.fro (mkJ 4 2))] = .ok (.nx [some (.ob (suJ 2 4)), some (.fro allL), some (.fro (.int m)), some (.fro nmsL), some (.fro (.int 2)), some (.fro (.int 3)), some (.fro (.str "dddd")), some (.fro (mkJ 4 2))]) := by kernel_rfl
theorem q4_2 (m : Int) : q4 [some (.ob (suJ 2 4)), some (.fro allL), some (.fro (.int m)), some (.fro nmsL), some (.fro (.int 2)), some (.fro (.int 3)), some (.fro (.str "dddd")), some (.fro (mkJ 4 2))] = .ok (.nx [some (.ob (suJ 2 4)), some (.fro allL), some (.fro (.int m)), some (.fro nmsL), some (.fro (.int 2)), some (.fro (.int 3)), some (.fro (.str "dddd")), some (.fro (mkJ 4 2))]) := by kernel_rfl
theorem q5_2 (m : Int) : q5 [some (.ob (suJ 2 4)), some (.fro allL), some (.fro (.int m)), some (.fro nmsL), some (.fro (.int 2)), some (.fro (.int 3)), some (.fro (.str "dddd")), some (.fro (mkJ 4 2))] = .ok (.nx [some (.ob (stK 2)), some (.fro allL), some (.fro (.int m)), some (.fro nmsL), some (.fro (.int 2)), some (.fro (.int 3)), some (.fro (.str "dddd")), some (.fro (mkJ 4 2))]) := by kernel_rfl
theorem q6_2 (m : Int) : q6 [some (.ob (stK 2)), some (.fro allL), some (.fro (.int m)), some (.fro nmsL), some (.fro (.int 2)), some (.fro (.int 3)), some (.fro (.str "dddd")), some (.fro (mkJ 4 2))] = .ok (.rt (.bl true)) := by kernel_rfl
theorem qq_2 (m : Int) : sSeq q1 (sSeq q2 (sSeq q3 (sSeq q4 (sSeq q5 q6)))) [some (.ob (st0)), some (.fro allL), some (.fro (.int m)), some (.fro nmsL), some (.fro (.int 2)), none, none, none] = .ok (.rt (.bl true)) := seq_nx (q1_2 m) (seq_nx (q2_2 m) (seq_nx (q3_2 m) (seq_nx (q4_2 m) (seq_nx (q5_2 m) (q6_2 m)))))
theorem q1_3 (m : Int) : q1 [some (.ob (st0)), some (.fro allL), some (.fro (.int m)), some (.fro nmsL), some (.fro (.int 3)), none, none, none] = .ok (.nx [some (.ob (stJ 3 7)), some (.fro allL), some (.fro (.int m)), some (.fro nmsL), some (.fro (.int 3)), some (.fro (.int 6)), none, none]) := by kernel_rfl
theorem q2_3 (m : Int) : q2 [some (.ob (stJ 3 7)), some (.fro allL), some (.fro (.int m)), some (.fro nmsL), some (.fro (.int 3)), some (.fro (.int 6)), none, none] = .ok (.nx [some (.ob (stJ 3 7)), some (.fro allL), some (.fro (.int m)), some (.fro nmsL), some (.fro (.int 3)), some (.fro (.int 6)), some (.fro (.str "b")), some (.fro (mkJ 4 3))]) := by kernel_rfl
theorem q3_3 (m : Int) : q3 [some (.ob (stJ 3 7)), some (.fro allL), some (.fro (.int m)), some (.fro nmsL), some (.fro (.int 3)), some (.fro (.int 6)), some (.fro (.str "b")), some (.fro (mkJ 4 3))] = .ok (.nx [some (.ob (suJ 3 4)), some (.fro allL), some (.fro (.int m)), some (.fro nmsL), some (.fro (.int 3)), some (.fro (.int 3)), some (.fro (.str "dddd")), some (.fro (mkJ 4 3))]) := by kernel_rfl
theorem q4_3 (m : Int) : q4 [some (.ob (suJ 3 4)), some (.fro allL), some (.fro (.int m)), some (.fro nmsL), some (.fro (.int 3)), some (.fro (.int 3)), some (.fro (.str "dddd")), some (.fro (mkJ 4 3))] = .ok (.nx [some (.ob (suJ 3 4)), some (.fro allL), some (.fro (.int m)), some (.fro nmsL), some (.fro (.int 3)), some (.fro (.int 3)), some (.fro (.str "dddd")), some (.fro (mkJ 4 3))]) := by kernel_rfl
theorem q5_3 (m : Int) : q5 [some (.ob (suJ 3 4)), some (.fro allL), some (.fro (.int m)), some (.fro nmsL), some (.fro (.int 3)), some (.fro (.int 3)), some (.fro (.str "dddd")), some (.fro (mkJ 4 3))] = .ok (.nx [some (.ob (stK 3)), some (.fro allL), some (.fro (.int m)), some (.fro nmsL), some (.fro (.int 3)), some (.fro (.int 3)), some (.fro (.str "dddd")), some (.fro (mkJ 4 3))]) := by kernel_rfl
theorem q6_3 (m : Int) : q6 [some (.ob (stK 3)), some (.fro allL), some (.fro (.int m)), some (.fro nmsL), some (.fro (.int 3)), some (.fro (.int 3)), some (.fro (.str "dddd")), some (.fro (mkJ 4 3))] = .ok (.rt (.bl true)) := by kernel_rfl
theorem qq_3 (m : Int) : sSeq q1 (sSeq q2 (sSeq q3 (sSeq q4 (sSeq q5 q6)))) [some (.ob (st0)), some (.fro allL), some (.fro (.int m)), some (.fro nmsL), some (.fro (.int 3)), none, none, none] = .ok (.rt (.bl true)) := seq_nx (q1_3 m) (seq_nx (q2_3 m) (seq_nx (q3_3 m) (seq_nx (q4_3 m) (seq_nx (q5_3 m) (q6_3 m)))))
theorem q1_4 (m : Int) : q1 [some (.ob (st0)), some (.fro allL), some (.fro (.int m)), some (.fro nmsL), some (.fro (.int 4)), none, none, none] = .ok (.nx [some (.ob (stJ 4 7)), some (.fro allL), some (.fro (.int m)), some (.fro nmsL), some (.fro (.int 4)), some (.fro (.int 6)), none, none]) := by kernel_rfl
theorem q2_4 (m : Int) : q2 [some (.ob (stJ 4 7)), some (.fro allL), some (.fro (.int m)), some (.fro nmsL), some (.fro (.int 4)), some (.fro (.int 6)), none, none] = .ok (.nx [some (.ob (stJ 4 7)), some (.fro allL), some (.fro (.int m)), some (.fro nmsL), some (.fro (.int 4)), some (.fro (.int 6)), some (.fro (.str "b")), some (.fro (mkJ 4 4))]) := by kernel_rfl
theorem q3_4 (m : Int) : q3 [some (.ob (stJ 4 7)), some (.fro allL), some (.fro (.int m)), some (.fro nmsL), some (.fro (.int 4)), some (.fro (.int 6)), some (.fro (.str "b")), some (.fro (mkJ 4 4))] = .ok (.nx [some (.ob (suJ 4 4)), some (.fro allL), some (.fro (.int m)), some (.fro nmsL), some (.fro (.int 4)), some (.fro (.int 3)), some (.fro (.str "dddd")), some (.fro (mkJ 4 4))]) := by kernel_rfl
theorem q4_4 (m : Int) : q4 [some (.ob (suJ 4 4)), some (.fro allL), some (.fro (.int m)), some (.fro nmsL), some (.fro (.int 4)), some (.fro (.int 3)), some (.fro (.str "dddd")), some (.fro (mkJ 4 4))] = .ok (.nx [some (.ob (suJ 4 4)), some (.fro allL), some (.fro (.int m)), some (.fro nmsL), some (.fro (.int 4)), some (.fro (.int 3)), some (.fro (.str "dddd")), some (.fro (mkJ 4 4))]) := by kernel_rfl
theorem q5_4 (m : Int) : q5 [some (.ob (suJ 4 4)), some (.fro allL), some (.fro (.int m)), some (.fro nmsL), some (.fro (.int 4)), some (.fro (.int 3)), some (.fro (.str "dddd")), some (.fro (mkJ 4 4))] = .ok (.nx [some (.ob (stK 4)), some (.fro allL), some (.fro (.int m)), some (.fro nmsL), some (.fro (.int 4)), some (.fro (.int 3)), some (.fro (.str "dddd")), some (.fro (mkJ 4 4))]) := by kernel_rfl
theorem q6_4 (m : Int) : q6 [some (.ob (stK 4)), some (.fro allL), some (.fro (.int m)), some (.fro nmsL), some (.fro (.int 4)), some (.fro (.int 3)), some (.fro (.str "dddd")), some (.fro (mkJ 4 4))] = .ok (.rt (.bl true)) := by kernel_rfl
theorem qq_4 (m : Int) : sSeq q1 (sSeq q2 (sSeq q3 (sSeq q4 (sSeq q5 q6)))) [some (.ob (st0)), some (.fro allL), some (.fro (.int m)), some (.fro nmsL), some (.fro (.int 4)), none, none, none] = .ok (.rt (.bl true)) := seq_nx (q1_4 m) (seq_nx (q2_4 m) (seq_nx (q3_4 m) (seq_nx (q4_4 m) (seq_nx (q5_4 m) (q6_4 m)))))
theorem q1_5 (m : Int) : q1 [some (.ob (st0)), some (.fro allL), some (.fro (.int m)), some (.fro nmsL), some (.fro (.int 5)), none, none, none] = .ok (.nx [some (.ob (stJ 5 7)), some (.fro allL), some (.fro (.int m)), some (.fro nmsL), some (.fro (.int 5)), some (.fro (.int 6)), none, none]) := by kernel_rfl
theorem q2_5 (m : Int) : q2 [some (.ob (stJ 5 7)), some (.fro allL), some (.fro (.int m)), some (.fro nmsL), some (.fro (.int 5)), some (.fro (.int 6)), none, none] = .ok (.nx [some (.ob (stJ 5 7)), some (.fro allL), some (.fro (.int m)), some (.fro nmsL), some (.fro (.int 5)), some (.fro (.int 6)), some (.fro (.str "b")), some (.fro (mkJ 4 5))]) := by kernel_rfl
theorem q3_5 (m : Int) : q3 [some (.ob (stJ 5 7)), some (.fro allL), some (.fro (.int m)), some (.fro nmsL), some (.fro (.int 5)), some (.fro (.int 6)), some (.fro (.str "b")), some (.fro (mkJ 4 5))] = .ok (.nx [some (.ob (suJ 5 4)), some (.fro allL), some (.fro (.int m)), some (.fro nmsL), some (.fro (.int 5)), some (.fro (.int 3)), some (.fro (.str "dddd")), some (.fro (mkJ 4 5))]) := by kernel_rfl
theorem q4_5 (m : Int) : q4 [some (.ob (suJ 5 4)), some (.fro allL), some (.fro (.int m)), some (.fro nmsL), some (.fro (.int 5)), some (.fro (.int 3)), some (.fro (.str "dddd")), some (.fro (mkJ 4 5))] = .ok (.nx [some (.ob (suJ 5 4)), some (.fro allL), some (.fro (.int m)), some (.fro nmsL), some (.fro (.int 5)), some (.fro (.int 3)), some (.fro (.str "dddd")), some (.fro (mkJ 4 5))]) := by kernel_rfl
theorem q5_5 (m : Int) : q5 [some (.ob (suJ 5 4)), some (.fro allL), some (.fro (.int m)), some (.fro nmsL), some (.fro (.int 5)), some (.fro (.int 3)), some (.fro (.str "dddd")), some (.fro (mkJ 4 5))] = .ok (.nx [some (.ob (stK 5)), some (.fro allL), some (.fro (.int m)), some (.fro nmsL), some (.fro (.int 5)), some (.fro (.int 3)), some (.fro (.str "dddd")), some (.fro (mkJ 4 5))]) := by kernel_rfl
theorem q6_5 (m : Int) : q6 [some (.ob (stK 5)), some (.fro allL), some (.fro (.int m)), some (.fro nmsL), some (.fro (.int 5)), some (.fro (.int 3)), some (.fro (.str "dddd")), some (.fro (mkJ 4 5))] = .ok (.rt (.bl true)) := by kernel_rfl
theorem qq_5 (m : Int) : sSeq q1 (sSeq q2 (sSeq q3 (sSeq q4 (sSeq q5 q6)))) [some (.ob (st0)), some (.fro allL), some (.fro (.int m)), some (.fro nmsL), some (.fro (.int 5)), none, none, none] = .ok (.rt (.bl true)) := seq_nx (q1_5 m) (seq_nx (q2_5 m) (seq_nx (q3_5 m) (seq_nx (q4_5 m) (seq_nx (q5_5 m) (q6_5 m)))))
theorem q1_6 (m : Int) : q1 [some (.ob (st0)), some (.fro allL), some (.fro (.int m)), some (.fro nmsL), some (.fro (.int 6)), none, none, none] = .ok (.nx [some (.ob (stJ 6 7)), some (.fro allL), some (.fro (.int m)), some (.fro nmsL), some (.fro (.int 6)), some (.fro (.int 6)), none, none]) := by kernel_rfl
theorem q2_6 (m : Int) : q2 [some (.ob (stJ 6 7)), some (.fro allL), some (.fro (.int m)), some (.fro nmsL), some (.fro (.int 6)), some (.fro (.int 6)), none, none] = .ok (.nx [some (.ob (stJ 6 7)), some (.fro allL), some (.fro (.int m)), some (.fro nmsL), some (.fro (.int 6)), some (.fro (.int 6)), some (.fro (.str "b")), some (.fro (mkJ 4 6))]) := by kernel_rfl
theorem q3_6 (m : Int) : q3 [some (.ob (stJ 6 7)), some (.fro allL), some (.fro (.int m)), some (.fro nmsL), some (.fro (.int 6)), some (.fro (.int 6)), some (.fro (.str "b")), some (.fro (mkJ 4 6))] = .ok (.nx [some (.ob (suJ 6 4)), some (.fro allL), some (.fro (.int m)), some (.fro nmsL), some (.fro (.int 6)), some (.fro (.int 3)), some (.fro (.str "dddd")), some (.fro (mkJ 4 6))]) := by kernel_rfl
theorem q4_6 (m : Int) : q4 [some (.ob (suJ 6 4)), some (.fro allL), some (.fro (.int m)), some (.fro nmsL), some (.fro (.int 6)), some (.fro (.int 3)), some (.fro (.str "dddd")), some (.fro (mkJ 4 6))] = .ok (.nx [some (.ob (suJ 6 4)), some (.fro allL), some (.fro (.int m)), some (.fro nmsL), some (.fro (.int 6)), some (.fro (.int 3)), some (.fro (.str "dddd")), some (.fro (mkJ 4 6))]) := by kernel_rfl
theorem q5_6 (m : Int) : q5 [some (.ob (suJ 6 4)), some (.fro allL), some (.fro (.int m)), some (.fro nmsL), some (.fro (.int 6)), some (.fro (.int 3)), some (.fro (.str "dddd")), some (.fro (mkJ 4 6))] = .ok (.nx [some (.ob (stK 6)), some (.fro allL), some (.fro (.int m)), some (.fro nmsL), some (.fro (.int 6)), some (.fro (.int 3)), some (.fro (.str "dddd")), some (.fro (mkJ 4 6))]) := by kernel_rfl
theorem q6_6 (m : Int) : q6 [some (.ob (stK 6)), some (.fro allL), some (.fro (.int m)), some (.fro nmsL), some (.fro (.int 6)), some (.fro (.int 3)), some (.fro (.str "dddd")), some (.fro (mkJ 4 6))] = .ok (.rt (.bl true)) := by kernel_rfl
theorem qq_6 (m : Int) : sSeq q1 (sSeq q2 (sSeq q3 (sSeq q4 (sSeq q5 q6)))) [some (.ob (st0)), some (.fro allL), some (.fro (.int m)), some (.fro nmsL), some (.fro (.int 6)), none, none, none] = .ok (.rt (.bl true)) := seq_nx (q1_6 m) (seq_nx (q2_6 m) (seq_nx (q3_6 m) (seq_nx (q4_6 m) (seq_nx (q5_6 m) (q6_6 m)))))
theorem q1_7 (m : Int) : q1 [some (.ob (st0)), some (.fro allL), some (.fro (.int m)), some (.fro nmsL), some (.fro (.int 7)), none, none, none] = .ok (.nx [some (.ob (stJ 7 7)), some (.fro allL), some (.fro (.int m)), some (.fro nmsL), some (.fro (.int 7)), some (.fro (.int 6)), none, none]) := by kernel_rfl
theorem q2_7 (m : Int) : q2 [some (.ob (stJ 7 7)), some (.fro allL), some (.fro (.int m)), some (.fro nmsL), some (.fro (.int 7)), some (.fro (.int 6)), none, none] = .ok (.nx [some (.ob (stJ 7 7)), some (.fro allL), some (.fro (.int m)), some (.fro nmsL), some (.fro (.int 7)), some (.fro (.int 6)), some (.fro (.str "b")), some (.fro (mkJ 4 7))]) := by kernel_rfl
theorem q3_7 (m : Int) : q3 [some (.ob (stJ 7 7)), some (.fro allL), some (.fro (.int m)), some (.fro nmsL), some (.fro (.int 7)), some (.fro (.int 6)), some (.fro (.str "b")), some (.fro (mkJ 4 7))] = .ok (.nx [some (.ob (suJ 7 4)), some (.fro allL), some (.fro (.int m)), some (.fro nmsL), some (.fro (.int 7)), some (.fro (.int 3)), some (.fro (.str "dddd")), some (.fro (mkJ 4 7))]) := by kernel_rfl
theorem q4_7 (m : Int) : q4 [some (.ob (suJ 7 4)), some (.fro allL), some (.fro (.int m)), some (.fro nmsL), some (.fro (.int 7)), some (.fro (.int 3)), some (.fro (.str "dddd")), some (.fro (mkJ 4 7))] = .ok (.nx [some (.ob (suJ 7 4)), some (.fro allL), some (.fro (.int m)), some (.fro nmsL), some (.fro (.int 7)), some (.fro (.int 3)), some (.fro (.str "dddd")), some (.fro (mkJ 4 7))]) := by kernel_rfl
theorem q5_7 (m : Int) : q5 [some (.ob (suJ 7 4)), some (.fro allL), some (.fro (.int m)), some (.fro nmsL), some (.fro (.int 7)), some (.fro (.int 3)), some (.fro (.str "dddd")), some (.fro (mkJ 4 7))] = .ok (.nx [some (.ob (stK 7)), some (.fro allL), some (.fro (.int m)), some (.fro nmsL), some (.fro (.int 7)), some (.fro (.int 3)), some (.fro (.str "dddd")), some (.fro (mkJ 4 7))]) := by kernel_rfl
theorem q6_7 (m : Int) : q6 [some (.ob (stK 7)), some (.fro allL), some (.fro (.int m)), some (.fro nmsL), some (.fro (.int 7)), some (.fro (.int 3)), some (.fro (.str "dddd")), some (.fro (mkJ 4 7))] = .ok (.rt (.bl true)) := by kernel_rfl
theorem qq_7 (m : Int) : sSeq q1 (sSeq q2 (sSeq q3 (sSeq q4 (sSeq q5 q6)))) [some (.ob (st0)), some (.fro allL), some (.fro (.int m)), some (.fro nmsL), some (.fro (.int 7)), none, none, none] = .ok (.rt (.bl true)) := seq_nx (q1_7 m) (seq_nx (q2_7 m) (seq_nx (q3_7 m) (seq_nx (q4_7 m) (seq_nx (q5_7 m) (q6_7 m)))))
theorem q1_8 (m : Int) : q1 [some (.ob (st0)), some (.fro allL), some (.fro (.int m)), some (.fro nmsL), some (.fro (.int 8)), none, none, none] = .ok (.nx [some (.ob (stJ 8 7)), some (.fro allL), some (.fro (.int m)), some (.fro nmsL), some (.fro (.int 8)), some (.fro (.int 6)), none, none]) := by kernel_rfl
theorem q2_8 (m : Int) : q2 [some (.ob (stJ 8 7)), some (.fro allL), some (.fro (.int m)), some (.fro nmsL), some (.fro (.int 8)), some (.fro (.int 6)), none, none] = .ok (.nx [some (.ob (stJ 8 7)), some (.fro allL), some (.fro (.int m)), some (.fro nmsL), some (.fro (.int 8)), some (.fro (.int 6)), some (.fro (.str "b")), some (.fro (mkJ 4 8))]) := by kernel_rfl
theorem q3_8 (m : Int) : q3 [some (.ob (stJ 8 7)), some (.fro allL), some (.fro (.int m)), some (.fro nmsL), some (.fro (.int 8)), some (.fro (.int 6)), some (.fro (.str "b")), some (.fro (mkJ 4 8))] = .ok (.nx [some (.ob (suJ 8 4)), some (.fro allL), some (.fro (.int m)), some (.fro nmsL), some (.fro (.int 8)), some (.fro (.int 3)), some (.fro (.str "dddd")), some (.fro (mkJ 4 8))]) := by kernel_rfl
theorem q4_8 (m : Int) : q4 [some (.ob (suJ 8 4)), some (.fro allL), some (.fro (.int m)), some (.fro nmsL), some (.fro (.int 8)), some (.fro (.int 3)), some (.fro (.str "dddd")), some (.fro (mkJ 4 8))] = .ok (.nx [some (.ob (suJ 8 4)), some (.fro allL), some (.fro (.int m)), some (.fro nmsL), some (.fro (.int 8)), some (.fro (.int 3)), some (.fro (.str "dddd")), some (.fro (mkJ 4 8))]) := by kernel_rfl
theorem q5_8 (m : Int) : q5 [some (.ob (suJ 8 4)), some (.fro allL), some (.fro (.int m)), some (.fro nmsL), some (.fro (.int 8)), some (.fro (.int 3)), some (.fro (.str "dddd")), some (.fro (mkJ 4 8))] = .ok (.nx [some (.ob (stK 8)), some (.fro allL), some (.fro (.int m)), some (.fro nmsL), some (.fro (.int 8)), some (.fro (.int 3)), some (.fro (.str "dddd")), some (.fro (mkJ 4 8))]) := by kernel_rfl
theorem q6_8 (m : Int) : q6 [some (.ob (stK 8)), some (.fro allL), some (.fro (.int m)), some (.fro nmsL), some (.fro (.int 8)), some (.fro (.int 3)), some (.fro (.str "dddd")), some (.fro (mkJ 4 8))] = .ok (.rt (.bl true)) := by kernel_rfl
theorem qq_8 (m : Int) : sSeq q1 (sSeq q2 (sSeq q3 (sSeq q4 (sSeq q5 q6)))) [some (.ob (st0)), some (.fro allL), some (.fro (.int m)), some (.fro nmsL), some (.fro (.int 8)), none, none, none] = .ok (.rt (.bl true)) := seq_nx (q1_8 m) (seq_nx (q2_8 m) (seq_nx (q3_8 m) (seq_nx (q4_8 m) (seq_nx (q5_8 m) (q6_8 m)))))
theorem full_ok (m : Int) : s_l_full_right st0 [allL, .int m] = .ok (.bl true) := by
  have m9 : modD (.int m) (.int 9) = .ok (.int (m % 9)) := mod_r (by decide)
  have l2 : (2 : Nat) ≤ LIM := by decide
  have l4 : (4 : Nat) ≤ LIM := by decide
  have h9 : m % 9 = 0 ∨ m % 9 = 1 ∨ m % 9 = 2 ∨ m % 9 = 3 ∨ m % 9 = 4 ∨ m % 9 = 5 ∨ m % 9 = 6 ∨ m % 9 = 7 ∨ m % 9 = 8 := by omega
  have go : w_l_full_right [some (.ob st0), some (.fro allL), some (.fro (.int m)), none, none, none, none, none] = .ok (.rt (.bl true)) := by
    unfold w_l_full_right
    refine seq_nx (env' := [some (.ob st0), some (.fro allL), some (.fro (.int m)), some (.fro nmsL), some (.fro (.int (m % 9))), none, none, none]) ?_ ?_
    · simp only [fnS, startE, outD, sSeq, sSet, sOwn, sIf, sRet, sRetN, sNx, sExc, sDrop, sFor, sApp, sFz, eVar, eOwn, eC, eB, op1, op2, op2b, opL, opT, opI, opI2, opM, opF, aCons, aNil, qAnd, qOr, qNot, qYes, eAnd, eOr, eIf, eNot, opCh, bD, frL, fzL, lcS, lcGo, noX, wipeE, gN, R.bind, R.map, noO, soO, intO, eSl, List.map, List.length, List.replicate, List.append_nil, List.cons_append, List.nil_append, List.getElem?_cons_zero, List.getElem?_cons_succ, List.set_cons_zero, List.set_cons_succ, Nat.sub_self, Nat.reduceSub, Nat.reduceAdd, Nat.reduceLT, Nat.zero_add, if_true, if_false, reduceIte, Bool.false_eq_true, Bool.not_true, Bool.not_false, sAsg, gT, gNs, lstL, tupD, l2, l4, m9, nmsL]
    rcases h9 with e | e | e | e | e | e | e | e | e
    all_goals rw [e]
    · exact qq_0 m
    · exact qq_1 m
    · exact qq_2 m
    · exact qq_3 m
    · exact qq_4 m
    · exact qq_5 m
    · exact qq_6 m
    · exact qq_7 m
    · exact qq_8 m
  show (if 3 = 3 then (w_l_full_right [some (.ob st0), some (.fro allL), some (.fro (.int m)), none, none, none, none, none]).bind outD else .bad) = _
  rw [if_pos rfl, go]
  rfl
end Mk
set_option maxHeartbeats 4000000
namespace Mk
open PySem PySem.Spec PyProof.Rows L2
theorem lp_inv {t : D → En → R En} {f : En → R Out} (I : En → Prop) : ∀ {ds : List D} {env : En}, I env → (∀ d ∈ ds, ∀ env, I env → ∃ e1 e2, t d env = .ok e1 ∧ f e1 = .ok (.nx e2) ∧ I e2) → ∃ env', lpGo t f ds env = .ok (.nx env') ∧ I env'
  | [], env, h, _ => ⟨env, rfl, h⟩
  | d :: ds, env, h, step => by
    obtain ⟨e1, e2, h1, h2, h3⟩ := step d List.mem_cons_self env h
    obtain ⟨e3, h4, h5⟩ := lp_inv I h3 fun d' hd => step d' (List.mem_cons_of_mem _ hd)
    refine ⟨e3, ?_, h5⟩
    show (t d env).bind _ = _
    rw [h1]
    show (f e1).bind _ = _
    rw [h2]
    exact h4
theorem for_inv {fi : En → R (List D)} {t : D → En → R En} {f : En → R Out} (I : En → Prop) {ds : List D} {env : En} (hd : fi env = .ok ds) (h : I env) (step : ∀ d ∈ ds, ∀ env, I env → ∃ e1 e2, t d env = .ok e1 ∧ f e1 = .ok (.nx e2) ∧ I e2) : ∃ env', sFor fi t f env = .ok (.nx env') ∧ I env' := by
  unfold sFor
  rw [hd]
  exact lp_inv I h step
theorem eqD_int0 (k : Int) : eqD (.int k) (.int 0) = .ok (decide (k = 0)) := by
  show R.ok (PyData.eqv (.int k) (.int 0)) = _
  exact congrArg R.ok rfl
theorem last_ok (ns : List Int) (k m a b c : Int) (e : D) : ∃ e6, lastW [some (.fro (.scr ns)), some (.fro (.int k)), some (.fro (.int m)), some (.fro allL), some (.fro (mk4D a b c e)), some (.fro badZ), some (.ob st0), none] =
    .ok (.nx [some (.fro (.scr ns)), some (.fro (.int k)), some (.fro (.int m)), some (.fro allL), some (.fro (mk4D a b c e)), some (.fro badZ), e6, none]) := by
  have f := full_ok m
  by_cases h : k = 0
  · refine ⟨none, ?_⟩
    have q : eqD (.int k) (.int 0) = .ok true := by rw [eqD_int0, decide_eq_true h]
    simp only [lastW, fnS, startE, outD, sSeq, sSet, sOwn, sIf, sRet, sRetN, sNx, sExc, sDrop, sFor, sApp, sFz, eVar, eOwn, eC, eB, op1, op2, op2b, opL, opT, opI, opI2, opM, opF, aCons, aNil, qAnd, qOr, qNot, qYes, eAnd, eOr, eIf, eNot, opCh, bD, frL, fzL, lcS, lcGo, noX, wipeE, gN, R.bind, R.map, noO, soO, intO, eSl, List.map, List.length, List.replicate, List.append_nil, List.cons_append, List.nil_append, List.getElem?_cons_zero, List.getElem?_cons_succ, List.set_cons_zero, List.set_cons_succ, Nat.sub_self, Nat.reduceSub, Nat.reduceAdd, Nat.reduceLT, Nat.zero_add, if_true, if_false, reduceIte, Bool.false_eq_true, Bool.not_true, Bool.not_false, sIfE, andE, liftQ, notE, truE, eCO, dropOwn, q, f, truthD]
  · refine ⟨some (.ob st0), ?_⟩
    have q : eqD (.int k) (.int 0) = .ok false := by rw [eqD_int0, decide_eq_false h]
    simp only [lastW, fnS, startE, outD, sSeq, sSet, sOwn, sIf, sRet, sRetN, sNx, sExc, sDrop, sFor, sApp, sFz, eVar, eOwn, eC, eB, op1, op2, op2b, opL, opT, opI, opI2, opM, opF, aCons, aNil, qAnd, qOr, qNot, qYes, eAnd, eOr, eIf, eNot, opCh, bD, frL, fzL, lcS, lcGo, noX, wipeE, gN, R.bind, R.map, noO, soO, intO, eSl, List.map, List.length, List.replicate, List.append_nil, List.cons_append, List.nil_append, List.getElem?_cons_zero, List.getElem?_cons_succ, List.set_cons_zero, List.set_cons_succ, Nat.sub_self, Nat.reduceSub, Nat.reduceAdd, Nat.reduceLT, Nat.zero_add, if_true, if_false, reduceIte, Bool.false_eq_true, Bool.not_true, Bool.not_false, sIfE, andE, liftQ, notE, truE, eCO, dropOwn, q, f, truthD]
theorem law_math (ns : List Int) (hns : ns.length ≤ 63) : s_law [.scr ns] = .ok (.bl true) := by
  show (w_law [some (.fro (.scr ns)), none, none, none, none, none, none, none]).bind outD = _
  unfold w_law
  have hit : ∃ ds : List D, opI (op2 (eC (.int 1)) (op2 (eC (.int 4)) (op1 (eVar 0) lenD) minD2) maxD2) rg1 [some (.fro (.scr ns)), none, none, none, none, none, none, none] = .ok ds ∧ ∀ d ∈ ds, ∃ k : Int, d = .int k ∧ 0 ≤ k := by
    have hl : lenD (.scr ns) = .ok (.int (ns.length : Nat)) := rfl
    have hm : ∃ j : Int, maxD2 (.int 1) (.int (if (ns.length : Int) < 4 then (ns.length : Int) else 4)) = .ok (.int j) ∧ 0 ≤ j ∧ j ≤ 4 := by
      refine ⟨_, rfl, ?_, ?_⟩ <;> split <;> split <;> omega
    obtain ⟨j, hj, j0, j4⟩ := hm
    have hmin : minD2 (.int 4) (.int (ns.length : Nat)) = .ok (.int (if (ns.length : Int) < 4 then (ns.length : Int) else 4)) := rfl
    have hc : -(2 ^ 62) ≤ (0 : Int) ∧ (0 : Int) < 2 ^ 62 ∧ -(2 ^ 62) ≤ j ∧ j < 2 ^ 62 := by omega
    refine ⟨(List.range (j - 0).toNat).map fun (n : Nat) => D.int (0 + (n : Int)), ?_, fun d hd => ?_⟩
    · simp only [opI, op2, op1, eC, eVar, List.getElem?_cons_zero, R.bind, hl, hmin, hj, rg1, rgD]
      rw [if_pos hc]
    · obtain ⟨n, _, rfl⟩ := List.mem_map.mp hd
      exact ⟨_, rfl, by omega⟩
  obtain ⟨ds, hds, hk⟩ := hit
  obtain ⟨v, g, e1, e2, e3, e4, e5, e6, e7, rfl⟩ := for_inv (t := gN 1) (f := b_law_6) (fun env => ∃ e1 e2 e3 e4 e5 e6 e7, env = [some (.fro (.scr ns)), e1, e2, e3, e4, e5, e6, e7]) hds ⟨_, _, _, _, _, _, _, rfl⟩
    (fun d hd env ⟨e1, e2, e3, e4, e5, e6, e7, ee⟩ => by
      subst ee
      obtain ⟨k, rfl, k0⟩ := hk d hd
      obtain ⟨m, a, b, c, e, hb⟩ := b6 ns k hns k0 e2 e3 e4 e5 e6 e7
      obtain ⟨f6, hl⟩ := last_ok ns k m a b c e
      exact ⟨_, _, rfl, hb.trans hl, _, _, _, _, _, _, _, rfl⟩)
  rw [seq_to g]
  rfl
end Mk
theorem PySem.Challenge.cw_makeranges_k92_houses_refused_holds : PySem.Challenge.rw_makeranges_k92_houses_refused.Holds :=
  Mk.end_ Mk.law_math
