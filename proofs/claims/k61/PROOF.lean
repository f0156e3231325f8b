import PyProof.Rows.All
import Wide.All
import OpenK.AllK
import Wide.FinOn
import KE.KStateDown
import HandS.ForMost
import PySem.Challenge.RW_eachcut_k61_whole_texts_of_rows_there_an
import HandS.ForExc
import HandS.Defaults
import KE.KExcInit
import HandS.ExcField
import HandS.Head0
import HandS.Head1
import HandS.Head2
import HandS.HeadHook1
import HandS.HeadHook2
import HandS.HeadHook3
import HandS.HeadHook4
import HandS.Evl
import HandS.Walk
import HandS.IsInst
import HandS.FStr
import HandS.TupAny
import HandS.RaiseMore
import HandS.Zip
import KE.GoesMore
import HandS.Words
import HandS.Codes
import HandS.Set
import HandS.TupSets
import HandS.SetFor
import HandS.Strs
import HandS.More
import HandS.Exc
import HandS.ExcOwn
import HandS.WordsExc
import HandS.Flow
import HandS.Style
import PyProof.ReprRoads
import PyProof.RowDictHeap
import HandS.HeadEnd
import PyProof.ReprBulk
section
set_option Elab.async false
set_option linter.all false
set_option maxRecDepth 100000
set_option maxHeartbeats 4000000

namespace K61
open PySem L2
abbrev prg : Program := PySem.Challenge.pw_eachcut_k61_whole_texts_of_rows_there_an
def top (i : Nat) : Stmt := prg.main.body.getD i (.Pass ⟨0, 0, 0, 0⟩)
abbrev s_is_integer : Stmt := top 5
abbrev s_is_count : Stmt := top 6
abbrev s_is_row_looks : Stmt := top 7
abbrev s_is_one_of : Stmt := top 9
abbrev s_is_rising : Stmt := top 10
abbrev s_is_key : Stmt := top 19
abbrev s_is_operation_value : Stmt := top 20
abbrev s_is_content_value : Stmt := top 21
abbrev s_is_row_value : Stmt := top 22
abbrev s_need_row : Stmt := top 23
abbrev s_text_of_content : Stmt := top 24
abbrev s_text_of_row : Stmt := top 25
abbrev s_number_in : Stmt := top 26
abbrev s_entry_in : Stmt := top 27
abbrev s_content_in : Stmt := top 28
abbrev s_row_in : Stmt := top 29
abbrev s_is_row_disks : Stmt := top 31
abbrev s_row_text : Stmt := top 33
abbrev s_read_row : Stmt := top 34
abbrev s_law_dealt : Stmt := top 36
abbrev s_law_draw : Stmt := top 37
abbrev s_law_pick : Stmt := top 38
abbrev s_law_is_int : Stmt := top 39
abbrev s_law_is_from : Stmt := top 40
abbrev s_law_is_key : Stmt := top 41
abbrev s_law_is_operation : Stmt := top 42
abbrev s_law_is_content : Stmt := top 43
abbrev s_law_is_row : Stmt := top 44
abbrev s_law_content_text : Stmt := top 45
abbrev s_law_row_text : Stmt := top 46
abbrev s_law_number : Stmt := top 47
abbrev s_law_read_content : Stmt := top 48
abbrev s_law_read_row : Stmt := top 49
abbrev s_law_key : Stmt := top 50
abbrev s_law_worth : Stmt := top 51
abbrev s_law_content : Stmt := top 52
abbrev s_law_operation : Stmt := top 53
abbrev s_law_row : Stmt := top 54
abbrev s_law_odd : Stmt := top 55
abbrev s_law_tried : Stmt := top 56
abbrev s_law_changed : Stmt := top 57
abbrev s_law : Stmt := top 58
abbrev s_bt_init : Stmt := inClass (top 3) 0
end K61
end

section
set_option Elab.async false
set_option linter.all false
set_option maxRecDepth 100000
set_option maxHeartbeats 4000000

namespace K61
open PySem PySem.Spec PyProof.Rows L2
def d_is_integer : He.DefD := ⟨("is_integer", none), "is_integer", "is_integer", defArgs s_is_integer, defBody s_is_integer, defScope s_is_integer, [], []⟩
def d_is_count : He.DefD := ⟨("is_count", none), "is_count", "is_count", defArgs s_is_count, defBody s_is_count, defScope s_is_count, [], []⟩
def d_is_row_looks : He.DefD := ⟨("is_row_looks", none), "is_row", "is_row", defArgs s_is_row_looks, defBody s_is_row_looks, defScope s_is_row_looks, [], []⟩
def d_is_one_of : He.DefD := ⟨("is_one_of", none), "is_one_of", "is_one_of", defArgs s_is_one_of, defBody s_is_one_of, defScope s_is_one_of, [], []⟩
def d_is_rising : He.DefD := ⟨("is_rising", none), "is_rising", "is_rising", defArgs s_is_rising, defBody s_is_rising, defScope s_is_rising, [], []⟩
def d_is_key : He.DefD := ⟨("is_key", none), "is_key", "is_key", defArgs s_is_key, defBody s_is_key, defScope s_is_key, [], []⟩
def d_is_operation_value : He.DefD := ⟨("is_operation_value", none), "is_operation_value", "is_operation_value", defArgs s_is_operation_value, defBody s_is_operation_value, defScope s_is_operation_value, [], []⟩
def d_is_content_value : He.DefD := ⟨("is_content_value", none), "is_content_value", "is_content_value", defArgs s_is_content_value, defBody s_is_content_value, defScope s_is_content_value, [], []⟩
def d_is_row_value : He.DefD := ⟨("is_row_value", none), "is_row_value", "is_row_value", defArgs s_is_row_value, defBody s_is_row_value, defScope s_is_row_value, [], []⟩
def d_need_row : He.DefD := ⟨("need_row", none), "need_row", "need_row", defArgs s_need_row, defBody s_need_row, defScope s_need_row, [], []⟩
def d_text_of_content : He.DefD := ⟨("text_of_content", none), "text_of_content", "text_of_content", defArgs s_text_of_content, defBody s_text_of_content, defScope s_text_of_content, [], []⟩
def d_text_of_row : He.DefD := ⟨("text_of_row", none), "text_of_row", "text_of_row", defArgs s_text_of_row, defBody s_text_of_row, defScope s_text_of_row, [], []⟩
def d_number_in : He.DefD := ⟨("number_in", none), "number_in", "number_in", defArgs s_number_in, defBody s_number_in, defScope s_number_in, [], []⟩
def d_entry_in : He.DefD := ⟨("entry_in", none), "entry_in", "entry_in", defArgs s_entry_in, defBody s_entry_in, defScope s_entry_in, [], []⟩
def d_content_in : He.DefD := ⟨("content_in", none), "content_in", "content_in", defArgs s_content_in, defBody s_content_in, defScope s_content_in, [], []⟩
def d_row_in : He.DefD := ⟨("row_in", none), "row_in", "row_in", defArgs s_row_in, defBody s_row_in, defScope s_row_in, [], []⟩
def d_is_row_disks : He.DefD := ⟨("is_row_disks", none), "is_row", "is_row", defArgs s_is_row_disks, defBody s_is_row_disks, defScope s_is_row_disks, [], []⟩
def d_row_text : He.DefD := ⟨("row_text", none), "row_text", "row_text", defArgs s_row_text, defBody s_row_text, defScope s_row_text, [], []⟩
def d_read_row : He.DefD := ⟨("read_row", none), "read_row", "read_row", defArgs s_read_row, defBody s_read_row, defScope s_read_row, [], []⟩
def d_law_dealt : He.DefD := ⟨("_law_dealt", none), "_law_dealt", "_law_dealt", defArgs s_law_dealt, defBody s_law_dealt, defScope s_law_dealt, [], []⟩
def d_law_draw : He.DefD := ⟨("_law_draw", none), "_law_draw", "_law_draw", defArgs s_law_draw, defBody s_law_draw, defScope s_law_draw, [], []⟩
def d_law_pick : He.DefD := ⟨("_law_pick", none), "_law_pick", "_law_pick", defArgs s_law_pick, defBody s_law_pick, defScope s_law_pick, [], []⟩
def d_law_is_int : He.DefD := ⟨("_law_is_int", none), "_law_is_int", "_law_is_int", defArgs s_law_is_int, defBody s_law_is_int, defScope s_law_is_int, [], []⟩
def d_law_is_from : He.DefD := ⟨("_law_is_from", none), "_law_is_from", "_law_is_from", defArgs s_law_is_from, defBody s_law_is_from, defScope s_law_is_from, [], []⟩
def d_law_is_key : He.DefD := ⟨("_law_is_key", none), "_law_is_key", "_law_is_key", defArgs s_law_is_key, defBody s_law_is_key, defScope s_law_is_key, [], []⟩
def d_law_is_operation : He.DefD := ⟨("_law_is_operation", none), "_law_is_operation", "_law_is_operation", defArgs s_law_is_operation, defBody s_law_is_operation, defScope s_law_is_operation, [], []⟩
def d_law_is_content : He.DefD := ⟨("_law_is_content", none), "_law_is_content", "_law_is_content", defArgs s_law_is_content, defBody s_law_is_content, defScope s_law_is_content, [], []⟩
def d_law_is_row : He.DefD := ⟨("_law_is_row", none), "_law_is_row", "_law_is_row", defArgs s_law_is_row, defBody s_law_is_row, defScope s_law_is_row, [], []⟩
def d_law_content_text : He.DefD := ⟨("_law_content_text", none), "_law_content_text", "_law_content_text", defArgs s_law_content_text, defBody s_law_content_text, defScope s_law_content_text, [], []⟩
def d_law_row_text : He.DefD := ⟨("_law_row_text", none), "_law_row_text", "_law_row_text", defArgs s_law_row_text, defBody s_law_row_text, defScope s_law_row_text, [], []⟩
def d_law_number : He.DefD := ⟨("_law_number", none), "_law_number", "_law_number", defArgs s_law_number, defBody s_law_number, defScope s_law_number, [], []⟩
def d_law_read_content : He.DefD := ⟨("_law_read_content", none), "_law_read_content", "_law_read_content", defArgs s_law_read_content, defBody s_law_read_content, defScope s_law_read_content, [], []⟩
def d_law_read_row : He.DefD := ⟨("_law_read_row", none), "_law_read_row", "_law_read_row", defArgs s_law_read_row, defBody s_law_read_row, defScope s_law_read_row, [], []⟩
def d_law_key : He.DefD := ⟨("_law_key", none), "_law_key", "_law_key", defArgs s_law_key, defBody s_law_key, defScope s_law_key, [], []⟩
def d_law_worth : He.DefD := ⟨("_law_worth", none), "_law_worth", "_law_worth", defArgs s_law_worth, defBody s_law_worth, defScope s_law_worth, [], []⟩
def d_law_content : He.DefD := ⟨("_law_content", none), "_law_content", "_law_content", defArgs s_law_content, defBody s_law_content, defScope s_law_content, [], []⟩
def d_law_operation : He.DefD := ⟨("_law_operation", none), "_law_operation", "_law_operation", defArgs s_law_operation, defBody s_law_operation, defScope s_law_operation, [], []⟩
def d_law_row : He.DefD := ⟨("_law_row", none), "_law_row", "_law_row", defArgs s_law_row, defBody s_law_row, defScope s_law_row, [], []⟩
def d_law_odd : He.DefD := ⟨("_law_odd", none), "_law_odd", "_law_odd", defArgs s_law_odd, defBody s_law_odd, defScope s_law_odd, [], []⟩
def d_law_tried : He.DefD := ⟨("_law_tried", none), "_law_tried", "_law_tried", defArgs s_law_tried, defBody s_law_tried, defScope s_law_tried, [], []⟩
def d_law_changed : He.DefD := ⟨("_law_changed", none), "_law_changed", "_law_changed", defArgs s_law_changed, defBody s_law_changed, defScope s_law_changed, [], []⟩
def d_law : He.DefD := ⟨("law", none), "law", "law", defArgs s_law, defBody s_law, defScope s_law, [], []⟩
def d_bt_init : He.DefD := ⟨("BadText", some "__init__"), "__init__", "BadText.__init__", defArgs s_bt_init, defBody s_bt_init, defScope s_bt_init, [], []⟩
def fns1 : List He.DefD := [d_is_integer, d_is_count, d_is_row_looks, d_is_one_of, d_is_rising, d_is_key, d_is_operation_value, d_is_content_value, d_is_row_value, d_need_row, d_text_of_content, d_text_of_row, d_number_in, d_entry_in, d_content_in, d_row_in, d_is_row_disks, d_row_text, d_read_row, d_law_dealt, d_law_draw, d_law_pick]
def fns2 : List He.DefD := [d_law_is_int, d_law_is_from, d_law_is_key, d_law_is_operation, d_law_is_content, d_law_is_row, d_law_content_text, d_law_row_text, d_law_number, d_law_read_content, d_law_read_row, d_law_key, d_law_worth, d_law_content, d_law_operation, d_law_row, d_law_odd, d_law_tried, d_law_changed, d_law, d_bt_init]
def fns : List He.DefD := fns1 ++ fns2
def fas1 : List He.Fa := [.glo "is_integer", .glo "is_count", .glo "is_row_looks", .glo "is_one_of", .glo "is_rising", .glo "is_key", .glo "is_operation_value", .glo "is_content_value", .glo "is_row_value", .glo "need_row", .glo "text_of_content", .glo "text_of_row", .glo "number_in", .glo "entry_in", .glo "content_in", .glo "row_in", .glo "is_row_disks", .glo "row_text", .glo "read_row", .glo "_law_dealt", .glo "_law_draw", .glo "_law_pick", .glo "_law_is_int", .glo "_law_is_from", .glo "_law_is_key", .glo "_law_is_operation", .glo "_law_is_content", .glo "_law_is_row", .glo "_law_content_text", .glo "_law_row_text", .glo "_law_number", .glo "_law_read_content", .glo "_law_read_row", .glo "_law_key", .glo "_law_worth"]
def fas2 : List He.Fa := [.glo "_law_content", .glo "_law_operation", .glo "_law_row", .glo "_law_odd", .glo "_law_tried", .glo "_law_changed", .glo "law", .glo "BadText", .glo "BadRow", .glo "ENDS", .glo "NUMBERED", .str "LETTERS" "abcdefghijklmnopqrstuvwxyz", .str "FIGURES" "0123456789", .int "MOST_KEY" 9, .int "MOST_ENTRIES" 3, .int "MOST_FIGURES" 4000, .keep "BadText", .exm "BadText" "BadText" true, .noat "BadText" "thing", .free "isinstance", .free "int", .free "str", .free "tuple", .free "bool", .free "len", .free "all", .free "zip", .free "list", .free "sorted", .free "set", .free "max", .free "range", .free "enumerate", .free "repr"]
def fas : List He.Fa := fas1 ++ fas2
/-- further facts: the tables, the error's class -/
def exn : List Value := [.type "Exception", .type "BaseException", .type "object"]
def more (K : PySem.W.Frag) : Bool := (He.tupB K "ENDS" [.str "kept", .str "dropped"] && He.tupB K "NUMBERED" [.str "page", .str "unpage"]) && (PySem.W.excInitIn K (He.ga K "BadText") exn "Exception.__new__" && (xfB K (He.ga K "BadText") &&
  (He.eqO (PySem.W.findIn K (.ref (He.ga K "BadText")) "__setattr__") (some (some (.builtin "object.__setattr__"))) && (decide (PySem.W.typeIn K (.ref (He.ga K "BadText")) = some (.type "type")) &&
  (He.eqO (PySem.W.findIn K (.ref (He.ga K "BadText")) "__init__") (some (some (.ref (He.ma K (He.ga K "BadText") "__init__")))) && (decide (PySem.W.typeIn K (.ref (He.ma K (He.ga K "BadText") "__init__")) = some (.type "function")) && PySem.W.excOver K (He.ga K "BadText") exn))))))
abbrev R : PySem.W.OpenRow := PySem.W.OpenLaw.row PySem.Challenge.rw_eachcut_k61_whole_texts_of_rows_there_an
abbrev hk : PySem.W.Hook := He.hookX 4 fas fns [] [] more
def ob (s : PySem.W.SharedT) : He.AlX := He.obsX 4 fas fns [] [] more (HandSHeadRun.getT s)
theorem ob_eq (s : PySem.W.SharedT) : ob s = hk.obs s.abs := He.obsX_eq (HandSHeadRun.getT_eq s)
def nms1 : List PySem.Str := ["CutError", "BadRow", "BadText", "is_integer", "is_count", "is_row", "is_row_looks", "is_one_of", "is_rising", "LETTERS", "FIGURES", "MOST_KEY", "MOST_ENTRIES", "MOST_FIGURES", "ENDS", "NUMBERED", "is_key", "is_operation_value", "is_content_value", "is_row_value", "need_row", "text_of_content", "text_of_row", "number_in", "entry_in", "content_in", "row_in", "is_row_disks", "row_text", "read_row"]
def nms2 : List PySem.Str := ["_law_dealt", "_law_draw", "_law_pick", "_law_is_int", "_law_is_from", "_law_is_key", "_law_is_operation", "_law_is_content", "_law_is_row", "_law_content_text", "_law_row_text", "_law_number", "_law_read_content", "_law_read_row", "_law_key", "_law_worth", "_law_content", "_law_operation", "_law_row", "_law_odd", "_law_tried", "_law_changed"]
def nms : List PySem.Str := nms1 ++ nms2
set_option maxHeartbeats 0 in
theorem run (w : World) : HandSHeadRun.RunEq R (PySem.W.view R.prog [58]) hk ob 3000 nms w := by
  intro os
  kernel_rfl
end K61
end

section
set_option Elab.async false
set_option linter.all false
set_option maxRecDepth 100000
set_option maxHeartbeats 4000000
/-! The data layer: readings over data (PyData), the heap out of sight. A world W says which addresses may change by other hands (W.B), and what holds of them (W.inv). -/
namespace K61
open PySem PySem.Spec PyProof.Rows L2
open Evl (Ex)

structure Wd where
  B : List Addr
  inv : Hp → Prop
  keep : ∀ {H H' : Hp}, inv H → (∀ b ∈ B, H' b = H b) → inv H'
  trk : ∀ {H : Hp} {b : Addr}, inv H → b ∈ B → H b ≠ none
def W0 : Wd := ⟨[], fun _ => True, fun _ _ => True.intro, fun _ h => absurd h List.not_mem_nil⟩
def hide (W : Wd) (H : Hp) : Hp := fun a => if a ∈ W.B then none else H a
theorem hide_in {W : Wd} {H : Hp} {a : Addr} (h : a ∈ W.B) : hide W H a = none := if_pos h
theorem hide_out {W : Wd} {H : Hp} {a : Addr} (h : a ∉ W.B) : hide W H a = H a := if_neg h
theorem hide_ex (W : Wd) (H : Hp) : Ex (hide W H) H := fun a o e => by
  by_cases h : a ∈ W.B
  · rw [hide_in h] at e; cases e
  · rw [hide_out h] at e; exact e
structure Wd.le (W W' : Wd) : Prop where
  b : ∀ a ∈ W.B, a ∈ W'.B
  i : ∀ H, W'.inv H → W.inv H
  /-- W's own things may change as W allows -/
  s : ∀ H H', W'.inv H → (∀ a ∈ W'.B, a ∉ W.B → H' a = H a) → W.inv H' → W'.inv H'
theorem Wd.le.refl (W : Wd) : W.le W := ⟨fun _ h => h, fun _ h => h, fun _ _ _ _ h => h⟩
theorem Wd.le.trans {W W1 W2 : Wd} (a : W.le W1) (b : W1.le W2) : W.le W2 := ⟨fun x h => b.b x (a.b x h), fun H h => a.i H (b.i H h), fun H H' h k g =>
  b.s H H' h (fun x hx hn => k x hx fun z => hn (a.b x z)) (a.s H H' (b.i H h) (fun x hx hn => k x (b.b x hx) hn) g)⟩
theorem W0.le (W : Wd) : W0.le W := ⟨fun _ h => absurd h List.not_mem_nil, fun _ _ => True.intro, fun _ _ h k _ => W.keep h fun b hb => k b hb List.not_mem_nil⟩
/-- the world with one more thing kept apart: D, at which o stands -/
def Wd.add (W : Wd) (D : Addr) (o : HO) : Wd where
  B := D :: W.B
  inv H := W.inv H ∧ H D = some o
  keep := fun {H H'} h k => ⟨W.keep h.1 fun b hb => k b (List.mem_cons_of_mem _ hb), (k D List.mem_cons_self).trans h.2⟩
  trk := fun {H b} h hb => by
    rcases List.mem_cons.mp hb with e | hb
    · rw [e, h.2]; exact fun z => nomatch z
    · exact W.trk h.1 hb
theorem Wd.le_add (W : Wd) (D : Addr) (o : HO) (h : D ∉ W.B) : W.le (W.add D o) := ⟨fun _ h => List.mem_cons_of_mem _ h, fun _ h => h.1, fun _ _ i k g => ⟨g, (k D List.mem_cons_self h).trans i.2⟩⟩
theorem hide_sub {W W' : Wd} (l : ∀ a ∈ W.B, a ∈ W'.B) (H : Hp) : Ex (hide W' H) (hide W H) := fun a o e => by
  by_cases h : a ∈ W'.B
  · rw [hide_in h] at e; cases e
  · rw [hide_out h] at e
    rw [hide_out (fun z => h (l a z))]; exact e
theorem hide_le {W W' : Wd} (l : W.le W') (H : Hp) : Ex (hide W' H) (hide W H) := hide_sub l.b H

/-- what a step may do to the heap -/
structure Xt (W : Wd) (H H' : Hp) : Prop where
  inv : W.inv H'
  ex : Ex (hide W H) (hide W H')
theorem Xt.refl {W : Wd} {H : Hp} (h : W.inv H) : Xt W H H := ⟨h, Ex.refl _⟩
theorem Xt.trans {W : Wd} {H H1 H2 : Hp} (a : Xt W H H1) (b : Xt W H1 H2) : Xt W H H2 := ⟨b.inv, a.ex.trans b.ex⟩
theorem Wd.out {W : Wd} {H : Hp} {p : Addr} (h : W.inv H) (hp : H p = none) : p ∉ W.B := fun z => W.trk h z hp
theorem Xt.new {W : Wd} {H : Hp} {p : Addr} {o : HO} (h : W.inv H) (hp : H p = none) : Xt W H (upd H p o) := by
  have hb := W.out h hp
  refine ⟨W.keep h fun b hb' => upd_ne fun z => hb (z ▸ hb'), fun a u e => ?_⟩
  by_cases ha : a ∈ W.B
  · rw [hide_in ha] at e; cases e
  · rw [hide_out ha] at e ⊢
    rw [upd_ne (ne_of_none e hp)]; exact e
theorem Xt.of_ex {W : Wd} {H H' : Hp} (h : W.inv H) (e : Ex H H') : Xt W H H' := by
  have k : ∀ b ∈ W.B, H' b = H b := fun b hb => by
    cases q : H b with
    | none => exact absurd q (W.trk h hb)
    | some o => exact e b o q
  refine ⟨W.keep h k, fun a u z => ?_⟩
  by_cases ha : a ∈ W.B
  · rw [hide_in ha] at z; cases z
  · rw [hide_out ha] at z ⊢; exact e a u z
/-- a step in a larger world is one in the smaller, if the larger's things stay -/
theorem Xt.le {W W' : Wd} {H H' : Hp} (l : W.le W') (x : Xt W' H H') (hk : ∀ b ∈ W'.B, b ∉ W.B → ∀ o, H b = some o → H' b = some o) : Xt W H H' := by
  refine ⟨l.i _ x.inv, fun a o e => ?_⟩
  by_cases ha : a ∈ W.B
  · rw [hide_in ha] at e; cases e
  · rw [hide_out ha] at e ⊢
    by_cases hb : a ∈ W'.B
    · exact hk a hb ha o e
    · have := x.ex a o (by rw [hide_out hb]; exact e)
      rw [hide_out hb] at this; exact this

end K61
namespace L2
open PySem PySem.Spec PyProof.Rows
open Evl (Ex)

/-! v stands for the datum d in the heap H: tuples at will, lists that are tracked -/
mutual
inductive Dq (K : PySem.W.Frag) (H : Hp) : V → PyData → Prop
  | non : Dq K H .non .none
  | bl (b : Bool) : Dq K H (.bl b) (.bool b)
  | int (i : Int) : Dq K H (.int i) (.int i)
  | str (x : Str) : Dq K H (.str x) (.str x)
  | lst {a : Addr} {xs : List V} {ds : List PyData} : H a = some (.lst xs) → DqAll K H xs ds → Dq K H (.ref a) (.list ds)
  | tup {a : Addr} {xs : List V} {ds : List PyData} : SqT K H a xs → DqAll K H xs ds → Dq K H (.ref a) (.tuple ds)
  | dct {a : Addr} (l : List (Str × Int)) : H a = some (.dK (l.map fun p => (Sum.inr p.1, V.int p.2))) → Dq K H (.ref a) (.dict (l.map fun p => (.str p.1, .int p.2)))
inductive DqAll (K : PySem.W.Frag) (H : Hp) : List V → List PyData → Prop
  | nil : DqAll K H [] []
  | cons {v : V} {vs : List V} {d : PyData} {ds : List PyData} : Dq K H v d → DqAll K H vs ds → DqAll K H (v :: vs) (d :: ds)
end
section
variable {K : PySem.W.Frag}
mutual
theorem Dq.dp {H : Hp} : ∀ {v : V} {d : PyData}, Dq K H v d → d.canLay0 = true → Dp K H v d
  | _, _, .non, _ => .non
  | _, _, .bl b, _ => .bl b
  | _, _, .int i, _ => .int i
  | _, _, .str x, _ => .str x
  | _, _, .lst h r, c => .lst (SqL.of h) (DqAll.dp r c)
  | _, _, .tup h r, c => .tup h (DqAll.dp r c)
  | _, _, .dct l h, c => by cases c
theorem DqAll.dp {H : Hp} : ∀ {vs : List V} {ds : List PyData}, DqAll K H vs ds → PyData.canLayAll0 ds = true → DpAll K H vs ds
  | _, _, .nil, _ => .nil
  | _, _, .cons h r, c => .cons (Dq.dp h (Bool.and_eq_true_iff.mp c).1) (DqAll.dp r (Bool.and_eq_true_iff.mp c).2)
end
end
section
variable {K : PySem.W.Frag}
mutual
theorem Dq.mono {H H' : Hp} (e : Ex H H') : ∀ {v : V} {d : PyData}, Dq K H v d → Dq K H' v d
  | _, _, .non => .non
  | _, _, .bl b => .bl b
  | _, _, .int i => .int i
  | _, _, .str x => .str x
  | _, _, .lst h r => .lst (e _ _ h) (DqAll.mono e r)
  | _, _, .tup h r => .tup (Evl.ex_t e h) (DqAll.mono e r)
  | _, _, .dct l h => .dct l (e _ _ h)
theorem DqAll.mono {H H' : Hp} (e : Ex H H') : ∀ {vs : List V} {ds : List PyData}, DqAll K H vs ds → DqAll K H' vs ds
  | _, _, .nil => .nil
  | _, _, .cons h r => .cons (Dq.mono e h) (DqAll.mono e r)
end
theorem DqAll.length {H : Hp} : ∀ {vs : List V} {ds : List PyData}, DqAll K H vs ds → vs.length = ds.length
  | _, [], .nil => rfl
  | _, d :: ds, .cons h r => congrArg Nat.succ (DqAll.length r)
theorem DqAll.get {H : Hp} : ∀ {vs : List V} {ds : List PyData} {i : Nat} {d : PyData}, DqAll K H vs ds → ds[i]? = some d → ∃ v, vs[i]? = some v ∧ Dq K H v d
  | _, [], _, _, .nil, h => by simp at h
  | _, d :: ds, 0, x, .cons h r, e => by
    have e' : d = x := Option.some.inj e
    subst e'; exact ⟨_, rfl, h⟩
  | _, d :: ds, i + 1, x, .cons h r, e => by
    obtain ⟨v, h1, h2⟩ := DqAll.get (i := i) (d := x) r (by simpa using e)
    exact ⟨v, by simpa using h1, h2⟩
theorem DqAll.append {H : Hp} : ∀ {vs us : List V} {ds es : List PyData}, DqAll K H vs ds → DqAll K H us es → DqAll K H (vs ++ us) (ds ++ es)
  | _, _, [], _, .nil, h => h
  | _, _, d :: ds, _, .cons h r, g => .cons h (DqAll.append r g)
theorem DqAll.take {H : Hp} : ∀ {vs : List V} {ds : List PyData} (n : Nat), DqAll K H vs ds → DqAll K H (vs.take n) (ds.take n)
  | _, _, 0, _ => .nil
  | _, [], _ + 1, .nil => .nil
  | _, d :: ds, n + 1, .cons h r => .cons h (DqAll.take n r)
theorem DqAll.drop {H : Hp} : ∀ {vs : List V} {ds : List PyData} (n : Nat), DqAll K H vs ds → DqAll K H (vs.drop n) (ds.drop n)
  | _, _, 0, h => h
  | _, [], _ + 1, .nil => .nil
  | _, d :: ds, n + 1, .cons h r => DqAll.drop n r
theorem DqAll.one {H : Hp} {v : V} {d : PyData} (h : Dq K H v d) : DqAll K H [v] [d] := .cons h .nil
theorem DqAll.strs {H : Hp} : ∀ l : List Str, DqAll K H (l.map V.str) (l.map PyData.str)
  | [] => .nil
  | x :: l => .cons (.str x) (DqAll.strs l)
theorem DqAll.of_strs {H : Hp} : ∀ {vs : List V} {l : List Str}, DqAll K H vs (l.map PyData.str) → vs = l.map V.str
  | _, [], .nil => rfl
  | _, x :: l, .cons h r => by
    cases h
    rw [DqAll.of_strs r]; rfl
theorem DqAll.of_bools {H : Hp} : ∀ {vs : List V} {l : List Bool}, DqAll K H vs (l.map PyData.bool) → vs = l.map V.bl
  | _, [], .nil => rfl
  | _, x :: l, .cons h r => by
    cases h
    rw [DqAll.of_bools r]; rfl

end
end L2
namespace K61
open PySem PySem.Spec PyProof.Rows L2
open Evl (Ex)
section
variable {K : PySem.W.Frag}
/-! ### environments -/
inductive En where
  | any
  | val (d : PyData)
  | raw (v : V)
def EnR (K : PySem.W.Frag) (h : Hp) : En → Option V → Prop
  | .any, _ => True
  | .val d, o => ∃ v, o = some v ∧ Dq K h v d
  | .raw v, o => o = some v
abbrev EnvD (K : PySem.W.Frag) (h : Hp) : List En → List (Option V) → Prop := Paired (EnR K h)
theorem EnR.mono {h h' : Hp} (e : Ex h h') {n : En} {o : Option V} (r : EnR K h n o) : EnR K h' n o := by
  cases n with
  | any => exact True.intro
  | val d => obtain ⟨v, q, r⟩ := r; exact ⟨v, q, r.mono e⟩
  | raw v => exact r
theorem EnvD.mono {h h' : Hp} (e : Ex h h') {ρ : List En} {σ : L2.St} (r : EnvD K h ρ σ) : EnvD K h' ρ σ := Paired.mapP r fun _ _ z => z.mono e
theorem EnvD.get : ∀ {h : Hp} {ρ : List En} {σ : L2.St} {i : Nat} {n : En}, EnvD K h ρ σ → ρ[i]? = some n → ∃ o, σ[i]? = some o ∧ EnR K h n o
  | _, _, _, _, _, .nil, e => by simp at e
  | _, _, _, 0, _, .cons r _, e => by simp at e; subst e; exact ⟨_, rfl, r⟩
  | _, _, _, i + 1, n, .cons _ t, e => by
    obtain ⟨o, h1, h2⟩ := EnvD.get (i := i) (n := n) t (by simpa using e)
    exact ⟨o, by simpa using h1, h2⟩
theorem EnvD.set : ∀ {h : Hp} {ρ : List En} {σ : L2.St} (i : Nat) {n : En} {o : Option V}, EnR K h n o → EnvD K h ρ σ → EnvD K h (ρ.set i n) (σ.set i o)
  | _, _, _, _, _, _, _, .nil => .nil
  | _, _, _, 0, _, _, r, .cons _ t => .cons r t
  | _, _, _, i + 1, _, _, r, .cons q t => .cons q (EnvD.set i r t)
def wipeE (ρ : List En) : List Nat → List En
  | [] => ρ
  | v :: vs => (wipeE ρ vs).set v .any
theorem EnvD.wipe {h : Hp} {ρ : List En} {σ : L2.St} (r : EnvD K h ρ σ) : ∀ vs : List Nat, EnvD K h (wipeE ρ vs) (L2.wipe σ vs)
  | [] => r
  | v :: vs => EnvD.set v True.intro (EnvD.wipe r vs)
theorem wipe_get (σ : L2.St) (j : Nat) : ∀ vs : List Nat, (L2.wipe σ vs)[j]? = if j ∈ vs then (if j < σ.length then some none else none) else σ[j]?
  | [] => by simp [L2.wipe]
  | v :: vs => by
    show ((L2.wipe σ vs).set v none)[j]? = _
    by_cases e : v = j
    · subst e
      rw [if_pos List.mem_cons_self, List.getElem?_set, if_pos rfl, wipe_length]
    · rw [List.getElem?_set_ne e, wipe_get σ j vs]
      by_cases h : j ∈ vs
      · rw [if_pos h, if_pos (List.mem_cons_of_mem _ h)]
      · rw [if_neg h, if_neg fun z => (List.mem_cons.mp z).elim (fun q => e q.symm) h]
theorem wipe_set {σ : L2.St} {i : Nat} {vs : List Nat} (h : i ∈ vs) (o : Option V) : L2.wipe (σ.set i o) vs = L2.wipe σ vs := by
  refine List.ext_getElem? fun j => ?_
  rw [wipe_get, wipe_get, List.length_set]
  by_cases hj : j ∈ vs
  · rw [if_pos hj, if_pos hj]
  · rw [if_neg hj, if_neg hj, List.getElem?_set_ne (fun z => hj (by rw [← z]; exact h))]
theorem wipe_wipe (σ : L2.St) (vs : List Nat) : L2.wipe (L2.wipe σ vs) vs = L2.wipe σ vs := by
  refine List.ext_getElem? fun j => ?_
  rw [wipe_get, wipe_get, wipe_length]
  by_cases hj : j ∈ vs
  · rw [if_pos hj, if_pos hj]
  · rw [if_neg hj, if_neg hj]

/-! ### judgements -/
def Ed (K : PySem.W.Frag) (W : Wd) (te : TE) (ρ : List En) (P : PyData → Prop) : Prop := ∀ W', W.le W' → ∀ (σ : L2.St) (H : Hp) (Q : VK), W'.inv H → EnvD K (hide W' H) ρ σ →
  (∀ d v H', Xt W' H H' → Dq K (hide W' H') v d → P d → Q v H') → te σ H Q
def Et (K : PySem.W.Frag) (W : Wd) (tt : TT) (ρ : List En) (P : Bool → Prop) : Prop := ∀ W', W.le W' → ∀ (σ : L2.St) (H : Hp) (Q : Bool → Hp → Prop), W'.inv H → EnvD K (hide W' H) ρ σ →
  (∀ b H', Xt W' H H' → P b → Q b H') → tt σ H Q
def Ea (K : PySem.W.Frag) (W : Wd) (ta : TA) (ρ : List En) (P : List PyData → Prop) : Prop := ∀ W', W.le W' → ∀ (σ : L2.St) (H : Hp) (Q : List V → Hp → Prop), W'.inv H → EnvD K (hide W' H) ρ σ →
  (∀ ds vs H', Xt W' H H' → DqAll K (hide W' H') vs ds → P ds → Q vs H') → ta σ H Q
def Eo (K : PySem.W.Frag) (W : Wd) (to : TO) (ρ : List En) (P : Option Int → Prop) : Prop := ∀ W', W.le W' → ∀ (σ : L2.St) (H : Hp) (Q : Option Int → Hp → Prop), W'.inv H → EnvD K (hide W' H) ρ σ →
  (∀ o H', Xt W' H H' → P o → Q o H') → to σ H Q
/-- a target takes a datum; the slots that it fills are among gs -/
def Eg (K : PySem.W.Frag) (gs : List Nat) (g : TG) (x : PyData) (ρ : List En) (P : List En → Prop) : Prop := ∀ (W' : Wd) (v : V) (σ : L2.St) (H : Hp) (Q : L2.St → Hp → Prop), EnvD K (hide W' H) ρ σ → Dq K (hide W' H) v x →
  (∀ ρ' σ', EnvD K (hide W' H) ρ' σ' → P ρ' → (∀ vs : List Nat, (∀ i ∈ gs, i ∈ vs) → L2.wipe σ' vs = L2.wipe σ vs) → Q σ' H) → g v σ H Q
def Sd (K : PySem.W.Frag) (W : Wd) (ts : TS) (ρ : List En) (N : List En → Prop) (R : PyData → Prop) : Prop := ∀ W', W.le W' → ∀ (σ : L2.St) (H : Hp) (D : Ends), W'.inv H → EnvD K (hide W' H) ρ σ →
  (∀ ρ' σ' H', Xt W' H H' → EnvD K (hide W' H') ρ' σ' → N ρ' → D.nx σ' H') → (∀ d v H', Xt W' H H' → Dq K (hide W' H') v d → R d → D.rt v H') → ts D σ H

variable {W : Wd} {ρ : List En} {ta tb te : TE} {P : PyData → Prop} {tt tu : TT}
theorem Ed.mono {P' : PyData → Prop} (h : Ed K W te ρ P) (k : ∀ d, P d → P' d) : Ed K W te ρ P' := fun W' l σ H Q i e q => h W' l σ H Q i e fun d v H' x r p => q d v H' x r (k d p)
theorem Ed.wle {W1 : Wd} (l : W.le W1) (h : Ed K W te ρ P) : Ed K W1 te ρ P := fun W' l' => h W' (l.trans l')
theorem Et.mono {P P' : Bool → Prop} (h : Et K W tt ρ P) (k : ∀ d, P d → P' d) : Et K W tt ρ P' := fun W' l σ H Q i e q => h W' l σ H Q i e fun d H' x p => q d H' x (k d p)

/-! ### names and constants -/
theorem ed_var {i : Nat} {d : PyData} (h : ρ[i]? = some (.val d)) (p : P d) : Ed K W (tVar i) ρ P := fun W' l σ H Q iv e q => by
  obtain ⟨o, h1, v, rfl, h2⟩ := e.get h
  exact ⟨v, h1, q d v H (Xt.refl iv) h2 p⟩
theorem ed_non (p : P .none) : Ed K W (tC .non) ρ P := fun W' l σ H Q iv e q => q .none .non H (Xt.refl iv) .non p
theorem ed_bl {b : Bool} (p : P (.bool b)) : Ed K W (tC (.bl b)) ρ P := fun W' l σ H Q iv e q => q (.bool b) (.bl b) H (Xt.refl iv) (.bl b) p
theorem ed_int {b : Int} (p : P (.int b)) : Ed K W (tC (.int b)) ρ P := fun W' l σ H Q iv e q => q (.int b) (.int b) H (Xt.refl iv) (.int b) p
theorem ed_str {b : Str} (p : P (.str b)) : Ed K W (tC (.str b)) ρ P := fun W' l σ H Q iv e q => q (.str b) (.str b) H (Xt.refl iv) (.str b) p
/-- a tuple of the written part -/
theorem ed_kt {a : Addr} {xs : List V} {ds : List PyData} (h : ∀ H, SqT K H a xs) (hd : ∀ H, DqAll K H xs ds) (p : P (.tuple ds)) : Ed K W (tC (.ref a)) ρ P := fun W' l σ H Q iv e q =>
  q (.tuple ds) (.ref a) H (Xt.refl iv) (.tup (h _) (hd _)) p

/-! ### operators, by data -/
/-- an operation on values says of data: under C, the datum f x y -/
def Op2 (K : PySem.W.Frag) (r : R2) (C : PyData → PyData → Prop) (f : PyData → PyData → PyData) : Prop := ∀ (W' : Wd) (x y : PyData) (vx vy : V) (H : Hp) (Q : VK), W'.inv H → Dq K (hide W' H) vx x → Dq K (hide W' H) vy y → C x y →
  (∀ v H', Xt W' H H' → Dq K (hide W' H') v (f x y) → Q v H') → r vx vy H Q
theorem ed_op2 {r : R2} {C : PyData → PyData → Prop} {f : PyData → PyData → PyData} (hr : Op2 K r C f) (h : Ed K W ta ρ fun x => Ed K W tb ρ fun y => C x y ∧ P (f x y)) : Ed K W (tOp r ta tb) ρ P := fun W' l σ H Q iv e q =>
  h W' l σ H _ iv e fun x vx H1 x1 r1 h1 => h1 W' l σ H1 _ x1.inv (e.mono x1.ex) fun y vy H2 x2 r2 ⟨c, p⟩ =>
    hr W' x y vx vy H2 Q x2.inv (r1.mono x2.ex) r2 c fun v H' x3 r3 => q _ v H' ((x1.trans x2).trans x3) r3 p
theorem et_op2 {r : R2} {C : PyData → PyData → Prop} {f : PyData → PyData → PyData} {P : Bool → Prop} (hr : Op2 K r C f) (h : Ed K W ta ρ fun x => Ed K W tb ρ fun y => C x y ∧ ∃ b, f x y = .bool b ∧ P b) : Et K W (tTest (tOp r ta tb)) ρ P := fun W' l σ H Q iv e q =>
  h W' l σ H _ iv e fun x vx H1 x1 r1 h1 => h1 W' l σ H1 _ x1.inv (e.mono x1.ex) fun y vy H2 x2 r2 ⟨c, b, hb, p⟩ =>
    hr W' x y vx vy H2 _ x2.inv (r1.mono x2.ex) r2 c fun v H' x3 r3 => by
      rw [hb] at r3
      cases r3
      exact ⟨b, rfl, q b H' ((x1.trans x2).trans x3) p⟩
theorem et_tTest {P : Bool → Prop} (h : Ed K W te ρ fun d => ∃ b, d = .bool b ∧ P b) : Et K W (tTest te) ρ P := fun W' l σ H Q iv e q => h W' l σ H _ iv e fun d v H' x r ⟨b, hd, p⟩ => by
  subst hd
  cases r
  exact ⟨b, rfl, q b H' x p⟩
theorem et_tB {P : Bool → Prop} (h : Ed K W te ρ fun d => ∃ b, d = .bool b ∧ P b) : Et K W (tB te) ρ P := fun W' l σ H Q iv e q => h W' l σ H _ iv e fun d v H' x r ⟨b, hd, p⟩ => by
  subst hd
  cases r
  exact ⟨b, rfl, q b H' x p⟩

/-! ### and, or, not, if -/
theorem et_and {P : Bool → Prop} (h : Et K W tt ρ fun a => if a = true then Et K W tu ρ P else P false) : Et K W (tAnd tt tu) ρ P := fun W' l σ H Q iv e q => h W' l σ H _ iv e fun b H' x p => by
  cases b with
  | true => exact p W' l σ H' _ x.inv (e.mono x.ex) fun b H2 x2 p2 => q b H2 (x.trans x2) p2
  | false => exact q false H' x p
theorem et_or {P : Bool → Prop} (h : Et K W tt ρ fun a => if a = true then P true else Et K W tu ρ P) : Et K W (tOr tt tu) ρ P := fun W' l σ H Q iv e q => h W' l σ H _ iv e fun b H' x p => by
  cases b with
  | false => exact p W' l σ H' _ x.inv (e.mono x.ex) fun b H2 x2 p2 => q b H2 (x.trans x2) p2
  | true => exact q true H' x p
theorem et_not {P : Bool → Prop} (h : Et K W tt ρ fun a => P (!a)) : Et K W (tNot tt) ρ P := fun W' l σ H Q iv e q => h W' l σ H _ iv e fun b H' x p => q (!b) H' x p
theorem ed_and (h : Ed K W ta ρ fun x => ∃ b, x = .bool b ∧ if b = true then Ed K W tb ρ P else P (.bool false)) : Ed K W (tAndV ta tb) ρ P := fun W' l σ H Q iv e q => h W' l σ H _ iv e fun d v H' x r ⟨b, hd, p⟩ => by
  subst hd
  cases r
  refine ⟨b, rfl, ?_⟩
  cases b with
  | true => exact p W' l σ H' _ x.inv (e.mono x.ex) fun d v H2 x2 r2 p2 => q d v H2 (x.trans x2) r2 p2
  | false => exact q _ _ H' x (.bl false) p
theorem ed_or (h : Ed K W ta ρ fun x => ∃ b, x = .bool b ∧ if b = true then P (.bool true) else Ed K W tb ρ P) : Ed K W (tOrV ta tb) ρ P := fun W' l σ H Q iv e q => h W' l σ H _ iv e fun d v H' x r ⟨b, hd, p⟩ => by
  subst hd
  cases r
  refine ⟨b, rfl, ?_⟩
  cases b with
  | false => exact p W' l σ H' _ x.inv (e.mono x.ex) fun d v H2 x2 r2 p2 => q d v H2 (x.trans x2) r2 p2
  | true => exact q _ _ H' x (.bl true) p
theorem ed_not (h : Ed K W ta ρ fun x => ∃ b, x = .bool b ∧ P (.bool (!b))) : Ed K W (tNotV ta) ρ P := fun W' l σ H Q iv e q => h W' l σ H _ iv e fun d v H' x r ⟨b, hd, p⟩ => by
  subst hd
  cases r
  exact ⟨b, rfl, q _ _ H' x (.bl _) p⟩
theorem ed_if (h : Et K W tt ρ fun b => if b = true then Ed K W ta ρ P else Ed K W tb ρ P) : Ed K W (tIf tt ta tb) ρ P := fun W' l σ H Q iv e q => h W' l σ H _ iv e fun b H' x p => by
  cases b with
  | true => exact p W' l σ H' _ x.inv (e.mono x.ex) fun d v H2 x2 r2 p2 => q d v H2 (x.trans x2) r2 p2
  | false => exact p W' l σ H' _ x.inv (e.mono x.ex) fun d v H2 x2 r2 p2 => q d v H2 (x.trans x2) r2 p2

/-! ### arguments, displays -/
theorem ea_nil {P : List PyData → Prop} (p : P []) : Ea K W tNil ρ P := fun W' l σ H Q iv e q => q [] [] H (Xt.refl iv) .nil p
theorem ea_cons {tr : TA} {P : List PyData → Prop} (h : Ed K W ta ρ fun x => Ea K W tr ρ fun xs => P (x :: xs)) : Ea K W (tCons ta tr) ρ P := fun W' l σ H Q iv e q =>
  h W' l σ H _ iv e fun x vx H1 x1 r1 h1 => h1 W' l σ H1 _ x1.inv (e.mono x1.ex) fun xs vs H2 x2 r2 p => q (x :: xs) (vx :: vs) H2 (x1.trans x2) (.cons (r1.mono x2.ex) r2) p
theorem new_tup {H : Hp} {p : Addr} {xs : List V} {ds : List PyData} (iv : W.inv H) (hp : H p = none) (r : DqAll K (hide W H) xs ds) : Dq K (hide W (upd H p (.tup xs))) (.ref p) (.tuple ds) := by
  have x := Xt.new (o := .tup xs) iv hp
  refine .tup (SqT.of ?_) (r.mono x.ex)
  rw [hide_out (W.out iv hp), upd_same]
theorem new_lst {H : Hp} {p : Addr} {xs : List V} {ds : List PyData} (iv : W.inv H) (hp : H p = none) (r : DqAll K (hide W H) xs ds) : Dq K (hide W (upd H p (.lst xs))) (.ref p) (.list ds) := by
  have x := Xt.new (o := .lst xs) iv hp
  refine .lst ?_ (r.mono x.ex)
  rw [hide_out (W.out iv hp), upd_same]
theorem ed_tup {t : TA} (h : Ea K W t ρ fun ds => ds.length ≤ 100000 ∧ P (.tuple ds)) : Ed K W (tTup t) ρ P := fun W' l σ H Q iv e q => h W' l σ H _ iv e fun ds vs H1 x1 r1 ⟨hl, p⟩ => by
  refine ⟨Evl.sz_of (by rw [r1.length]; exact hl), fun a ha => ?_⟩
  exact q _ _ _ (x1.trans (Xt.new x1.inv ha)) (new_tup x1.inv ha r1) p
theorem ed_lst {t : TA} (h : Ea K W t ρ fun ds => ds.length ≤ 100000 ∧ P (.list ds)) : Ed K W (tLst t) ρ P := fun W' l σ H Q iv e q => h W' l σ H _ iv e fun ds vs H1 x1 r1 ⟨hl, p⟩ => by
  refine ⟨Evl.sz_of (by rw [r1.length]; exact hl), fun a ha => ?_⟩
  exact q _ _ _ (x1.trans (Xt.new x1.inv ha)) (new_lst x1.inv ha r1) p

/-! ### what data say of the heap -/
theorem dq_tup {H : Hp} {v : V} {ds : List PyData} (h : Dq K (hide W H) v (.tuple ds)) : ∃ a xs, v = .ref a ∧ SqT K H a xs ∧ DqAll K (hide W H) xs ds := by
  cases h with
  | tup h r => exact ⟨_, _, rfl, Evl.ex_t (hide_ex W H) h, r⟩
theorem dq_lst {H : Hp} {v : V} {ds : List PyData} (h : Dq K (hide W H) v (.list ds)) : ∃ a xs, v = .ref a ∧ H a = some (.lst xs) ∧ hide W H a = some (.lst xs) ∧ DqAll K (hide W H) xs ds := by
  cases h with
  | lst h r => exact ⟨_, _, rfl, hide_ex W H _ _ h, h, r⟩
/-- a tracked list (not one of the written part) is wanted by some rules -/
theorem flat_of {H : Hp} {v : V} {d : PyData} (h : Dq K H v d) (f : flatV v = true) : (v = .non ∧ d = .none) ∨ (∃ b, v = .bl b ∧ d = .bool b) ∨ (∃ i, v = .int i ∧ d = .int i) ∨ ∃ x, v = .str x ∧ d = .str x := by
  cases h with
  | non => exact .inl ⟨rfl, rfl⟩
  | bl b => exact .inr (.inl ⟨b, rfl, rfl⟩)
  | int i => exact .inr (.inr (.inl ⟨i, rfl, rfl⟩))
  | str x => exact .inr (.inr (.inr ⟨x, rfl, rfl⟩))
  | lst _ _ => cases f
  | tup _ _ => cases f
  | dct _ _ => cases f
end
end K61
end

section
set_option Elab.async false
set_option linter.all false
set_option maxRecDepth 100000
set_option maxHeartbeats 4000000
/-! The data layer: operators, calls of built-ins, texts, slices, comprehensions, statements. -/
namespace K61
open PySem PySem.Spec PyProof.Rows L2
open Evl (Ex)
/-! ### readings by name -/
def qAddS : R2 := fun x y H Q => ∃ i j, x = .str i ∧ y = .str j ∧ i.length + j.length ≤ sizeLine ∧ Q (.str (i ++ j)) H
def qAdd : R2 := rI0 fun i j => .int (i + j)
def qSub : R2 := rI0 fun i j => .int (i - j)
def qMul : R2 := rI CMul fun i j => .int (i * j)
def qMod : R2 := rI (fun _ j => 0 < j) fun i j => .int (i % j)
def qDiv : R2 := rI CDiv fun i j => .int (i / j)
def qPow : R2 := rI CPow fun i j => .int (i ^ j.toNat)
def qLt : R2 := rI0 fun i j => .bl (decide (i < j))
def qLe : R2 := rI0 fun i j => .bl (decide (i ≤ j))
def qGt : R2 := rI0 fun i j => .bl (decide (j < i))
def qGe : R2 := rI0 fun i j => .bl (decide (j ≤ i))
def qLtS : R2 := fun x y H Q => ∃ i j, x = .str i ∧ y = .str j ∧ Q (.bl (decide (i.cps.toList < j.cps.toList))) H
def qLeS : R2 := fun x y H Q => ∃ i j, x = .str i ∧ y = .str j ∧ Q (.bl (!decide (j.cps.toList < i.cps.toList))) H
def qGeS : R2 := fun x y H Q => ∃ i j, x = .str i ∧ y = .str j ∧ Q (.bl (!decide (i.cps.toList < j.cps.toList))) H
def qInC : R2 := fun x y H Q => ∃ (c : Nat) (z : Str), x = .str ⟨#[c]⟩ ∧ y = .str z ∧ Q (.bl (decide (c ∈ z.cps.toList))) H
def qNotInC : R2 := fun x y H Q => ∃ (c : Nat) (z : Str), x = .str ⟨#[c]⟩ ∧ y = .str z ∧ Q (.bl (!decide (c ∈ z.cps.toList))) H
def qIsN : R2 := fun x y H Q => y = .non ∧ Q (.bl (decide (x = .non))) H
def qNotN : R2 := fun x y H Q => y = .non ∧ Q (.bl (!decide (x = .non))) H
def qInt : List V → Hp → VK → Prop := fun xs H Q => ∃ a n, xs = [.str a] ∧ PySem.intText? a = some n ∧ a.length ≤ 640 ∧ Q (.int n) H
def qIntI : List V → Hp → VK → Prop := fun xs H Q => (∃ i, xs = [.int i] ∧ Q (.int i) H) ∨ ∃ k, xs = [.bl k] ∧ Q (.int (if k then 1 else 0)) H
def qStr : List V → Hp → VK → Prop := fun xs H Q => (∃ i, xs = [.int i] ∧ i.natAbs.log2 < 1920 ∧ Q (.str (toString i)) H) ∨ ∃ a, xs = [.str a] ∧ Q (.str a) H
def qLen (K : PySem.W.Frag) : List V → Hp → VK → Prop := fun xs H Q => ∃ x n, xs = [x] ∧ LenV K x H n ∧ Q (.int (n : Nat)) H
def qTup (K : PySem.W.Frag) : List V → Hp → VK → Prop := fun xs H Q => ∃ p ys, xs = [.ref p] ∧ ((SqL K H p ys ∧ ∀ l, H l = none → Q (.ref l) (upd H l (.tup ys))) ∨ (SqT K H p ys ∧ Q (.ref p) H))
def qMax2 : List V → Hp → VK → Prop := fun xs H Q => ∃ i j, xs = [.int i, .int j] ∧ Q (.int (if j > i then j else i)) H
def qSplit : V → List V → Hp → VK → Prop := fun x xs H Q => ∃ a b, x = .str a ∧ xs = [.str b] ∧ (b.length == 0) = false ∧ a.length + 2 ≤ sizeLine ∧ rNewStrs (Txt.split a b) H Q
def qPart : V → List V → Hp → VK → Prop := fun x xs H Q => ∃ a b, x = .str a ∧ xs = [.str b] ∧ (b.length == 0) = false ∧ a.length ≤ sizeLine ∧
  ∀ p, H p = none → Q (.ref p) (upd H p (.tup [.str (Txt.partition a b).1, .str (Txt.partition a b).2.1, .str (Txt.partition a b).2.2]))
def qJoin (K : PySem.W.Frag) : V → List V → Hp → VK → Prop := fun x xs H Q => ∃ a p, ∃ ys : List Str, x = .str a ∧ xs = [.ref p] ∧ (SqL K H p (ys.map V.str) ∨ SqT K H p (ys.map V.str)) ∧
  (ys.map (·.length)).sum + ys.length * a.length ≤ 16777216 ∧ Q (.str (Txt.join a ys)) H
section
variable {X : Cx}
theorem oq_addS : OpR X (binaryOp .Add) qAddS := op_add_str
theorem oq_add : OpR X (binaryOp .Add) qAdd := op_add
theorem oq_sub : OpR X (binaryOp .Sub) qSub := op_sub
theorem oq_mul : OpR X (binaryOp .Mult) qMul := op_mul
theorem oq_mod : OpR X (binaryOp .Mod) qMod := op_mod
theorem oq_div : OpR X (binaryOp .FloorDiv) qDiv := op_fdiv
theorem oq_pow : OpR X (binaryOp .Pow) qPow := op_pow
theorem oq_lt : OpR X (compareOp .Lt) qLt := op_lt
theorem oq_le : OpR X (compareOp .LtE) qLe := op_le
theorem oq_gt : OpR X (compareOp .Gt) qGt := op_gt
theorem oq_ge : OpR X (compareOp .GtE) qGe := op_ge
theorem oq_ltS : OpR X (compareOp .Lt) qLtS := op_lt_str
theorem oq_leS : OpR X (compareOp .LtE) qLeS := op_le_str
theorem oq_geS : OpR X (compareOp .GtE) qGeS := op_ge_str
theorem oq_inC : OpR X (compareOp .In) qInC := op_in_sign
theorem oq_notInC : OpR X (compareOp .NotIn) qNotInC := op_notIn_sign
theorem oq_isN : OpR X (compareOp .Is) qIsN := op_isN
theorem oq_notN : OpR X (compareOp .IsNot) qNotN := op_notN
theorem cq_int : CallR X (.type "int") qInt := call_int_str
theorem cq_intI : CallR X (.type "int") qIntI := call_int1
theorem cq_str : CallR X (.type "str") qStr := fun pins s σ H xs us Q I r h => by
  rcases h with h | h
  · exact call_str_int pins s σ H xs us Q I r h
  · exact SkE.call_str_str pins s σ H xs us Q I r h
theorem cq_len : CallR X (.builtin "len") (qLen X.K) := call_len
theorem cq_tup : CallR X (.type "tuple") (qTup X.K) := call_tuple_of
theorem cq_max2 (hc : X.calm = true) : CallR X (.builtin "max") qMax2 := call_max2 hc
end

section
variable {K : PySem.W.Frag} {W : Wd} {ρ : List En} {ta tb te : TE} {P : PyData → Prop} {tt tu : TT}
/-! ### comparisons -/
def eqP (x y : PyData) : PyData := .bool (PyData.eqv x y)
def neP (x y : PyData) : PyData := .bool (!PyData.eqv x y)
theorem o2_eqD : Op2 K (rEqD K) (fun x y => SeqAt.shaped x = true ∧ SeqAt.shaped y = true) eqP := fun W' x y vx vy H Q iv rx ry ⟨c1, c2⟩ q =>
  ⟨x, y, (rx.mono (hide_ex W' H)).dp (SeqAt.canLay_of_shaped c1), (ry.mono (hide_ex W' H)).dp (SeqAt.canLay_of_shaped c2), c1, c2, q _ H (Xt.refl iv) (.bl _)⟩
theorem o2_neD : Op2 K (rNeD K) (fun x y => SeqAt.shaped x = true ∧ SeqAt.shaped y = true) neP := fun W' x y vx vy H Q iv rx ry ⟨c1, c2⟩ q =>
  ⟨x, y, (rx.mono (hide_ex W' H)).dp (SeqAt.canLay_of_shaped c1), (ry.mono (hide_ex W' H)).dp (SeqAt.canLay_of_shaped c2), c1, c2, q _ H (Xt.refl iv) (.bl _)⟩
/-- scalars that are compared at once -/
def scalD : PyData → PyData → Bool
  | .none, .none => true | .none, .int _ => true | .int _, .none => true | .none, .str _ => true | .str _, .none => true
  | .int _, .int _ => true | .bool _, .bool _ => true | .str _, .str _ => true | .int _, .str _ => true | .str _, .int _ => true
  | _, _ => false
theorem scal_of {H : Hp} {x y : PyData} {vx vy : V} (rx : Dq K H vx x) (ry : Dq K H vy y) (c : scalD x y = true) : scal vx vy = true ∧ decide (vx = vy) = PyData.eqv x y := by
  cases rx <;> cases ry <;> first | (cases c; done) | (refine ⟨rfl, ?_⟩; simp [PyData.eqv]; done) | (refine ⟨rfl, ?_⟩; rw [PyData.eqv, Bool.eq_iff_iff]; simp)
theorem o2_eq : Op2 K rEq (fun x y => scalD x y = true) eqP := fun W' x y vx vy H Q iv rx ry c q => by
  obtain ⟨h1, h2⟩ := scal_of rx ry c
  refine ⟨h1, ?_⟩
  rw [h2]
  exact q _ H (Xt.refl iv) (.bl _)
theorem o2_ne : Op2 K rNe (fun x y => scalD x y = true) neP := fun W' x y vx vy H Q iv rx ry c q => by
  obtain ⟨h1, h2⟩ := scal_of rx ry c
  refine ⟨h1, ?_⟩
  rw [h2]
  exact q _ H (Xt.refl iv) (.bl _)
/-- two ints, two texts in; a datum out -/
theorem ed_I {C : Int → Int → Prop} {g : Int → Int → V} {f : Int → Int → PyData} (hg : ∀ H i j, Dq K H (g i j) (f i j)) (h : Ed K W ta ρ fun x => Ed K W tb ρ fun y => ∃ i j, x = .int i ∧ y = .int j ∧ C i j ∧ P (f i j)) : Ed K W (tOp (rI C g) ta tb) ρ P := fun W' l σ H Q iv e q =>
  h W' l σ H _ iv e fun x vx H1 x1 r1 h1 => h1 W' l σ H1 _ x1.inv (e.mono x1.ex) fun y vy H2 x2 r2 ⟨i, j, hx, hy, c, p⟩ => by
    subst hx hy
    cases r1; cases r2
    exact ⟨i, j, rfl, rfl, c, q _ _ H2 (x1.trans x2) (hg _ i j) p⟩
theorem ed_I0 {g : Int → Int → V} {f : Int → Int → PyData} (hg : ∀ H i j, Dq K H (g i j) (f i j)) (h : Ed K W ta ρ fun x => Ed K W tb ρ fun y => ∃ i j, x = .int i ∧ y = .int j ∧ P (f i j)) : Ed K W (tOp (rI0 g) ta tb) ρ P := fun W' l σ H Q iv e q =>
  h W' l σ H _ iv e fun x vx H1 x1 r1 h1 => h1 W' l σ H1 _ x1.inv (e.mono x1.ex) fun y vy H2 x2 r2 ⟨i, j, hx, hy, p⟩ => by
    subst hx hy
    cases r1; cases r2
    exact ⟨i, j, rfl, rfl, q _ _ H2 (x1.trans x2) (hg _ i j) p⟩
theorem ed_add (h : Ed K W ta ρ fun x => Ed K W tb ρ fun y => ∃ i j, x = .int i ∧ y = .int j ∧ P (.int (i + j))) : Ed K W (tOp qAdd ta tb) ρ P := ed_I0 (f := fun i j => .int (i + j)) (fun _ _ _ => .int _) h
theorem ed_sub (h : Ed K W ta ρ fun x => Ed K W tb ρ fun y => ∃ i j, x = .int i ∧ y = .int j ∧ P (.int (i - j))) : Ed K W (tOp qSub ta tb) ρ P := ed_I0 (f := fun i j => .int (i - j)) (fun _ _ _ => .int _) h
theorem ed_mul (h : Ed K W ta ρ fun x => Ed K W tb ρ fun y => ∃ i j, x = .int i ∧ y = .int j ∧ CMul i j ∧ P (.int (i * j))) : Ed K W (tOp qMul ta tb) ρ P := ed_I (f := fun i j => .int (i * j)) (fun _ _ _ => .int _) h
theorem ed_mod (h : Ed K W ta ρ fun x => Ed K W tb ρ fun y => ∃ i j, x = .int i ∧ y = .int j ∧ 0 < j ∧ P (.int (i % j))) : Ed K W (tOp qMod ta tb) ρ P := ed_I (C := fun _ j => 0 < j) (f := fun i j => .int (i % j)) (fun _ _ _ => .int _) h
theorem ed_div (h : Ed K W ta ρ fun x => Ed K W tb ρ fun y => ∃ i j, x = .int i ∧ y = .int j ∧ CDiv i j ∧ P (.int (i / j))) : Ed K W (tOp qDiv ta tb) ρ P := ed_I (f := fun i j => .int (i / j)) (fun _ _ _ => .int _) h
theorem ed_pow (h : Ed K W ta ρ fun x => Ed K W tb ρ fun y => ∃ i j, x = .int i ∧ y = .int j ∧ CPow i j ∧ P (.int (i ^ j.toNat))) : Ed K W (tOp qPow ta tb) ρ P := ed_I (f := fun i j => .int (i ^ j.toNat)) (fun _ _ _ => .int _) h
theorem ed_lt (h : Ed K W ta ρ fun x => Ed K W tb ρ fun y => ∃ i j, x = .int i ∧ y = .int j ∧ P (.bool (decide (i < j)))) : Ed K W (tOp qLt ta tb) ρ P := ed_I0 (f := fun i j => .bool (decide (i < j))) (fun _ _ _ => .bl _) h
theorem ed_le (h : Ed K W ta ρ fun x => Ed K W tb ρ fun y => ∃ i j, x = .int i ∧ y = .int j ∧ P (.bool (decide (i ≤ j)))) : Ed K W (tOp qLe ta tb) ρ P := ed_I0 (f := fun i j => .bool (decide (i ≤ j))) (fun _ _ _ => .bl _) h
theorem ed_gt (h : Ed K W ta ρ fun x => Ed K W tb ρ fun y => ∃ i j, x = .int i ∧ y = .int j ∧ P (.bool (decide (j < i)))) : Ed K W (tOp qGt ta tb) ρ P := ed_I0 (f := fun i j => .bool (decide (j < i))) (fun _ _ _ => .bl _) h
theorem ed_ge (h : Ed K W ta ρ fun x => Ed K W tb ρ fun y => ∃ i j, x = .int i ∧ y = .int j ∧ P (.bool (decide (j ≤ i)))) : Ed K W (tOp qGe ta tb) ρ P := ed_I0 (f := fun i j => .bool (decide (j ≤ i))) (fun _ _ _ => .bl _) h
theorem ed_eq (h : Ed K W ta ρ fun x => Ed K W tb ρ fun y => scalD x y = true ∧ P (.bool (PyData.eqv x y))) : Ed K W (tOp rEq ta tb) ρ P := ed_op2 o2_eq h
theorem ed_ne (h : Ed K W ta ρ fun x => Ed K W tb ρ fun y => scalD x y = true ∧ P (.bool (!PyData.eqv x y))) : Ed K W (tOp rNe ta tb) ρ P := ed_op2 o2_ne h
theorem ed_eqD (h : Ed K W ta ρ fun x => Ed K W tb ρ fun y => (SeqAt.shaped x = true ∧ SeqAt.shaped y = true) ∧ P (.bool (PyData.eqv x y))) : Ed K W (tOp (rEqD K) ta tb) ρ P := ed_op2 o2_eqD h
theorem ed_neD (h : Ed K W ta ρ fun x => Ed K W tb ρ fun y => (SeqAt.shaped x = true ∧ SeqAt.shaped y = true) ∧ P (.bool (!PyData.eqv x y))) : Ed K W (tOp (rNeD K) ta tb) ρ P := ed_op2 o2_neD h
theorem ed_isN (h : Ed K W ta ρ fun x => P (.bool (PyData.eqv x .none))) : Ed K W (tOp qIsN ta (tC .non)) ρ P := fun W' l σ H Q iv e q =>
  h W' l σ H _ iv e fun x vx H1 x1 r1 p => ⟨rfl, by
    have z : decide (vx = V.non) = PyData.eqv x .none := by cases r1 <;> simp [PyData.eqv]
    rw [z]
    exact q _ _ H1 x1 (.bl _) p⟩
theorem ed_notN (h : Ed K W ta ρ fun x => P (.bool (!PyData.eqv x .none))) : Ed K W (tOp qNotN ta (tC .non)) ρ P := fun W' l σ H Q iv e q =>
  h W' l σ H _ iv e fun x vx H1 x1 r1 p => ⟨rfl, by
    have z : decide (vx = V.non) = PyData.eqv x .none := by cases r1 <;> simp [PyData.eqv]
    rw [z]
    exact q _ _ H1 x1 (.bl _) p⟩
theorem ed_S {g : Str → Str → V} {f : Str → Str → PyData} {C : Str → Str → Prop} (hg : ∀ H i j, Dq K H (g i j) (f i j)) (h : Ed K W ta ρ fun x => Ed K W tb ρ fun y => ∃ i j, x = .str i ∧ y = .str j ∧ C i j ∧ P (f i j)) :
    Ed K W (tOp (fun x y H Q => ∃ i j, x = .str i ∧ y = .str j ∧ C i j ∧ Q (g i j) H) ta tb) ρ P := fun W' l σ H Q iv e q =>
  h W' l σ H _ iv e fun x vx H1 x1 r1 h1 => h1 W' l σ H1 _ x1.inv (e.mono x1.ex) fun y vy H2 x2 r2 ⟨i, j, hx, hy, c, p⟩ => by
    subst hx hy
    cases r1; cases r2
    exact ⟨i, j, rfl, rfl, c, q _ _ H2 (x1.trans x2) (hg _ i j) p⟩
theorem ed_addS (h : Ed K W ta ρ fun x => Ed K W tb ρ fun y => ∃ i j, x = .str i ∧ y = .str j ∧ i.length + j.length ≤ sizeLine ∧ P (.str (i ++ j))) : Ed K W (tOp qAddS ta tb) ρ P :=
  ed_S (C := fun i j => i.length + j.length ≤ sizeLine) (f := fun i j => .str (i ++ j)) (fun _ _ _ => .str _) h
theorem ed_S0 {g : Str → Str → V} {f : Str → Str → PyData} (hg : ∀ H i j, Dq K H (g i j) (f i j)) (h : Ed K W ta ρ fun x => Ed K W tb ρ fun y => ∃ i j, x = .str i ∧ y = .str j ∧ P (f i j)) :
    Ed K W (tOp (fun x y H Q => ∃ i j, x = .str i ∧ y = .str j ∧ Q (g i j) H) ta tb) ρ P := fun W' l σ H Q iv e q =>
  h W' l σ H _ iv e fun x vx H1 x1 r1 h1 => h1 W' l σ H1 _ x1.inv (e.mono x1.ex) fun y vy H2 x2 r2 ⟨i, j, hx, hy, p⟩ => by
    subst hx hy
    cases r1; cases r2
    exact ⟨i, j, rfl, rfl, q _ _ H2 (x1.trans x2) (hg _ i j) p⟩
def ltS (i j : Str) : Bool := decide (i.cps.toList < j.cps.toList)
theorem ed_ltS (h : Ed K W ta ρ fun x => Ed K W tb ρ fun y => ∃ i j, x = .str i ∧ y = .str j ∧ P (.bool (ltS i j))) : Ed K W (tOp qLtS ta tb) ρ P := ed_S0 (f := fun i j => .bool (ltS i j)) (fun _ _ _ => .bl _) h
theorem ed_leS (h : Ed K W ta ρ fun x => Ed K W tb ρ fun y => ∃ i j, x = .str i ∧ y = .str j ∧ P (.bool (!ltS j i))) : Ed K W (tOp qLeS ta tb) ρ P := ed_S0 (f := fun i j => .bool (!ltS j i)) (fun _ _ _ => .bl _) h
theorem ed_geS (h : Ed K W ta ρ fun x => Ed K W tb ρ fun y => ∃ i j, x = .str i ∧ y = .str j ∧ P (.bool (!ltS i j))) : Ed K W (tOp qGeS ta tb) ρ P := ed_S0 (f := fun i j => .bool (!ltS i j)) (fun _ _ _ => .bl _) h
theorem ed_inC (h : Ed K W ta ρ fun x => Ed K W tb ρ fun y => ∃ c z, x = .str ⟨#[c]⟩ ∧ y = .str z ∧ P (.bool (decide (c ∈ z.cps.toList)))) : Ed K W (tOp qInC ta tb) ρ P := fun W' l σ H Q iv e q =>
  h W' l σ H _ iv e fun x vx H1 x1 r1 h1 => h1 W' l σ H1 _ x1.inv (e.mono x1.ex) fun y vy H2 x2 r2 ⟨i, j, hx, hy, p⟩ => by
    subst hx hy
    cases r1; cases r2
    exact ⟨i, j, rfl, rfl, q _ _ H2 (x1.trans x2) (.bl _) p⟩
theorem ed_notInC (h : Ed K W ta ρ fun x => Ed K W tb ρ fun y => ∃ c z, x = .str ⟨#[c]⟩ ∧ y = .str z ∧ P (.bool (!decide (c ∈ z.cps.toList)))) : Ed K W (tOp qNotInC ta tb) ρ P := fun W' l σ H Q iv e q =>
  h W' l σ H _ iv e fun x vx H1 x1 r1 h1 => h1 W' l σ H1 _ x1.inv (e.mono x1.ex) fun y vy H2 x2 r2 ⟨i, j, hx, hy, p⟩ => by
    subst hx hy
    cases r1; cases r2
    exact ⟨i, j, rfl, rfl, q _ _ H2 (x1.trans x2) (.bl _) p⟩
/-- a text in a tuple of texts -/
theorem inV_strs (x : Str) : ∀ l : List Str, inV (.str x) (l.map V.str) = l.contains x
  | [] => rfl
  | y :: l => by
    show (eqV (.str y) (.str x) || inV (.str x) (l.map V.str)) = _
    rw [inV_strs x l, List.contains_cons]
    show ((y == x) || _) = ((x == y) || _)
    rw [BEq.comm]
theorem all_flat (l : List Str) : (l.map V.str).all flatV = true := by
  rw [List.all_map]
  exact List.all_eq_true.mpr fun _ _ => rfl
theorem ed_inT (h : Ed K W ta ρ fun x => Ed K W tb ρ fun y => ∃ (s : Str) (l : List Str), x = .str s ∧ y = .tuple (l.map .str) ∧ P (.bool (l.contains s))) : Ed K W (tOp (rIn K false) ta tb) ρ P := fun W' l σ H Q iv e q =>
  h W' l σ H _ iv e fun x vx H1 x1 r1 h1 => h1 W' l σ H1 _ x1.inv (e.mono x1.ex) fun y vy H2 x2 r2 ⟨s, ss, hx, hy, p⟩ => by
    subst hx hy
    cases r1
    obtain ⟨a, xs, rfl, h2, h3⟩ := dq_tup r2
    have h4 := h3.of_strs
    subst h4
    refine ⟨a, _, rfl, Or.inr h2, rfl, all_flat ss, ?_⟩
    show Q (.bl (inV (.str s) (ss.map V.str))) H2
    rw [inV_strs]
    exact q _ _ H2 (x1.trans x2) (.bl _) p
/-- a < b < c -/
theorem ed_chain {r r' : R2} {tc : TE} {C C' : PyData → PyData → Prop} {f f' : PyData → PyData → PyData} (hr : Op2 K r C f) (hr' : Op2 K r' C' f')
    (h : Ed K W ta ρ fun x => Ed K W tb ρ fun y => C x y ∧ ∃ b, f x y = .bool b ∧ if b = true then Ed K W tc ρ fun z => C' y z ∧ P (f' y z) else P (.bool false)) : Ed K W (tChain r r' ta tb tc) ρ P := fun W' l σ H Q iv e q =>
  h W' l σ H _ iv e fun x vx H1 x1 r1 h1 => h1 W' l σ H1 _ x1.inv (e.mono x1.ex) fun y vy H2 x2 r2 ⟨c, b, hb, p⟩ =>
    hr W' x y vx vy H2 _ x2.inv (r1.mono x2.ex) r2 c fun v H3 x3 r3 => by
      rw [hb] at r3
      cases r3
      refine ⟨b, rfl, ?_⟩
      have x23 := x2.trans x3
      cases b with
      | false => exact q _ _ H3 (x1.trans x23) (.bl false) p
      | true => exact p W' l σ H3 _ x3.inv (e.mono (x1.trans x23).ex) fun z vz H4 x4 r4 ⟨c', p'⟩ => hr' W' y z vy vz H4 Q x4.inv (r2.mono (x3.trans x4).ex) r4 c' fun v H5 x5 r5 => q _ v H5 ((x1.trans x23).trans (x4.trans x5)) r5 p'
theorem o2_le : Op2 K qLe (fun x y => ∃ i j, x = .int i ∧ y = .int j) (fun x y => match x, y with | .int i, .int j => .bool (decide (i ≤ j)) | _, _ => .none) := fun W' x y vx vy H Q iv rx ry ⟨i, j, hx, hy⟩ q => by
  subst hx hy
  cases rx; cases ry
  exact ⟨i, j, rfl, rfl, q _ H (Xt.refl iv) (.bl _)⟩

/-! ### built-ins -/
def tyD : PyData → String
  | .none => "NoneType" | .bool _ => "bool" | .int _ => "int" | .str _ => "str" | .list _ => "list" | .tuple _ => "tuple" | .dict _ => "dict"
theorem ty_of {H : Hp} {v : V} {d : PyData} (r : Dq K H v d) : TyX K H v (.type (tyD d)) := by
  cases r with
  | non => exact .base .non
  | bl b => exact .base (.bl b)
  | int i => exact .base (.int i)
  | str x => exact .base (.str x)
  | lst h _ => exact .base (.lst h)
  | tup h _ =>
    rcases h with (h | ⟨o, h⟩) | ⟨o, its, n, h1, h2, _⟩
    · exact .base (.tup h)
    · exact .fTuple h
    · exact .kTuple h1 h2
  | dct l h => exact .base (.dK h)
def isT (t T : String) : Bool := t == T || (T == "int" && t == "bool")
def isB (T : String) (d : PyData) : Bool := isT (tyD d) T
theorem kit_t : ∀ t ∈ ["NoneType", "bool", "int", "str", "list", "tuple", "dict"], ∀ T ∈ ["int", "str", "tuple", "bool"], kitB t T = some (isT t T) := by decide +kernel
theorem tyD_mem (d : PyData) : tyD d ∈ ["NoneType", "bool", "int", "str", "list", "tuple", "dict"] := by cases d <;> simp [tyD]
theorem kit_is {d : PyData} {T : String} (h : T ∈ ["int", "str", "tuple", "bool"]) : PySem.W.kitOne K (.type (tyD d)) (.type T) = some (isB T d) := kit_ty (kit_t _ (tyD_mem d) T h)
theorem ed_isi {T : String} (hT : T ∈ ["int", "str", "tuple", "bool"]) (h : Ed K W ta ρ fun x => P (.bool (isB T x))) : Ed K W (tCB (rIsi K) (tCons ta (tCons (tC (.ty T)) tNil))) ρ P := fun W' l σ H Q iv e q =>
  h W' l σ H _ iv e fun x vx H1 x1 r1 p => ⟨vx, .ty T, .type (tyD x), .type T, isB T x, rfl, .ty T, ty_of (r1.mono (hide_ex W' H1)), kit_is hT, q _ _ H1 x1 (.bl _) p⟩
def lenD : PyData → Option Nat
  | .str s => some s.length
  | .list xs => some xs.length
  | .tuple xs => some xs.length
  | _ => none
theorem ed_len (h : Ed K W ta ρ fun x => ∃ n : Nat, lenD x = some n ∧ n ≤ sizeLine ∧ P (.int n)) : Ed K W (tCB (qLen K) (tCons ta tNil)) ρ P := fun W' l σ H Q iv e q =>
  h W' l σ H _ iv e fun x vx H1 x1 r1 ⟨n, hn, hz, p⟩ => by
    refine ⟨vx, n, rfl, ?_, q _ _ H1 x1 (.int _) p⟩
    have r2 := r1.mono (hide_ex W' H1)
    cases r2 with
    | str s => exact ⟨by rw [Option.some.inj hn]; exact hz, (Option.some.inj hn).symm⟩
    | lst h1 h2 => exact Or.inl ⟨_, SqL.of h1, by rw [h2.length]; exact (Option.some.inj hn).symm⟩
    | tup h1 h2 => exact Or.inr ⟨_, h1, by rw [h2.length]; exact (Option.some.inj hn).symm⟩
    | _ => cases hn
theorem ed_all (h : Ed K W ta ρ fun x => ∃ bs : List Bool, x = .list (bs.map .bool) ∧ P (.bool (bs.all id))) : Ed K W (tCB (rAll K) (tCons ta tNil)) ρ P := fun W' l σ H Q iv e q =>
  h W' l σ H _ iv e fun x vx H1 x1 r1 ⟨bs, hx, p⟩ => by
    subst hx
    obtain ⟨a, xs, rfl, h1, _, h2⟩ := dq_lst r1
    have h3 := h2.of_bools
    subst h3
    exact ⟨a, bs, rfl, SqL.of h1, q _ _ H1 x1 (.bl _) p⟩
theorem ed_tupOf (h : Ed K W ta ρ fun x => ∃ ds, x = .list ds ∧ P (.tuple ds)) : Ed K W (tCB (qTup K) (tCons ta tNil)) ρ P := fun W' l σ H Q iv e q =>
  h W' l σ H _ iv e fun x vx H1 x1 r1 ⟨ds, hx, p⟩ => by
    subst hx
    obtain ⟨a, xs, rfl, h1, _, h2⟩ := dq_lst r1
    exact ⟨a, xs, rfl, Or.inl ⟨SqL.of h1, fun b hb => q _ _ _ (x1.trans (Xt.new x1.inv hb)) (new_tup x1.inv hb h2) p⟩⟩
theorem ed_intS (h : Ed K W ta ρ fun x => ∃ s n, x = .str s ∧ PySem.intText? s = some n ∧ s.length ≤ 640 ∧ P (.int n)) : Ed K W (tCB qInt (tCons ta tNil)) ρ P := fun W' l σ H Q iv e q =>
  h W' l σ H _ iv e fun x vx H1 x1 r1 ⟨s, n, hx, hn, hz, p⟩ => by
    subst hx
    cases r1
    exact ⟨s, n, rfl, hn, hz, q _ _ H1 x1 (.int _) p⟩
theorem ed_intI (h : Ed K W ta ρ fun x => ∃ i, x = .int i ∧ P (.int i)) : Ed K W (tCB qIntI (tCons ta tNil)) ρ P := fun W' l σ H Q iv e q =>
  h W' l σ H _ iv e fun x vx H1 x1 r1 ⟨i, hx, p⟩ => by
    subst hx
    cases r1
    exact Or.inl ⟨i, rfl, q _ _ H1 x1 (.int _) p⟩
theorem ed_intB (h : Ed K W ta ρ fun x => ∃ b : Bool, x = .bool b ∧ P (.int (if b then 1 else 0))) : Ed K W (tCB qIntI (tCons ta tNil)) ρ P := fun W' l σ H Q iv e q =>
  h W' l σ H _ iv e fun x vx H1 x1 r1 ⟨b, hx, p⟩ => by
    subst hx
    cases r1
    exact Or.inr ⟨b, rfl, q _ _ H1 x1 (.int _) p⟩
def strD : PyData → Option Str
  | .int i => if i.natAbs.log2 < 1920 then some (toString i) else none
  | .str s => some s
  | _ => none
theorem ed_strOf (h : Ed K W ta ρ fun x => ∃ s, strD x = some s ∧ P (.str s)) : Ed K W (tCB qStr (tCons ta tNil)) ρ P := fun W' l σ H Q iv e q =>
  h W' l σ H _ iv e fun x vx H1 x1 r1 ⟨s, hx, p⟩ => by
    cases r1 with
    | int i =>
      have hx' : (if i.natAbs.log2 < 1920 then some (Str.ofString (toString i)) else none) = some s := hx
      by_cases hz : i.natAbs.log2 < 1920
      · rw [if_pos hz] at hx'
        exact Or.inl ⟨i, rfl, hz, q _ _ H1 x1 (by rw [← Option.some.inj hx']; exact .str _) p⟩
      · rw [if_neg hz] at hx'
        cases hx'
    | str y => exact Or.inr ⟨y, rfl, q _ _ H1 x1 (by rw [← Option.some.inj hx]; exact .str _) p⟩
    | _ => cases hx
theorem ed_max2 (h : Ed K W ta ρ fun x => Ed K W tb ρ fun y => ∃ i j, x = .int i ∧ y = .int j ∧ P (.int (if j > i then j else i))) : Ed K W (tCB qMax2 (tCons ta (tCons tb tNil))) ρ P := fun W' l σ H Q iv e q =>
  h W' l σ H _ iv e fun x vx H1 x1 r1 h1 => h1 W' l σ H1 _ x1.inv (e.mono x1.ex) fun y vy H2 x2 r2 ⟨i, j, hx, hy, p⟩ => by
    subst hx hy
    cases r1; cases r2
    exact ⟨i, j, rfl, q _ _ H2 (x1.trans x2) (.int _) p⟩

/-! ### texts -/
theorem new_strs {H : Hp} {p : Addr} {l : List Str} (iv : W.inv H) (hp : H p = none) : Dq K (hide W (upd H p (.lst (l.map V.str)))) (.ref p) (.list (l.map .str)) := new_lst iv hp (DqAll.strs l)
theorem ed_m1 {r : V → List V → Hp → VK → Prop} (h : Ed K W ta ρ fun x => ∃ s, x = .str s ∧ Ed K W tb ρ fun y => ∀ (W' : Wd) (vy : V) (H : Hp) (Q : VK), W.le W' → W'.inv H → Dq K (hide W' H) vy y → (∀ d v H', Xt W' H H' → Dq K (hide W' H') v d → P d → Q v H') → r (.str s) [vy] H Q) : Ed K W (tM1 r ta tb) ρ P := fun W' l σ H Q iv e q =>
  h W' l σ H _ iv e fun x vx H1 x1 r1 ⟨s, hs, h1⟩ => by
    subst hs
    cases r1
    exact ⟨⟨s, rfl⟩, h1 W' l σ H1 _ x1.inv (e.mono x1.ex) fun y vy H2 x2 r2 z => z W' vy H2 Q l x2.inv r2 fun d v H' x3 r3 p => q d v H' ((x1.trans x2).trans x3) r3 p⟩
theorem ed_split (h : Ed K W ta ρ fun x => ∃ s, x = .str s ∧ Ed K W tb ρ fun y => ∃ t, y = .str t ∧ (t.length == 0) = false ∧ s.length + 2 ≤ sizeLine ∧ P (.list ((Txt.split s t).map .str))) : Ed K W (tM1 qSplit ta tb) ρ P :=
  ed_m1 (h.mono fun x ⟨s, hs, h1⟩ => ⟨s, hs, h1.mono fun y ⟨t, ht, c1, c2, p⟩ W' vy H Q l iv ry q => by
    subst ht
    cases ry
    exact ⟨s, t, rfl, rfl, c1, c2, fun a ha => q _ _ _ (Xt.new iv ha) (new_strs iv ha) p⟩⟩)
theorem ed_part (h : Ed K W ta ρ fun x => ∃ s, x = .str s ∧ Ed K W tb ρ fun y => ∃ t, y = .str t ∧ (t.length == 0) = false ∧ s.length ≤ sizeLine ∧ P (.tuple [.str (Txt.partition s t).1, .str (Txt.partition s t).2.1, .str (Txt.partition s t).2.2])) : Ed K W (tM1 qPart ta tb) ρ P :=
  ed_m1 (h.mono fun x ⟨s, hs, h1⟩ => ⟨s, hs, h1.mono fun y ⟨t, ht, c1, c2, p⟩ W' vy H Q l iv ry q => by
    subst ht
    cases ry
    exact ⟨s, t, rfl, rfl, c1, c2, fun a ha => q _ _ _ (Xt.new iv ha) (new_tup iv ha (.cons (.str _) (.cons (.str _) (.cons (.str _) .nil)))) p⟩⟩)
theorem ed_join (h : Ed K W ta ρ fun x => ∃ s, x = .str s ∧ Ed K W tb ρ fun y => ∃ ys : List Str, y = .list (ys.map .str) ∧ (ys.map (·.length)).sum + ys.length * s.length ≤ 16777216 ∧ P (.str (Str.join s ys))) : Ed K W (tM1 (qJoin K) ta tb) ρ P :=
  ed_m1 (h.mono fun x ⟨s, hs, h1⟩ => ⟨s, hs, h1.mono fun y ⟨ys, hy, c, p⟩ W' vy H Q l iv ry q => by
    subst hy
    obtain ⟨a, xs, rfl, h1, _, h2⟩ := dq_lst ry
    have h3 := h2.of_strs
    subst h3
    refine ⟨s, a, ys, rfl, rfl, Or.inl (SqL.of h1), c, ?_⟩
    rw [TL.join_eq]
    exact q _ _ _ (Xt.refl iv) (.str _) p⟩)

/-! ### places, slices -/
def atD : PyData → Int → Option PyData
  | .list ds, i => atI ds i
  | .tuple ds, i => atI ds i
  | .str s, i => (atI s.cps.toList i).map fun c => .str ⟨#[c]⟩
  | _, _ => none
theorem atI_rel {H : Hp} {vs : List V} {ds : List PyData} {i : Int} {d : PyData} (r : DqAll K H vs ds) (h : atI ds i = some d) : ∃ v, atI vs i = some v ∧ Dq K H v d := by
  unfold atI at h ⊢
  rw [r.length]
  cases e : ixN ds.length i with
  | none => rw [e] at h; cases h
  | some j =>
    rw [e] at h
    exact r.get h
theorem ed_ix (h : Ed K W ta ρ fun x => Ed K W tb ρ fun y => ∃ i d, y = .int i ∧ atD x i = some d ∧ (∀ s, x = .str s → s.length ≤ 100000) ∧ P d) : Ed K W (tOp (rIx K) ta tb) ρ P := fun W' l σ H Q iv e q =>
  h W' l σ H _ iv e fun x vx H1 x1 r1 h1 => h1 W' l σ H1 _ x1.inv (e.mono x1.ex) fun y vy H2 x2 r2 ⟨i, d, hy, hd, hz, p⟩ => by
    subst hy
    cases r2
    have r1' := r1.mono x2.ex
    cases r1' with
    | lst h3 h2 =>
      obtain ⟨v, e1, e2⟩ := atI_rel h2 hd
      exact Or.inl ⟨_, _, i, v, rfl, rfl, SqL.of (hide_ex W' H2 _ _ h3), e1, q _ _ H2 (x1.trans x2) e2 p⟩
    | tup h3 h2 =>
      obtain ⟨v, e1, e2⟩ := atI_rel h2 hd
      exact Or.inr (Or.inl ⟨_, _, i, v, rfl, rfl, Evl.ex_t (hide_ex W' H2) h3, e1, q _ _ H2 (x1.trans x2) e2 p⟩)
    | str s =>
      obtain ⟨c, e1, e2⟩ := Option.map_eq_some_iff.mp hd
      subst e2
      exact Or.inr (Or.inr ⟨s, i, c, rfl, rfl, Evl.sz_of (hz s rfl), e1, q _ _ H2 (x1.trans x2) (.str _) p⟩)
    | _ => cases hd
theorem eo_none {P : Option Int → Prop} (p : P none) : Eo K W tNoPart ρ P := fun W' l σ H Q iv e q => q none H (Xt.refl iv) p
theorem eo_some {P : Option Int → Prop} (h : Ed K W te ρ fun x => ∃ i, x = .int i ∧ P (some i)) : Eo K W (tPart te) ρ P := fun W' l σ H Q iv e q => h W' l σ H _ iv e fun x vx H1 x1 r1 ⟨i, hx, p⟩ => by
  subst hx
  cases r1
  exact ⟨i, rfl, q (some i) H1 x1 p⟩
/-- items of a cut -/
def cutL {α : Type} (xs : List α) (lo hi : Option Int) : List α := (xs.drop (HT.sIx xs.length 0 lo)).take (HT.sIx xs.length xs.length hi - HT.sIx xs.length 0 lo)
theorem cut_rel {H : Hp} {vs : List V} {ds : List PyData} (r : DqAll K H vs ds) (lo hi : Option Int) : DqAll K H (cutV vs lo hi) (cutL ds lo hi) := by
  unfold cutV cutL
  rw [r.length]
  exact (r.drop _).take _
theorem cut_whole {α : Type} {ds : List α} {lo hi : Option Int} (h : HT.sIx ds.length 0 lo = 0 ∧ HT.sIx ds.length ds.length hi = ds.length) : cutL ds lo hi = ds := by
  unfold cutL
  rw [h.1, h.2]
  simp
theorem ed_slL {tl th : TO} (h : Ed K W te ρ fun x => ∃ ds, x = .list ds ∧ Eo K W tl ρ fun lo => Eo K W th ρ fun hi => P (.list (cutL ds lo hi))) : Ed K W (tSl (rSlL K) te tl th) ρ P := fun W' l σ H Q iv e q =>
  h W' l σ H _ iv e fun x vx H1 x1 r1 ⟨ds, hx, h1⟩ => h1 W' l σ H1 _ x1.inv (e.mono x1.ex) fun lo H2 x2 h2 => h2 W' l σ H2 _ x2.inv (e.mono (x1.trans x2).ex) fun hi H3 x3 p => by
    subst hx
    obtain ⟨a, xs, rfl, h3, _, h4⟩ := dq_lst (r1.mono (x2.trans x3).ex)
    exact ⟨a, xs, rfl, SqL.of h3, fun b hb => q _ _ _ ((x1.trans (x2.trans x3)).trans (Xt.new x3.inv hb)) (new_lst x3.inv hb (cut_rel h4 lo hi)) p⟩
theorem ed_slT {tl th : TO} (h : Ed K W te ρ fun x => ∃ ds, x = .tuple ds ∧ Eo K W tl ρ fun lo => Eo K W th ρ fun hi => P (.tuple (cutL ds lo hi))) : Ed K W (tSl (rSlA K) te tl th) ρ P := fun W' l σ H Q iv e q =>
  h W' l σ H _ iv e fun x vx H1 x1 r1 ⟨ds, hx, h1⟩ => h1 W' l σ H1 _ x1.inv (e.mono x1.ex) fun lo H2 x2 h2 => h2 W' l σ H2 _ x2.inv (e.mono (x1.trans x2).ex) fun hi H3 x3 p => by
    subst hx
    have r3 := r1.mono (x2.trans x3).ex
    obtain ⟨a, xs, rfl, h3, h4⟩ := dq_tup r3
    refine ⟨a, xs, rfl, h3, fun z => ?_, fun _ b hb => q _ _ _ ((x1.trans (x2.trans x3)).trans (Xt.new x3.inv hb)) (new_tup x3.inv hb (cut_rel h4 lo hi)) p⟩
    rw [h4.length] at z
    have p2 : P (.tuple (cutL ds lo hi)) := p
    rw [cut_whole z] at p2
    have p := p2
    exact q _ _ H3 (x1.trans (x2.trans x3)) r3 p
theorem ed_slS {tl th : TO} (h : Ed K W te ρ fun x => ∃ s, x = .str s ∧ s.length ≤ 100000 ∧ Eo K W tl ρ fun lo => Eo K W th ρ fun hi => P (.str (cutS s lo hi))) : Ed K W (tSl rSlS te tl th) ρ P := fun W' l σ H Q iv e q =>
  h W' l σ H _ iv e fun x vx H1 x1 r1 ⟨s, hx, hz, h1⟩ => h1 W' l σ H1 _ x1.inv (e.mono x1.ex) fun lo H2 x2 h2 => h2 W' l σ H2 _ x2.inv (e.mono (x1.trans x2).ex) fun hi H3 x3 p => by
    subst hx
    cases r1
    exact ⟨s, rfl, Evl.sz_of hz, q _ _ H3 (x1.trans (x2.trans x3)) (.str _) p⟩

/-! ### lists and tuples joined -/
theorem ed_cat (h : Ed K W ta ρ fun x => ∃ ds, x = .list ds ∧ Ed K W tb ρ fun y => ∃ es, y = .list es ∧ ds.length + es.length ≤ 100000 ∧ P (.list (ds ++ es))) : Ed K W (tOp rCat ta tb) ρ P := fun W' l σ H Q iv e q =>
  h W' l σ H _ iv e fun x vx H1 x1 r1 ⟨ds, hx, h1⟩ => h1 W' l σ H1 _ x1.inv (e.mono x1.ex) fun y vy H2 x2 r2 ⟨es, hy, c, p⟩ => by
    subst hx hy
    obtain ⟨a, xs, rfl, h3, _, h4⟩ := dq_lst (r1.mono x2.ex)
    obtain ⟨b, zs, rfl, h5, _, h6⟩ := dq_lst r2
    exact ⟨a, b, xs, zs, rfl, rfl, h3, h5, by rw [h4.length, h6.length]; exact Evl.sz_of c, fun b hb => q _ _ _ ((x1.trans x2).trans (Xt.new x2.inv hb)) (new_lst x2.inv hb (h4.append h6)) p⟩
theorem ed_catT (h : Ed K W ta ρ fun x => ∃ ds, x = .tuple ds ∧ Ed K W tb ρ fun y => ∃ es, y = .tuple es ∧ ds.length + es.length ≤ 100000 ∧ P (.tuple (ds ++ es))) : Ed K W (tOp (rCatA K) ta tb) ρ P := fun W' l σ H Q iv e q =>
  h W' l σ H _ iv e fun x vx H1 x1 r1 ⟨ds, hx, h1⟩ => h1 W' l σ H1 _ x1.inv (e.mono x1.ex) fun y vy H2 x2 r2 ⟨es, hy, c, p⟩ => by
    subst hx hy
    have r1' := r1.mono x2.ex
    obtain ⟨a, xs, rfl, h3, h4⟩ := dq_tup r1'
    obtain ⟨b, zs, rfl, h5, h6⟩ := dq_tup r2
    refine ⟨a, b, xs, zs, rfl, rfl, h3, h5, by rw [h4.length, h6.length]; exact Evl.sz_of c, fun z => ?_, fun _ z => ?_, fun _ _ b hb => q _ _ _ ((x1.trans x2).trans (Xt.new x2.inv hb)) (new_tup x2.inv hb (h4.append h6)) p⟩
    · have e0 : ds = [] := List.eq_nil_of_length_eq_zero (by rw [← h4.length, z]; rfl)
      subst e0
      exact q _ _ H2 (x1.trans x2) r2 p
    · have e0 : es = [] := List.eq_nil_of_length_eq_zero (by rw [← h6.length, z]; rfl)
      subst e0
      rw [List.append_nil] at p
      exact q _ _ H2 (x1.trans x2) r1' p

/-! ### f-strings -/
def Ej (K : PySem.W.Frag) (W : Wd) : List TE → Str → List En → (Str → Prop) → Prop
  | [], acc, _, P => P acc
  | t :: ts, acc, ρ, P => Ed K W t ρ fun x => ∃ y : Str, x = .str y ∧ (acc ++ y).length ≤ sizeLine ∧ Ej K W ts (acc ++ y) ρ P
theorem ej_run {W' : Wd} (l : W.le W') {σ : L2.St} : ∀ (ts : List TE) (acc : Str) (H : Hp) (P : Str → Prop) (Q : Str → Hp → Prop), W'.inv H → EnvD K (hide W' H) ρ σ → Ej K W ts acc ρ P → (∀ s H', Xt W' H H' → P s → Q s H') → tJs ts acc σ H Q
  | [], acc, H, P, Q, iv, e, h, q => q acc H (Xt.refl iv) h
  | t :: ts, acc, H, P, Q, iv, e, h, q => h W' l σ H _ iv e fun x vx H1 x1 r1 ⟨y, hx, hz, h1⟩ => by
    subst hx
    cases r1
    exact ⟨y, rfl, hz, ej_run l ts (acc ++ y) H1 P Q x1.inv (e.mono x1.ex) h1 fun s H' x2 p => q s H' (x1.trans x2) p⟩
def tJ (ts : List TE) : TE := fun σ H Q => tJs ts Str.empty σ H fun out H1 => Q (.str out) H1
theorem pe_joinedQ {X : Cx} {v1 v2 : Expr} {rest : List Expr} {ts : List TE} {pos : Pos} (h : PJ X (v1 :: v2 :: rest) ts) : PE X (.JoinedStr (v1 :: v2 :: rest) pos) (tJ ts) := pe_joined h
theorem ed_joined {ts : List TE} (h : Ej K W ts Str.empty ρ fun s => P (.str s)) : Ed K W (tJ ts) ρ P := fun W' l σ H Q iv e q => ej_run l ts Str.empty H _ _ iv e h fun s H' x p => q _ _ H' x (.str _) p
theorem ed_fmt (h : Ed K W te ρ fun x => ∃ s, strD x = some s ∧ s.length ≤ 100000 ∧ P (.str s)) : Ed K W (tFmt te) ρ P := fun W' l σ H Q iv e q =>
  h W' l σ H _ iv e fun x vx H1 x1 r1 ⟨s, hx, hz, p⟩ => by
    cases r1 with
    | int i =>
      have hx' : (if i.natAbs.log2 < 1920 then some (Str.ofString (toString i)) else none) = some s := hx
      by_cases hz : i.natAbs.log2 < 1920
      · rw [if_pos hz] at hx'
        exact Or.inr ⟨i, rfl, hz, q _ _ H1 x1 (by rw [← Option.some.inj hx']; exact .str _) p⟩
      · rw [if_neg hz] at hx'
        cases hx'
    | str y =>
      have e1 : y = s := Option.some.inj hx
      subst e1
      exact Or.inl ⟨y, rfl, Evl.sz_of hz, q _ _ H1 x1 (.str _) p⟩
    | _ => cases hx

/-! ### a written dict asked -/
def litT (kvs : List (Str × V)) : List (TE × TE) := kvs.map fun p => (tC (.str p.1), tC p.2)
def keyd (kvs : List (Str × V)) : List (Key × V) := kvs.map fun p => (Sum.inr p.1, p.2)
theorem lit_run (σ : L2.St) (H : Hp) : ∀ (kvs : List (Str × V)) (R : List (V × V) → Hp → Prop), R ((keyd kvs).map fun kv => (kV kv.1, kv.2)) H → tPairs (litT kvs) σ H R
  | [], R, h => h
  | (k, v) :: r, R, h => lit_run σ H r (fun ps H2 => R ((V.str k, v) :: ps) H2) h
def lookD (kvs : List (Str × V)) (k : Str) : Option V := valV (mergeK [] (keyd kvs)) (Sum.inr k)
theorem ed_get1 {kvs : List (Str × V)} (hl : kvs.length ≤ 15) (h : Ed K W ta ρ fun x => ∃ k d, x = .str k ∧ (∀ H, Dq K H ((lookD kvs k).getD .non) d) ∧ P d) : Ed K W (tDGet1 (tDisp (litT kvs)) ta) ρ P := fun W' l σ H Q iv e q => by
  intro a ha
  refine lit_run σ _ kvs _ ⟨upd_same, keyd kvs, rfl, by unfold keyd; rw [List.length_map]; exact hl, a, rfl, ?_, ?_⟩
  · exact Or.inl ⟨_, Or.inl upd_same⟩
  · rw [upd_upd]
    have x0 : Xt W' H (upd H a (.dK (mergeK [] (keyd kvs)))) := Xt.new iv ha
    refine h W' l σ _ _ x0.inv (e.mono x0.ex) fun x vx H1 x1 r1 ⟨k, d, hx, hd, p⟩ => ?_
    subst hx
    cases r1
    have at1 : H1 a = some (.dK (mergeK [] (keyd kvs))) := by
      have ho := W'.out iv ha
      have := x1.ex a _ (by rw [hide_out ho]; exact upd_same)
      rw [hide_out ho] at this
      exact this
    exact ⟨_, DGet.k (k := Sum.inr k) at1, q _ _ H1 (x0.trans x1) (hd _) p⟩
theorem ed_get2 {kvs : List (Str × V)} (hl : kvs.length ≤ 15) (h : Ed K W ta ρ fun x => Ed K W tb ρ fun y => ∃ k d, x = .str k ∧ (∀ H vy, Dq K H vy y → Dq K H ((lookD kvs k).getD vy) d) ∧ P d) : Ed K W (tDGet2 (tDisp (litT kvs)) ta tb) ρ P := fun W' l σ H Q iv e q => by
  intro a ha
  refine lit_run σ _ kvs _ ⟨upd_same, keyd kvs, rfl, by unfold keyd; rw [List.length_map]; exact hl, a, rfl, ?_, ?_⟩
  · exact Or.inl ⟨_, Or.inl upd_same⟩
  · rw [upd_upd]
    have x0 : Xt W' H (upd H a (.dK (mergeK [] (keyd kvs)))) := Xt.new iv ha
    refine h W' l σ _ _ x0.inv (e.mono x0.ex) fun x vx H1 x1 r1 h2 => h2 W' l σ _ _ x1.inv (e.mono (x0.trans x1).ex) fun y vy H2 x2 r2 ⟨k, d, hx, hd, p⟩ => ?_
    subst hx
    cases r1
    have at1 : H2 a = some (.dK (mergeK [] (keyd kvs))) := by
      have ho := W'.out iv ha
      have := (x1.trans x2).ex a _ (by rw [hide_out ho]; exact upd_same)
      rw [hide_out ho] at this
      exact this
    exact ⟨_, DGet.k (k := Sum.inr k) at1, q _ _ H2 (x0.trans (x1.trans x2)) (hd _ _ r2) p⟩

/-! ### promises by data -/
/-- called with data that C pairs with the answer's datum -/
def spR (K : PySem.W.Frag) (C : List PyData → PyData → Prop) : Sp := fun vs H Q _ => ∃ (W : Wd) (ds : List PyData) (d : PyData), W.inv H ∧ DqAll K (hide W H) vs ds ∧ C ds d ∧ ∀ v H', Xt W H H' → Dq K (hide W H') v d → Q v H'
theorem ed_call {C : List PyData → PyData → Prop} {E : XK} {t : TA} (h : Ea K W t ρ fun ds => ∃ d, C ds d ∧ P d) : Ed K W (tCall (spR K C) [] E t) ρ P := fun W' l σ H Q iv e q =>
  h W' l σ H _ iv e fun ds vs H1 x1 r1 ⟨d, c, p⟩ => ⟨W', ds, d, x1.inv, by rw [List.append_nil]; exact r1, c, fun v H' x r => q d v H' (x1.trans x) r p⟩

/-! ### targets -/
theorem enval {h : Hp} {v : V} {d : PyData} (r : Dq K h v d) : EnR K h (.val d) (some v) := ⟨v, rfl, r⟩
theorem eg_name {i : Nat} {x : PyData} {P : List En → Prop} (p : P (ρ.set i (.val x))) : Eg K [i] (gName i) x ρ P := fun W' v σ H Q e r q =>
  q _ _ (EnvD.set i (enval r) e) p fun vs h => wipe_set (h i List.mem_cons_self) _
theorem eg_tup2 {i j : Nat} {x y : PyData} {P : List En → Prop} (p : P ((ρ.set i (.val x)).set j (.val y))) : Eg K [i, j] (gTup K 2 (gCons (gName i) (gCons (gName j) gNil))) (.tuple [x, y]) ρ P := fun W' v σ H Q e r q => by
  obtain ⟨a, xs, rfl, h1, h2⟩ := dq_tup r
  cases h2 with
  | cons r1 h2 => cases h2 with
    | cons r2 h2 =>
      cases h2
      refine ⟨a, _, rfl, h1, rfl, _, _, rfl, _, _, rfl, rfl, ?_⟩
      exact q _ _ (EnvD.set j (enval r2) (EnvD.set i (enval r1) e)) p fun vs h => (wipe_set (h j (List.mem_cons_of_mem _ List.mem_cons_self)) _).trans (wipe_set (h i List.mem_cons_self) _)
theorem eg_tup3 {i j k : Nat} {x y z : PyData} {P : List En → Prop} (p : P (((ρ.set i (.val x)).set j (.val y)).set k (.val z))) : Eg K [i, j, k] (gTup K 3 (gCons (gName i) (gCons (gName j) (gCons (gName k) gNil)))) (.tuple [x, y, z]) ρ P := fun W' v σ H Q e r q => by
  obtain ⟨a, xs, rfl, h1, h2⟩ := dq_tup r
  cases h2 with
  | cons r1 h2 => cases h2 with
    | cons r2 h2 => cases h2 with
      | cons r3 h2 =>
        cases h2
        refine ⟨a, _, rfl, h1, rfl, _, _, rfl, _, _, rfl, _, _, rfl, rfl, ?_⟩
        exact q _ _ (EnvD.set k (enval r3) (EnvD.set j (enval r2) (EnvD.set i (enval r1) e))) p fun vs h =>
          (wipe_set (h k (List.mem_cons_of_mem _ (List.mem_cons_of_mem _ List.mem_cons_self))) _).trans ((wipe_set (h j (List.mem_cons_of_mem _ List.mem_cons_self)) _).trans (wipe_set (h i List.mem_cons_self) _))

/-! ### what is walked -/
/-- J walks over the data ds, from H1 on -/
def Wk (K : PySem.W.Frag) (W : Wd) (J : It) (ds : List PyData) (H1 : Hp) : Prop := ∃ (G : Hp → Prop) (Y : Nat → Hp → V → Hp → Prop), Walk J ds.length G Y ∧ (∀ H, Ex (hide W H1) (hide W H) → G H) ∧ ∀ i H v H', i < ds.length → Ex (hide W H1) (hide W H) → Y i H v H' →
  ∀ W' : Wd, (∀ b ∈ W.B, b ∈ W'.B) → W'.inv H → Xt W' H H' ∧ ((∀ b ∈ W'.B, H1 b = none ∨ b ∈ W.B) → ∃ d, ds[i]? = some d ∧ Dq K (hide W' H') v d)
def Ei (K : PySem.W.Frag) (W : Wd) (wi : TI) (ρ : List En) (P : List PyData → Prop) : Prop := ∀ W', W.le W' → ∀ (σ : L2.St) (H : Hp) (R : It → Hp → Prop), W'.inv H → EnvD K (hide W' H) ρ σ →
  (∀ ds J H', Xt W' H H' → Wk K W' J ds H' → P ds → R J H') → wi σ H R
/-- what stood at H1 apart from W stands, seen from a larger world whose further things are new -/
theorem dq_wide {W W' : Wd} {H1 H : Hp} (x : Ex (hide W H1) (hide W H)) (hn : ∀ b ∈ W'.B, H1 b = none ∨ b ∈ W.B) {v : V} {d : PyData} (r : Dq K (hide W H1) v d) : Dq K (hide W' H) v d := by
  refine r.mono fun a o e => ?_
  have h0 : a ∉ W.B := fun z => by rw [hide_in z] at e; cases e
  have h1 := x a o e
  rw [hide_out h0] at e h1
  have h2 : a ∉ W'.B := fun z => by
    rcases hn a z with q | q
    · rw [e] at q; cases q
    · exact h0 q
  rw [hide_out h2]
  exact h1
theorem ei_list {P : List PyData → Prop} (h : Ed K W te ρ fun x => ∃ ds, x = .list ds ∧ P ds) : Ei K W (iList K te) ρ P := fun W' l σ H R iv e q => h W' l σ H _ iv e fun x vx H1 x1 r1 ⟨ds, hx, p⟩ => by
  subst hx
  obtain ⟨a, xs, rfl, h1, h1', h2⟩ := dq_lst r1
  refine ⟨a, rfl, ⟨xs, SqL.of h1⟩, q ds _ H1 x1 ⟨(fun H => SqL K H a xs), YAt xs, ?_, ?_, ?_⟩ p⟩
  · rw [← h2.length]; exact walk_list
  · exact fun H y => SqL.of (hide_ex W' H _ _ (y a _ h1'))
  · rintro i H2 v H3 hi y ⟨rfl, hv⟩ W2 l2 iv2
    refine ⟨Xt.refl iv2, fun hn => ?_⟩
    obtain ⟨d, hd⟩ : ∃ d, ds[i]? = some d := ⟨ds[i], by simp [hi]⟩
    obtain ⟨v', e1, e2⟩ := h2.get hd
    rw [hv] at e1
    cases e1
    exact ⟨d, hd, dq_wide y hn e2⟩
theorem ei_tup {P : List PyData → Prop} (h : Ed K W te ρ fun x => ∃ ds, x = .tuple ds ∧ P ds) : Ei K W (iTup K te) ρ P := fun W' l σ H R iv e q => h W' l σ H _ iv e fun x vx H1 x1 r1 ⟨ds, hx, p⟩ => by
  subst hx
  have r1' := r1
  obtain ⟨a, xs, rfl, h1, h2⟩ := dq_tup r1
  cases r1' with
  | @tup a xs' _ h1' h2' =>
    refine ⟨a, rfl, ⟨xs', Evl.ex_t (hide_ex W' H1) h1'⟩, q ds _ H1 x1 ⟨(fun H => SqT K H a xs'), YAt xs', ?_, ?_, ?_⟩ p⟩
    · rw [← h2'.length]; exact walk_tup
    · exact fun H y => Evl.ex_t (hide_ex W' H) (Evl.ex_t y h1')
    · rintro i H2 v H3 hi y ⟨rfl, hv⟩ W2 l2 iv2
      refine ⟨Xt.refl iv2, fun hn => ?_⟩
      obtain ⟨d, hd⟩ : ∃ d, ds[i]? = some d := ⟨ds[i], by simp [hi]⟩
      obtain ⟨v', e1, e2⟩ := h2'.get hd
      rw [hv] at e1
      cases e1
      exact ⟨d, hd, dq_wide y hn e2⟩
def signs (s : Str) : List PyData := s.cps.toList.map fun c => .str ⟨#[c]⟩
theorem ei_str {P : List PyData → Prop} (h : Ed K W te ρ fun x => ∃ s, x = .str s ∧ P (signs s)) : Ei K W (iStr te) ρ P := fun W' l σ H R iv e q => h W' l σ H _ iv e fun x vx H1 x1 r1 ⟨s, hx, p⟩ => by
  subst hx
  cases r1
  refine ⟨s, rfl, q (signs s) _ H1 x1 ⟨(fun _ => True), (fun i H v H' => H' = H ∧ ∃ c, s.cps[i]? = some c ∧ v = .str ⟨#[c]⟩), ?_, fun _ _ => True.intro, ?_⟩ p⟩
  · have : (signs s).length = s.cps.size := by simp [signs]
    rw [this]
    exact walk_str
  · rintro i H2 v H3 hi y ⟨rfl, c, hc, rfl⟩ W2 l2 iv2
    exact ⟨Xt.refl iv2, fun hn => ⟨.str ⟨#[c]⟩, by simp [signs, ← hc], .str _⟩⟩

/-! ### list comprehensions -/
theorem ed_lc {wi : TI} {g : TG} {vs gs : List Nat} (hgs : ∀ i ∈ gs, i ∈ vs) (h : Ei K W wi ρ fun ds => ds.length ≤ 100000 ∧ ∃ (sel : PyData → Bool) (f : PyData → PyData),
    (∀ x ∈ ds, Eg K gs g x (wipeE ρ vs) fun ρ' => Et K W tt ρ' fun b => b = sel x ∧ (b = true → Ed K W te ρ' fun y => y = f x)) ∧ P (.list ((ds.filter sel).map f))) : Ed K W (tLc wi g tt te vs) ρ P := fun W' l σ H Q iv e q =>
  h W' l σ H _ iv e fun ds J H1 x1 ⟨G, Y, w, hG, hY⟩ ⟨hz, sel, f, hs, p⟩ => by
    intro Dl hD
    have ob := W'.out x1.inv hD
    -- behind i turns
    refine lc_it w (fun i H' => Xt W' H1 H' ∧ ∃ acc, H' Dl = some (.lst acc) ∧ acc.length ≤ i ∧ DqAll K (hide (W'.add Dl (.lst acc)) H') acc (((ds.take i).filter sel).map f)) ?_ (fun i H' _ pv => hG H' pv.1.ex) ?_ ?_
    · exact ⟨Xt.new x1.inv hD, [], upd_same, Nat.le_refl _, .nil⟩
    · rintro i x H2 H3 hi ⟨y2, acc, hacc, hl, ra⟩ hyx
      obtain ⟨d, hd⟩ : ∃ d, ds[i]? = some d := ⟨ds[i], by simp [hi]⟩
      have iv2 : (W'.add Dl (.lst acc)).inv H2 := ⟨y2.inv, hacc⟩
      obtain ⟨y3, hr⟩ := hY i H2 x H3 hi y2.ex hyx (W'.add Dl (.lst acc)) (fun _ hb => List.mem_cons_of_mem _ hb) iv2
      obtain ⟨d', hd', rx⟩ := hr fun b hb => by
        rcases List.mem_cons.mp hb with z | z
        · rw [z]; exact .inl hD
        · exact .inr z
      rw [hd] at hd'
      cases hd'
      have hmem : d ∈ ds := List.mem_of_getElem? hd
      have l2 : W.le (W'.add Dl (.lst acc)) := l.trans (W'.le_add _ _ ob)
      have e3 : EnvD K (hide (W'.add Dl (.lst acc)) H3) ρ σ := by
        refine e.mono fun a o z => ?_
        have h0 : a ∉ W'.B := fun q => by rw [hide_in q] at z; cases z
        have z1 := x1.ex a o z
        rw [hide_out h0] at z1
        have h1 : a ≠ Dl := ne_of_none z1 hD
        have h2 : a ∉ (W'.add Dl (.lst acc)).B := fun q => (List.mem_cons.mp q).elim h1 h0
        have z2 := y2.ex a o (by rw [hide_out h0]; exact z1)
        rw [hide_out h0] at z2
        have z3 := y3.ex a o (by rw [hide_out h2]; exact z2)
        exact z3
      refine hs d hmem (W'.add Dl (.lst acc)) x (L2.wipe σ vs) H3 _ (e3.wipe vs) rx fun ρ' σ' e' ht hw => ⟨(hw vs hgs).trans (wipe_wipe σ vs), ?_⟩
      refine ht (W'.add Dl (.lst acc)) l2 σ' H3 _ y3.inv e' fun b H4 y4 ⟨hb, hel⟩ => ?_
      have t4 : ds.take (i + 1) = ds.take i ++ [d] := by rw [List.take_succ, hd]; rfl
      have keepD : ∀ {H'}, (W'.add Dl (.lst acc)).inv H' → H' Dl = some (.lst acc) := fun z => z.2
      have step : ∀ {H'}, Xt (W'.add Dl (.lst acc)) H2 H' → Xt W' H1 H' := fun {H'} z => y2.trans (Xt.le (W'.le_add _ _ ob) z fun b hb hnb o ho => by
        rcases List.mem_cons.mp hb with q | q
        · rw [q] at ho ⊢
          rw [hacc] at ho
          rw [z.inv.2, ho]
        · exact absurd q hnb)
      cases b with
      | false =>
        refine ⟨step (y3.trans y4), acc, y4.inv.2, by omega, ?_⟩
        rw [t4, List.filter_append, List.filter_cons, if_neg (by rw [← hb]; decide)]
        simp only [List.filter_nil, List.append_nil]
        exact ra.mono (y3.trans y4).ex
      | true =>
        refine hel rfl (W'.add Dl (.lst acc)) l2 σ' H4 _ y4.inv (e'.mono y4.ex) fun y vy H5 y5 r5 hy => ?_
        have x5 := y3.trans (y4.trans y5)
        refine ⟨acc, y5.inv.2, Evl.sz_lt (by omega), ?_, acc ++ [vy], upd_same, by rw [List.length_append]; simp; omega, ?_⟩
        · have s5 := step x5
          have k5 : ∀ b ∈ W'.B, (upd H5 Dl (.lst (acc ++ [vy]))) b = H5 b := fun b hb => upd_ne fun z => ob (z ▸ hb)
          refine ⟨W'.keep s5.inv k5, fun a o z => ?_⟩
          have z5 := s5.ex a o z
          have h0 : a ∉ W'.B := fun q => by rw [hide_in q] at z; cases z
          rw [hide_out h0] at z z5
          rw [hide_out h0, upd_ne (ne_of_none z hD)]
          exact z5
        · have hh : hide (W'.add Dl (.lst (acc ++ [vy]))) (upd H5 Dl (.lst (acc ++ [vy]))) = hide (W'.add Dl (.lst acc)) H5 := by
            funext a
            by_cases ha : a ∈ Dl :: W'.B
            · rw [hide_in (W := W'.add Dl (.lst (acc ++ [vy]))) ha, hide_in (W := W'.add Dl (.lst acc)) ha]
            · rw [hide_out (W := W'.add Dl (.lst (acc ++ [vy]))) ha, hide_out (W := W'.add Dl (.lst acc)) ha, upd_ne fun z => ha (by rw [z]; exact List.mem_cons_self)]
          rw [hh, t4, List.filter_append, List.filter_cons, if_pos hb.symm, List.filter_nil, List.map_append]
          rw [hy] at r5
          exact (ra.mono x5.ex).append (.one r5)
    · rintro H' ⟨y, acc, hacc, _, ra⟩
      rw [List.take_length] at ra
      refine q _ _ H' (x1.trans y) (.lst (by rw [hide_out ob]; exact hacc) (ra.mono (hide_le (W'.le_add _ _ ob) H'))) p
end
end K61
end

section
set_option Elab.async false
set_option linter.all false
set_option maxRecDepth 100000
set_option maxHeartbeats 4000000
/-! The data layer: statements, loops, lists that a loop grows, defs. -/
namespace K61
open PySem PySem.Spec PyProof.Rows L2
open Evl (Ex)
section
variable {K : PySem.W.Frag} {W : Wd} {ρ : List En} {ta tb te : TE} {tt : TT} {ts tu tz : TS} {N : List En → Prop} {R : PyData → Prop}
theorem Sd.mono {N' : List En → Prop} {R' : PyData → Prop} (h : Sd K W ts ρ N R) (hn : ∀ r, N r → N' r) (hr : ∀ d, R d → R' d) : Sd K W ts ρ N' R' := fun W' l σ H D iv e k1 k2 =>
  h W' l σ H D iv e (fun ρ' σ' H' x e' n => k1 ρ' σ' H' x e' (hn _ n)) fun d v H' x r p => k2 d v H' x r (hr d p)
theorem sd_next (n : N ρ) : Sd K W tNext ρ N R := fun W' l σ H D iv e k1 k2 => k1 ρ σ H (Xt.refl iv) e n
theorem sd_ret (h : Ed K W te ρ R) : Sd K W (tRet te) ρ N R := fun W' l σ H D iv e k1 k2 => h W' l σ H D.rt iv e fun d v H' x r p => k2 d v H' x r p
theorem sd_seq (h : Sd K W ts ρ (fun ρ' => Sd K W tu ρ' N R) R) : Sd K W (tSeq ts tu) ρ N R := fun W' l σ H D iv e k1 k2 =>
  h W' l σ H { D with nx := tu D } iv e (fun ρ' σ' H' x e' n => n W' l σ' H' D x.inv e' (fun ρ2 σ2 H2 x2 e2 n2 => k1 ρ2 σ2 H2 (x.trans x2) e2 n2) fun d v H2 x2 r p => k2 d v H2 (x.trans x2) r p) k2
theorem sd_asg {i : Nat} (h : Ed K W te ρ fun d => N (ρ.set i (.val d))) : Sd K W (tAsg te (gName i)) ρ N R := fun W' l σ H D iv e k1 k2 =>
  h W' l σ H _ iv e fun d v H' x r n => k1 _ _ H' x (EnvD.set i (enval r) (e.mono x.ex)) n
/-- a target of several names -/
theorem sd_asgG {g : TG} {gs : List Nat} (h : Ed K W te ρ fun d => Eg K gs g d ρ N) : Sd K W (tAsg te g) ρ N R := fun W' l σ H D iv e k1 k2 =>
  h W' l σ H _ iv e fun d v H' x r n => n W' v σ H' D.nx (e.mono x.ex) r fun ρ' σ' e' n' _ => k1 ρ' σ' H' x e' n'
theorem sd_par {i j : Nat} (h : Ed K W ta ρ fun x => Ed K W tb ρ fun y => N ((ρ.set i (.val x)).set j (.val y))) : Sd K W (tPar i j (tCons ta (tCons tb tNil))) ρ N R := fun W' l σ H D iv e k1 k2 =>
  h W' l σ H _ iv e fun d v H' x r h1 => h1 W' l σ H' _ x.inv (e.mono x.ex) fun d2 v2 H2 x2 r2 n => ⟨v, v2, rfl, k1 _ _ H2 (x.trans x2) (EnvD.set j (enval r2) (EnvD.set i (enval (r.mono x2.ex)) (e.mono (x.trans x2).ex))) n⟩
theorem sd_if (h : Et K W tt ρ fun b => if b = true then Sd K W ts ρ N R else Sd K W tu ρ N R) : Sd K W (tIfS tt ts tu) ρ N R := fun W' l σ H D iv e k1 k2 =>
  h W' l σ H _ iv e fun b H' x p => by
    cases b with
    | true => exact p W' l σ H' D x.inv (e.mono x.ex) (fun ρ2 σ2 H2 x2 e2 n2 => k1 ρ2 σ2 H2 (x.trans x2) e2 n2) fun d v H2 x2 r p => k2 d v H2 (x.trans x2) r p
    | false => exact p W' l σ H' D x.inv (e.mono x.ex) (fun ρ2 σ2 H2 x2 e2 n2 => k1 ρ2 σ2 H2 (x.trans x2) e2 n2) fun d v H2 x2 r p => k2 d v H2 (x.trans x2) r p
theorem sd_drop (h : Ed K W te ρ fun _ => N ρ) : Sd K W (tDrop te) ρ N R := fun W' l σ H D iv e k1 k2 => h W' l σ H _ iv e fun d v H' x r n => k1 ρ σ H' x (e.mono x.ex) n
/-- a for that grows nothing: Iv by the turn -/
theorem sd_for {wi : TI} {g : TG} {gs : List Nat} (h : Ei K W wi ρ fun ds => ∃ Iv : Nat → List En → Prop, Iv 0 ρ ∧ (∀ i x ρ', ds[i]? = some x → Iv i ρ' → Eg K gs g x ρ' fun ρ2 => Sd K W ts ρ2 (Iv (i + 1)) R) ∧ ∀ ρ', Iv ds.length ρ' → N ρ') :
    Sd K W (tFor wi g ts) ρ N R := fun W' l σ H D iv e k1 k2 => h W' l σ H _ iv e fun ds J H1 x1 ⟨G, Y, w, hG, hY⟩ ⟨Iv, h0, hs, hd⟩ => by
  refine for_it w (fun i σ' H' => Xt W' H1 H' ∧ ∃ ρ', EnvD K (hide W' H') ρ' σ' ∧ Iv i ρ') ⟨Xt.refl x1.inv, ρ, e.mono x1.ex, h0⟩ (fun i σ' H' _ p => hG H' p.1.ex) ?_ ?_
  · rintro i x σ' H2 H3 hi ⟨y2, ρ', e', n'⟩ hyx
    obtain ⟨y3, hr⟩ := hY i H2 x H3 hi y2.ex hyx W' (fun _ hb => hb) y2.inv
    obtain ⟨d, hd', rx⟩ := hr fun b hb => .inr hb
    refine hs i d ρ' hd' n' W' x σ' H3 _ (e'.mono y3.ex) rx fun ρ2 σ2 e2 n2 _ => ?_
    refine n2 W' l σ2 H3 _ y3.inv e2 (fun ρ4 σ4 H4 x4 e4 n4 => ⟨(y2.trans y3).trans x4, ρ4, e4, n4⟩) fun d v H4 x4 r4 p4 => k2 d v H4 (x1.trans ((y2.trans y3).trans x4)) r4 p4
  · rintro σ' H2 ⟨y2, ρ', e', n'⟩
    exact k1 ρ' σ' H2 (x1.trans y2) e' (hd ρ' n')

/-! ### a list that a loop grows: it stands in the slot j -/
def Sb (K : PySem.W.Frag) (W : Wd) (j : Nat) (ts : TS) (ρ : List En) (N : List En → List PyData → Prop) : Prop := ∀ (W' : Wd), W.le W' → ∀ (p : Addr) (vs : List V) (σ : L2.St) (H : Hp) (D : Ends), W'.inv H → p ∉ W'.B → H p = some (.lst vs) → vs.length ≤ 50000 → σ[j]? = some (some (.ref p)) →
  EnvD K (hide (W'.add p (.lst vs)) H) ρ σ →
  (∀ ρ' app us σ' H', W'.inv H' → Ex (hide (W'.add p (.lst vs)) H) (hide (W'.add p (.lst (vs ++ us))) H') → H' p = some (.lst (vs ++ us)) → us.length = app.length → DqAll K (hide (W'.add p (.lst (vs ++ us))) H') us app → EnvD K (hide (W'.add p (.lst (vs ++ us))) H') ρ' σ' → σ'[j]? = some (some (.ref p)) →
    N ρ' app → D.nx σ' H') → ts D σ H
theorem hide_add {W : Wd} {p : Addr} {o u : HO} (H : Hp) : hide (W.add p u) (upd H p o) = hide (W.add p o) H := by
  funext a
  by_cases ha : a ∈ p :: W.B
  · rw [hide_in (W := W.add p u) ha, hide_in (W := W.add p o) ha]
  · rw [hide_out (W := W.add p u) ha, hide_out (W := W.add p o) ha, upd_ne fun z => ha (by rw [z]; exact List.mem_cons_self)]
theorem hide_addE {W : Wd} {p : Addr} {o u : HO} (H : Hp) : hide (W.add p u) H = hide (W.add p o) H := by
  funext a
  by_cases ha : a ∈ p :: W.B
  · rw [hide_in (W := W.add p u) ha, hide_in (W := W.add p o) ha]
  · rw [hide_out (W := W.add p u) ha, hide_out (W := W.add p o) ha]
variable {j : Nat} {Nb : List En → List PyData → Prop}
theorem sb_next (n : Nb ρ []) : Sb K W j tNext ρ Nb := fun W' l p vs σ H D iv ho hp hz hj e k => by
  have e0 : vs ++ ([] : List V) = vs := List.append_nil _
  refine k ρ [] [] σ H iv ?_ ?_ rfl .nil ?_ hj n
  · rw [e0]; exact Ex.refl _
  · rw [e0]; exact hp
  · rw [e0]; exact e
theorem sb_if (h : Et K W tt ρ fun b => if b = true then Sb K W j ts ρ Nb else Sb K W j tu ρ Nb) : Sb K W j (tIfS tt ts tu) ρ Nb := fun W' l p vs σ H D iv ho hp hz hj e k =>
  h (W'.add p (.lst vs)) (l.trans (W'.le_add _ _ ho)) σ H _ ⟨iv, hp⟩ e fun b H' x q => by
    have go : ∀ {t : TS}, Sb K W j t ρ Nb → t D σ H' := fun {t} z => z W' l p vs σ H' D x.inv.1 ho x.inv.2 hz hj (e.mono x.ex) fun ρ' app us σ' H2 i2 x2 h2 hl r2 e2 j2 n2 => k ρ' app us σ' H2 i2 (x.ex.trans x2) h2 hl r2 e2 j2 n2
    cases b with
    | true => exact go q
    | false => exact go q
theorem sb_asg {i : Nat} (hij : i ≠ j) (h : Ed K W te ρ fun d => Nb (ρ.set i (.val d)) []) : Sb K W j (tAsg te (gName i)) ρ Nb := fun W' l p vs σ H D iv ho hp hz hj e k =>
  h (W'.add p (.lst vs)) (l.trans (W'.le_add _ _ ho)) σ H _ ⟨iv, hp⟩ e fun d v H' x r n => by
    have e0 : vs ++ ([] : List V) = vs := List.append_nil _
    refine k _ [] [] _ H' x.inv.1 ?_ ?_ rfl .nil ?_ ?_ n
    · rw [e0]; exact x.ex
    · rw [e0]; exact x.inv.2
    · rw [e0]; exact EnvD.set i (enval r) (e.mono x.ex)
    · rw [List.getElem?_set_ne hij]; exact hj
/-- a name set, then the list grown -/
theorem sb_asgThen {i : Nat} (hij : i ≠ j) (h : Ed K W te ρ fun d => Sb K W j tu (ρ.set i (.val d)) Nb) : Sb K W j (tSeq (tAsg te (gName i)) tu) ρ Nb := fun W' l p vs σ H D iv ho hp hz hj e k =>
  h (W'.add p (.lst vs)) (l.trans (W'.le_add _ _ ho)) σ H _ ⟨iv, hp⟩ e fun d v H' x r n =>
    n W' l p vs _ H' D x.inv.1 ho x.inv.2 hz (by rw [List.getElem?_set_ne hij]; exact hj) (EnvD.set i (enval r) (e.mono x.ex)) fun ρ' app us σ' H2 i2 x2 h2 hl r2 e2 j2 n2 => k ρ' app us σ' H2 i2 (x.ex.trans x2) h2 hl r2 e2 j2 n2
/-- what a step in the larger world leaves, the list then changed -/
theorem grown {W' : Wd} {p : Addr} {vs zs : List V} {H H' : Hp} (ho : p ∉ W'.B) (x : Xt (W'.add p (.lst vs)) H H') : W'.inv (upd H' p (.lst zs)) ∧ Ex (hide (W'.add p (.lst vs)) H) (hide (W'.add p (.lst zs)) (upd H' p (.lst zs))) := by
  refine ⟨W'.keep x.inv.1 fun b hb => upd_ne fun z => ho (z ▸ hb), ?_⟩
  rw [hide_add, hide_addE (o := .lst vs)]
  exact x.ex
theorem sb_app (h : Ed K W te ρ fun d => Nb ρ [d]) : Sb K W j (tDrop (tBM K "list" rAppend (tVar j) (tCons te tNil))) ρ Nb := fun W' l p vs σ H D iv ho hp hz hj e k => by
  refine ⟨_, hj, Or.inl ⟨rfl, _, SqL.of hp⟩, ?_⟩
  refine h (W'.add p (.lst vs)) (l.trans (W'.le_add _ _ ho)) σ H _ ⟨iv, hp⟩ e fun d v H' x r n => ?_
  obtain ⟨g1, g2⟩ := grown (zs := vs ++ [v]) ho x
  refine ⟨p, vs, v, rfl, rfl, x.inv.2, Evl.sz_lt (by omega), k ρ [d] [v] σ _ g1 g2 upd_same rfl (.one ?_) ?_ hj n⟩
  · rw [hide_add, hide_addE (o := .lst vs)]; exact r
  · rw [hide_add, hide_addE (o := .lst vs)]; exact e.mono x.ex
theorem sb_ext (h : Ed K W te ρ fun d => ∃ ds, d = .list ds ∧ ds.length ≤ 10000 ∧ Nb ρ ds) : Sb K W j (tDrop (tBM K "list" rExtend (tVar j) (tCons te tNil))) ρ Nb := fun W' l p vs σ H D iv ho hp hz hj e k => by
  refine ⟨_, hj, Or.inl ⟨rfl, _, SqL.of hp⟩, ?_⟩
  refine h (W'.add p (.lst vs)) (l.trans (W'.le_add _ _ ho)) σ H _ ⟨iv, hp⟩ e fun d v H' x r ⟨ds, hd, hl, n⟩ => ?_
  subst hd
  obtain ⟨b, zs, rfl, h1, h2, h3⟩ := dq_lst r
  obtain ⟨g1, g2⟩ := grown (zs := vs ++ zs) ho x
  have hlz := h3.length
  refine ⟨p, b, vs, zs, rfl, rfl, x.inv.2, h1, Evl.sz_of (by omega), k ρ ds zs σ _ g1 g2 upd_same hlz ?_ ?_ hj n⟩
  · rw [hide_add, hide_addE (o := .lst vs)]; exact h3
  · rw [hide_add, hide_addE (o := .lst vs)]; exact e.mono x.ex
/-- the world in which some list stands at p, apart -/
def _root_.K61.Wd.opn (W : Wd) (p : Addr) : Wd where
  B := p :: W.B
  inv H := W.inv H ∧ ∃ vs, H p = some (.lst vs)
  keep := fun {H H'} h k => ⟨W.keep h.1 fun b hb => k b (List.mem_cons_of_mem _ hb), h.2.elim fun vs q => ⟨vs, (k p List.mem_cons_self).trans q⟩⟩
  trk := fun {H b} h hb => by
    rcases List.mem_cons.mp hb with e | hb
    · obtain ⟨vs, q⟩ := h.2
      rw [e, q]; exact fun z => nomatch z
    · exact W.trk h.1 hb
theorem hide_opn {W : Wd} {p : Addr} {o : HO} (H : Hp) : hide (W.opn p) H = hide (W.add p o) H := rfl
theorem opn_le (W : Wd) (p : Addr) : ∀ a ∈ W.B, a ∈ (W.opn p).B := fun _ h => List.mem_cons_of_mem _ h
def fed (F : Nat → PyData → List PyData) (ds : List PyData) : List PyData := (ds.zipIdx.map fun p => F p.2 p.1).flatten
theorem fed_take (F : Nat → PyData → List PyData) {ds : List PyData} {i : Nat} {d : PyData} (h : ds[i]? = some d) : fed F (ds.take (i + 1)) = fed F (ds.take i) ++ F i d := by
  have hi : i < ds.length := by
    obtain ⟨q, _⟩ := List.getElem?_eq_some_iff.mp h
    exact q
  unfold fed
  rw [List.take_succ, h, Option.toList_some, List.zipIdx_append, List.map_append, List.flatten_append, List.length_take, Nat.min_eq_left (by omega)]
  simp
theorem fed_len {F : Nat → PyData → List PyData} (hF : ∀ i x, (F i x).length ≤ 20) : ∀ (ds : List PyData) (k : Nat), ((ds.zipIdx k).map fun p => F p.2 p.1).flatten.length ≤ 20 * ds.length
  | [], k => by simp
  | d :: ds, k => by
    have h1 := fed_len hF ds (k + 1)
    have h2 := hF k d
    rw [List.zipIdx_cons, List.map_cons, List.flatten_cons, List.length_append, List.length_cons]
    show (F k d).length + _ ≤ _
    omega
/-- xs = []; for .. : body that grows xs. F: what each turn adds -/
theorem sd_build {wi : TI} {g : TG} {gs : List Nat} (hj : j < ρ.length) (hgj : j ∉ gs) (h : Ei K W wi (ρ.set j .any) fun ds => ds.length ≤ 2000 ∧ ∃ (Iv : Nat → List En → Prop) (F : Nat → PyData → List PyData), (∀ i x, (F i x).length ≤ 20) ∧ Iv 0 (ρ.set j .any) ∧
      (∀ i x ρ', ds[i]? = some x → Iv i ρ' → Eg K gs g x ρ' fun ρ2 => Sb K W j ts ρ2 fun ρ3 app => app = F i x ∧ Iv (i + 1) ρ3) ∧ ∀ ρ', Iv ds.length ρ' → Sd K W tz (ρ'.set j (.val (.list (fed F ds)))) N R) :
    Sd K W (tSeq (tAsg (tLst tNil) (gName j)) (tSeq (tFor wi g ts) tz)) ρ N R := fun W' l σ H D iv e k1 k2 => by
  refine ⟨Nat.zero_le _, fun p hp => ?_⟩
  have x0 : Xt W' H (upd H p (.lst [])) := Xt.new iv hp
  have ho := W'.out iv hp
  have lσ : σ.length = ρ.length := (Paired.length e).symm
  have wk : ∀ {a : Addr} {o : HO}, hide W' H a = some o → a ∉ W'.B ∧ a ≠ p ∧ H a = some o := fun {a o} z => by
    have h0 : a ∉ W'.B := fun q => by rw [hide_in q] at z; cases z
    rw [hide_out h0] at z
    exact ⟨h0, ne_of_none z hp, z⟩
  have e00 : Ex (hide W' H) (hide (W'.add p (.lst [])) (upd H p (.lst []))) := fun a o z => by
    obtain ⟨h0, h1, z⟩ := wk z
    rw [hide_out (W := W'.add p (.lst [])) (fun q => (List.mem_cons.mp q).elim h1 h0), upd_ne h1]
    exact z
  have e0 : EnvD K (hide (W'.add p (.lst [])) (upd H p (.lst []))) (ρ.set j .any) (σ.set j (some (.ref p))) := EnvD.set j True.intro (e.mono e00)
  refine h (W'.add p (.lst [])) (l.trans (W'.le_add _ _ ho)) _ _ _ ⟨x0.inv, upd_same⟩ e0 fun ds J H1 x1 ⟨G, Y, w, hG, hY⟩ ⟨hz, Iv, F, hF, h0, hs, hd⟩ => ?_
  refine for_it w (fun i σ' H' => ∃ vs ρ', Ex (hide (W'.opn p) H1) (hide (W'.opn p) H') ∧ W'.inv H' ∧ H' p = some (.lst vs) ∧ σ'[j]? = some (some (.ref p)) ∧ DqAll K (hide (W'.opn p) H') vs (fed F (ds.take i)) ∧ EnvD K (hide (W'.opn p) H') ρ' σ' ∧ Iv i ρ') ?_ ?_ ?_ ?_
  · exact ⟨[], _, Ex.refl _, x1.inv.1, x1.inv.2, by rw [List.getElem?_set_self (by omega)], .nil, e0.mono x1.ex, h0⟩
  · rintro i σ' H' _ ⟨vs, ρ', y, _⟩
    exact hG H' y
  · rintro i x σ' H2 H3 hi ⟨vs, ρ', y2, i2, hv, hjs, rv, e', n'⟩ hyx
    obtain ⟨d, hd⟩ : ∃ d, ds[i]? = some d := ⟨ds[i], by simp [hi]⟩
    have iv2 : (W'.add p (.lst vs)).inv H2 := ⟨i2, hv⟩
    have le2 : (W'.add p (.lst [])).B = (W'.add p (.lst vs)).B := rfl
    obtain ⟨y3, hr⟩ := hY i H2 x H3 hi y2 hyx (W'.add p (.lst vs)) (fun _ hb => hb) iv2
    obtain ⟨d', hd', rx⟩ := hr fun b hb => .inr hb
    rw [hd] at hd'
    cases hd'
    have lv : vs.length ≤ 50000 := by
      rw [rv.length]
      have := fed_len hF (ds.take i) 0
      rw [List.length_take] at this
      unfold fed
      omega
    refine hs i d ρ' hd n' (W'.add p (.lst vs)) x σ' H3 _ (e'.mono y3.ex) rx fun ρ2 σ2 e2 n2 hw => ?_
    have hj2 : σ2[j]? = some (some (.ref p)) := by
      have q := hw gs fun _ h => h
      have q2 := wipe_get σ2 j gs
      rw [q, wipe_get, if_neg hgj, if_neg hgj, hjs] at q2
      exact q2.symm
    refine n2 W' l p vs σ2 H3 _ y3.inv.1 ho y3.inv.2 lv hj2 e2 fun ρ4 app us σ4 H4 i4 x4 h4 hl4 r4 e4 j4 ⟨n4, n5⟩ => ?_
    refine ⟨vs ++ us, ρ4, y2.trans (y3.ex.trans x4), i4, h4, j4, ?_, e4, n5⟩
    rw [fed_take F hd, ← n4]
    exact (rv.mono (y3.ex.trans x4)).append r4
  · rintro σ' H2 ⟨vs, ρ', y2, i2, hv, hjs, rv, e', n'⟩
    rw [List.take_length] at rv
    have x2 : Xt W' H H2 := ⟨i2, e00.trans (x1.ex.trans (Ex.trans y2 (hide_sub (opn_le W' p) H2)))⟩
    have es : σ'.set j (some (.ref p)) = σ' := by
      refine List.ext_getElem? fun m => ?_
      by_cases hm : j = m
      · subst hm
        rw [List.getElem?_set, if_pos rfl]
        obtain ⟨q, _⟩ := List.getElem?_eq_some_iff.mp hjs
        rw [if_pos q, hjs]
      · rw [List.getElem?_set_ne hm]
    have e2 : EnvD K (hide W' H2) (ρ'.set j (.val (.list (fed F ds)))) σ' := by
      rw [← es]
      exact EnvD.set j (enval (.lst (by rw [hide_out ho]; exact hv) (rv.mono (hide_sub (opn_le W' p) H2)))) (e'.mono (hide_sub (opn_le W' p) H2))
    exact hd ρ' n' W' l σ' H2 D i2 e2 (fun ρ4 σ4 H4 x4 e4 n4 => k1 ρ4 σ4 H4 (x2.trans x4) e4 n4) fun d v H4 x4 r4 p4 => k2 d v H4 (x2.trans x4) r4 p4
end
end K61
end

section
set_option Elab.async false
set_option linter.all false
set_option maxRecDepth 100000
set_option maxHeartbeats 4000000
/-! Walks: zip of two lists, of a tuple and a text; enumerate of a list; range. -/
namespace K61
open PySem PySem.Spec PyProof.Rows L2
open Evl (Ex)
/-- the tuple at a beside the text z, both of n items: new pairs -/
def Ipt (K : PySem.W.Frag) (a : Addr) (z : Str) (n : Nat) : It :=
  ⟨fun i H => i < n ∧ ∃ xs, SqT K H a xs ∧ xs.length = n,
   fun i H v H' => ∃ T x c, v = .ref T ∧ H T = none ∧ H' = upd H T (.tup [x, .str ⟨#[c]⟩]) ∧ (∀ xs, SqT K H a xs → xs[i]? = some x) ∧ z.cps[i]? = some c,
   fun i H => i = n ∧ ∃ xs, SqT K H a xs ∧ xs.length = n⟩
section
variable {prog : Program} {w : World} {A : Around} {E : Value → Shared → Prop} {s : Shared}
theorem zip_next {z TI TO i1 i2 : Addr} {fp1 fp2 : List Addr} {n1 n2 i : Nat} {P1 P2 : Nat → Value → Prop} {S1 S2 : Nat → Heap → Prop} {a1 a2 : Value} {Q : Option Value → Shared → Prop} (S : ZipSep2 z TI TO i1 i2 fp1 fp2)
    (D1 : Draws prog w A.in1 i1 fp1 n1 P1 S1) (D2 : Draws prog w A.in1 i2 fp2 n2 P2 S2) (hz : IsZip s.heap z TI TO .none) (hTI : IsTupOf2 s.heap TI (.ref i1) (.ref i2)) (hTO : IsTupOf2 s.heap TO a1 a2) (g1 : S1 i s.heap) (g2 : S2 i s.heap) (l1 : i < n1) (l2 : i < n2)
    (hQ : ∀ x1 x2 h' tk, P1 i x1 → P2 i x2 → IsZip h' z TI TO (rawInt s.heap.objs.size) → IsTupOf2 h' TO x1 x2 → S1 (i + 1) h' → S2 (i + 1) h' → IsTupOf2 h' s.heap.objs.size x1 x2 →
      (∀ c o, c ≠ z → c ≠ TO → c ≠ i1 → c ≠ i2 → s.heap.get? c = some o → h'.get? c = some o) → Q (some (.ref s.heap.objs.size)) { s with heap := h', toks := tk }) : wpAny (model prog w) A (pyNext (.ref z)) Q E s := by
  have hT : s.TypeIs (.ref z) "zip" := ⟨_, hz, rfl⟩
  unfold pyNext
  exact wpAny_bind (wpAny_attempt (wpAny_callSpecial?_slot (name := Str.ofString "__next__") hT F.slot_zip_next
    (wpAny_call_entry F.slot_zip_next hT F.entry_zip_next (zipD2_next_item S D1 D2 hz hTI hTO g1 g2 l1 l2 fun x1 x2 h' tk p1 p2 q1 q2 q3 q4 q5 _ q6 => wpAny_pure (hQ x1 x2 h' tk p1 p2 q1 q2 q3 q4 q5 q6)) (F.args_zip_next_1 _))))
theorem zip_stop {z TI TO i1 i2 : Addr} {fp1 fp2 : List Addr} {n1 n2 i : Nat} {P1 P2 : Nat → Value → Prop} {S1 S2 : Nat → Heap → Prop} {a1 a2 : Value} {Q : Option Value → Shared → Prop} (S : ZipSep2 z TI TO i1 i2 fp1 fp2)
    (D1 : Draws prog w A.in1 i1 fp1 n1 P1 S1) (D2 : Draws prog w A.in1 i2 fp2 n2 P2 S2) (hz : IsZip s.heap z TI TO .none) (hTI : IsTupOf2 s.heap TI (.ref i1) (.ref i2)) (hTO : IsTupOf2 s.heap TO a1 a2) (g1 : S1 i s.heap) (g2 : S2 i s.heap) (l1 : i ≤ n1) (l2 : i ≤ n2) (he : i = n1 ∨ i = n2)
    (hQ : ∀ h' tk, (∀ c o, c ≠ z → c ≠ TO → c ≠ i1 → c ≠ i2 → s.heap.get? c = some o → h'.get? c = some o) → Q none { s with heap := h', toks := tk }) : wpAny (model prog w) A (pyNext (.ref z)) Q E s := by
  have hT : s.TypeIs (.ref z) "zip" := ⟨_, hz, rfl⟩
  unfold pyNext
  refine wpAny_bind (wpAny_attempt (wpAny_callSpecial?_slot (name := Str.ofString "__next__") hT F.slot_zip_next
    (wpAny_call_entry F.slot_zip_next hT F.entry_zip_next (zipD2_next_end S D1 D2 hz hTI hTO g1 g2 l1 l2 he fun h' tk e hk ex => ?_) (F.args_zip_next_1 _))))
  obtain ⟨o, ho, hc⟩ := ex
  refine wpAny_bind (wpAny_isInstance (T := "StopIteration") (b := true) ⟨o, ho, hc⟩ isSubtype_stop ?_)
  exact wpAny_pure (hQ _ _ hk)
end
theorem turn_pt {P : Program} {w : World} {K : PySem.W.Frag} {elts : List Expr} {kk : Nat} {tpos : Pos} {a z TI TO i1 i2 : Addr} {x : Str} {t : Tok} {n : Nat} (hn : x.cps.size = n) (S : ZipSep2 z TI TO i1 i2 [i1, a] [i2]) :
    Turn P w K (.Tuple elts kk tpos) (Ipt K a x n) [z, TI, TO, i1, i2] z (fun i h => IsZip h z TI TO .none ∧ IsTupOf2 h TI (.ref i1) (.ref i2) ∧ (∃ u v, IsTupOf2 h TO u v) ∧ h.IsTupleIter i1 a i ∧ h.IsStrIter i2 (strIterType x) x t i) where
  mem := by simp
  obj := fun i h st c hc => by
    obtain ⟨hz, hTI, ⟨u, v, hTO⟩, ⟨o1, e1, _, d1⟩, ⟨o2, e2, _, d2⟩⟩ := st
    have e' : c = z ∨ c = TI ∨ c = TO ∨ c = i1 ∨ c = i2 := by simpa using hc
    rcases e' with q | q | q | q | q <;> rw [q]
    · exact ⟨_, hz, fun v q => nomatch q⟩
    · exact ⟨_, hTI, fun v q => nomatch q⟩
    · exact ⟨_, hTO, fun v q => nomatch q⟩
    · exact ⟨o1, e1, fun v q => by rw [d1] at q; cases q⟩
    · exact ⟨o2, e2, fun v q => by rw [d2] at q; cases q⟩
  keep := fun i h h' st k => by
    obtain ⟨hz, hTI, ⟨u, v, hTO⟩, h1, ⟨o2, e2, r2⟩⟩ := st
    exact ⟨k z (by simp) _ hz, k TI (by simp) _ hTI, ⟨u, v, k TO (by simp) _ hTO⟩, h1.at fun o q => k i1 (by simp) o q, ⟨o2, k i2 (by simp) _ e2, r2⟩⟩
  item := by
    intro X hP hw hK hc i pins s σ H E I hf st hg
    subst hP hw hK
    obtain ⟨hz, hTI, ⟨u0, v0, hTO⟩, h1, h2⟩ := st
    obtain ⟨hi, xs, hq, hl⟩ := hg
    obtain ⟨its, rv, p, _⟩ := I.tuple hq
    have hzl : z < s.heap.objs.size := Heap.lt_size hz
    have hln : its.toArray.size = n := by rw [← hl, rv.length]; simp
    have hap : a ≠ i1 := fun e => by
      obtain ⟨o1, e1, c1, d1⟩ := h1
      obtain ⟨o2, e2, c2, _⟩ := p
      rw [e, e1] at e2
      cases e2
      rw [c1] at c2
      exact absurd (Value.type.inj c2) (by decide)
    refine zip_next S (Draws.tuple (A := X.A.in1) (I.ok.hd hc) i1 a hap its.toArray) (Draws.text (A := X.A.in1) (I.ok.hd hc) i2 x t) hz hTI hTO ⟨h1, p⟩ h2 (by omega) (by omega) fun u1 u2 h' tk p1 p2 z' TO' st1 st2 hT hk => ?_
    obtain ⟨c, tc, hcx, rfl⟩ := p2
    refine ⟨_, rfl, wpAny_letOwnedTupleGo_zip (s := { s with heap := h', toks := tk }) z' fun h'' z'' sb => ?_⟩
    have hT2 : h''.get? s.heap.objs.size = some { cls := .type "tuple", data := .seq #[u1, .str ⟨#[c]⟩ tc] } := (sb.2 _ (Nat.ne_of_gt hzl)).trans hT
    have hxs : ∃ v, xs[i]? = some v ∧ RelV v u1 := by
      obtain ⟨v, e⟩ : ∃ v, xs[i]? = some v := ⟨xs[i], by simp [hl, hi]⟩
      obtain ⟨u, e1, e2⟩ := rv.get e
      have e3 : its[i]? = some u1 := by simpa using p1
      rw [e1] at e3
      cases e3
      exact ⟨v, e, e2⟩
    obtain ⟨v, hv, rv1⟩ := hxs
    have new : ObjOk X.prog X.w (upd H s.heap.objs.size (.tup [v, .str ⟨#[c]⟩])) h'' s.heap.objs.size (.tup [v, .str ⟨#[c]⟩]) :=
      ⟨by show 2 ≤ sizeLine; decide, [u1, .str ⟨#[c]⟩ tc], .cons rv1 (.cons ⟨_, rfl⟩ .nil), ⟨_, hT2, rfl, _, rfl⟩⟩
    have kept : ∀ c o, c ∉ [z, TI, TO, i1, i2] → s.heap.get? c = some o → h''.get? c = some o := fun c o hb q => (sb.2 c (fun q' => hb (by simp [q']))).trans (hk c o (fun q' => hb (by simp [q'])) (fun q' => hb (by simp [q'])) (fun q' => hb (by simp [q'])) (fun q' => hb (by simp [q'])) q)
    have I1 : Inv X pins σ (upd H s.heap.objs.size (.tup [v, .str ⟨#[c]⟩])) { s with heap := h'', toks := tk } := I.turnedNew (ch := [z, TI, TO, i1, i2]) kept hf (Nat.le_refl _) new
    refine ⟨.ref s.heap.objs.size, _, I1, rfl, ⟨_, v, c, rfl, I.hok.fresh (Nat.le_refl _), rfl, fun l hl => by rw [I.tuple_inj hl hq]; exact hv, hcx⟩, ⟨z'', ?_, ⟨u1, Value.str ⟨#[c]⟩ tc, ?_⟩, ?_, ?_⟩, fun c hcm => ?_⟩
    · exact (sb.2 _ S.TIz).trans (hk _ _ S.TIz S.TITO S.TIi1 S.TIi2 hTI)
    · exact (sb.2 _ S.TOz).trans TO'
    · exact st1.1.at fun o q => (sb.2 _ S.zi1.symm).trans q
    · obtain ⟨o2, e2, r2⟩ := st2
      exact ⟨o2, (sb.2 _ S.zi2.symm).trans e2, r2⟩
    · have hlt : c < s.heap.objs.size := by
        have e' : c = z ∨ c = TI ∨ c = TO ∨ c = i1 ∨ c = i2 := by simpa using hcm
        rcases e' with q | q | q | q | q <;> rw [q]
        · exact hzl
        · exact Heap.lt_size hTI
        · exact Heap.lt_size hTO
        · obtain ⟨_, e1, _⟩ := h1; exact Heap.lt_size e1
        · obtain ⟨_, e2, _⟩ := h2; exact Heap.lt_size e2
      rw [upd_ne (Nat.ne_of_lt hlt)]
      exact (hf c hcm).1
  done := by
    intro X hP hw hK hc i pins s σ H E I hf st hg
    subst hP hw hK
    obtain ⟨hz, hTI, ⟨u0, v0, hTO⟩, h1, h2⟩ := st
    obtain ⟨hi, xs, hq, hl⟩ := hg
    obtain ⟨its, rv, p, _⟩ := I.tuple hq
    have hln : its.toArray.size = n := by rw [← hl, rv.length]; simp
    have hap : a ≠ i1 := fun e => by
      obtain ⟨o1, e1, c1, d1⟩ := h1
      obtain ⟨o2, e2, c2, _⟩ := p
      rw [e, e1] at e2
      cases e2
      rw [c1] at c2
      exact absurd (Value.type.inj c2) (by decide)
    refine zip_stop S (Draws.tuple (A := X.A.in1) (I.ok.hd hc) i1 a hap its.toArray) (Draws.text (A := X.A.in1) (I.ok.hd hc) i2 x t) hz hTI hTO ⟨h1, p⟩ h2 (by omega) (by omega) (.inl (by omega)) fun h' tk hk => ⟨rfl, ?_⟩
    exact I.turnedL (t' := tk) (ch := [z, TI, TO, i1, i2]) (fun c o hb q => hk c o (fun q' => hb (by simp [q'])) (fun q' => hb (by simp [q'])) (fun q' => hb (by simp [q'])) (fun q' => hb (by simp [q'])) q) hf
  self := fun A i s Q E st h => wpAny_pyIter_zip st.1 h
theorem sep_a {m j k : Nat} (h : j ≠ k) : m + j ≠ m + k := by omega
theorem sep_b {m j : Nat} (h : j ≠ 0) : m + j ≠ m := by omega
theorem sep_c {m a : Nat} (h : a < m) (j : Nat) : m + j ≠ a := by omega
theorem sep_new (m a : Nat) (la : a < m) : ZipSep2 (m + 4) (m + 2) (m + 3) m (m + 1) [m, a] [m + 1] := by
  have two : ∀ {k : Nat}, k ≠ 0 → m + k ∉ [m, a] := fun {k} hk h => by
    rcases List.mem_cons.mp h with q | q
    · exact sep_b hk q
    · exact sep_c la k (List.mem_singleton.mp q)
  have one : ∀ {k : Nat}, k ≠ 1 → m + k ∉ [m + 1] := fun {k} hk h => sep_a hk (List.mem_singleton.mp h)
  exact ⟨sep_a (by decide), sep_a (by decide), sep_a (by decide), sep_b (by decide), List.mem_cons_self, two (by decide), two (by decide), sep_a (by decide), List.mem_cons_self, one (by decide), one (by decide),
    fun h => sep_b (m := m) (j := 1) (by decide) (List.mem_singleton.mp h).symm, two (by decide)⟩
def iPt (K : PySem.W.Frag) (ta : TA) : TI := fun σ H R => ta σ H fun vs H1 => ∃ a xs z, vs = [.ref a, .str z] ∧ SqT K H1 a xs ∧ xs.length = z.cps.size ∧ R (Ipt K a z z.cps.size) H1
theorem pi_pt {X : Cx} {e e2 : Expr} {ta : TA} {p pos tpos : Pos} {elts : List Expr} {kk : Nat} (hg : Gl X "zip") (hm : X.mg "zip" = none) (ha : PA X [e, e2] ta)
    (hs : starEach [e, e2] X.env = (false, eval e X.env) :: starEach [e2] X.env := by rfl) (hpl : (backTo pos (starEach [e2] X.env)).any (·.1) = false := by rfl) :
    PI X (.Tuple elts kk tpos) (.Call (.Name "zip" p) [e, e2] [] pos) (iPt X.K ta) := by
  refine ⟨fun pins s σ H R I h => ?_⟩
  refine Call_ (ld_blt I hg hm PyProof.Rows.boot_zip (PyProof.Rows.callWith_type1 (thn (ha.run pos pins s σ H _ I h) fun us s1 ⟨vs, H1, I1, r1, q1⟩ => ?_) hs hpl))
  obtain ⟨a, xs, z, ex, hq, hl, q⟩ := q1
  subst ex
  cases r1 with
  | cons r rr =>
    cases rr with
    | cons r' rr =>
      cases rr
      cases r
      obtain ⟨t, rfl⟩ := r'
      obtain ⟨its, rv, p1, _⟩ := I1.tuple hq
      have la : a < s1.heap.objs.size := p1.lt
      refine zip_begins2 (begins_tuple a its.toArray) (begins_text z t) p1 True.intro fun h' hz hTI hTO g1 g2 hsz hk => wpAny_pyIter_zip hz ?_
      have I2 : Inv X pins σ H1 { s1 with heap := h' } := I1.kept (t' := s1.toks) hk
      have S := sep_new s1.heap.objs.size a la
      refine ⟨s1.heap.objs.size + 4, [s1.heap.objs.size + 4, s1.heap.objs.size + 2, s1.heap.objs.size + 3, s1.heap.objs.size, s1.heap.objs.size + 1], _, _, H1, rfl, I2, turn_pt rfl S, ⟨hz, hTI, ⟨_, _, hTO⟩, ⟨_, g1, rfl, rfl⟩, ⟨_, g2, rfl, rfl⟩⟩, fun c hcm => ?_, q⟩
      have e' : c = s1.heap.objs.size + 4 ∨ c = s1.heap.objs.size + 2 ∨ c = s1.heap.objs.size + 3 ∨ c = s1.heap.objs.size ∨ c = s1.heap.objs.size + 1 := by simpa using hcm
      have hle : s1.heap.objs.size ≤ c := by
        rcases e' with z | z | z | z | z <;> rw [z]
        · exact Nat.le_add_right _ _
        · exact Nat.le_add_right _ _
        · exact Nat.le_add_right _ _
        · exact Nat.le_refl _
        · exact Nat.le_add_right _ _
      exact I1.fpOk hle (I1.hok.fresh hle)
theorem walk_pt {K : PySem.W.Frag} {a : Addr} {z : Str} {xs : List V} {n : Nat} (hl : xs.length = n) : Walk (Ipt K a z n) n (fun H => SqT K H a xs) (YPair (fun i => xs[i]?) (fun i => z.cps[i]?.map fun c => .str ⟨#[c]⟩)) := by
  refine ⟨fun i H hi q => ⟨hi, xs, q, hl⟩, fun H q => ⟨rfl, xs, q, hl⟩, fun i H v H' hi q y => ?_⟩
  obtain ⟨T, x, c, h1, h2, h3, h4, h5⟩ := y
  exact ⟨T, x, .str ⟨#[c]⟩, h1, h2, h3, h4 xs q, by simp [h5]⟩

section
variable {K : PySem.W.Frag} {W : Wd} {ρ : List En} {ta tb te : TE} {P : List PyData → Prop}
/-- new pairs of what stood -/
theorem wk_pair {H1 : Hp} {n : Nat} {J : It} {G : Hp → Prop} {fx fy : Nat → Option V} {dx dy : Nat → Option PyData} {ds : List PyData} (hn : ds.length = n) (w : Walk J n G (YPair fx fy)) (hG : ∀ H, Ex (hide W H1) (hide W H) → G H)
    (hx : ∀ i v, i < n → fx i = some v → ∃ d, dx i = some d ∧ Dq K (hide W H1) v d) (hy : ∀ i v, i < n → fy i = some v → ∃ d, dy i = some d ∧ Dq K (hide W H1) v d) (hd : ∀ i x y, i < n → dx i = some x → dy i = some y → ds[i]? = some (.tuple [x, y])) : Wk K W J ds H1 := by
  refine ⟨G, _, by rw [hn]; exact w, hG, fun i H v H' hi ex y W' hb iv => ?_⟩
  rw [hn] at hi
  obtain ⟨T, x, y, rfl, hT, rfl, h1, h2⟩ := y
  refine ⟨Xt.new iv hT, fun hnew => ?_⟩
  obtain ⟨d1, e1, r1⟩ := hx i x hi h1
  obtain ⟨d2, e2, r2⟩ := hy i y hi h2
  exact ⟨_, hd i d1 d2 hi e1 e2, new_tup iv hT (.cons (dq_wide ex hnew r1) (.one (dq_wide ex hnew r2)))⟩
def pairsD (xs ys : List PyData) : List PyData := (xs.zip ys).map fun p => .tuple [p.1, p.2]
theorem pairs_len (xs ys : List PyData) : (pairsD xs ys).length = min xs.length ys.length := by simp [pairsD]
theorem pairs_at {xs ys : List PyData} {i : Nat} {x y : PyData} (h1 : xs[i]? = some x) (h2 : ys[i]? = some y) : (pairsD xs ys)[i]? = some (.tuple [x, y]) := by
  unfold pairsD
  rw [List.getElem?_map]
  have : (xs.zip ys)[i]? = some (x, y) := by rw [List.getElem?_zip_eq_some]; exact ⟨h1, h2⟩
  rw [this]
  rfl
theorem ei_zip (h : Ed K W ta ρ fun x => ∃ xs, x = .list xs ∧ Ed K W tb ρ fun y => ∃ ys, y = .list ys ∧ P (pairsD xs ys)) : Ei K W (iZip K (tCons ta (tCons tb tNil))) ρ P := fun W' l σ H R iv e q =>
  h W' l σ H _ iv e fun x vx H1 x1 r1 ⟨xs, hx, h1⟩ => h1 W' l σ H1 _ x1.inv (e.mono x1.ex) fun y vy H2 x2 r2 ⟨ys, hy, p⟩ => by
    subst hx hy
    obtain ⟨a, vs, rfl, a1, a2, a3⟩ := dq_lst (r1.mono x2.ex)
    obtain ⟨b, us, rfl, b1, b2, b3⟩ := dq_lst r2
    refine ⟨a, b, vs, us, rfl, SqL.of a1, SqL.of b1, q _ _ H2 (x1.trans x2) ?_ p⟩
    exact wk_pair (n := min vs.length us.length) (fx := fun i => vs[i]?) (fy := fun i => us[i]?) (dx := fun i => xs[i]?) (dy := fun i => ys[i]?) (by rw [pairs_len, a3.length, b3.length]) (walk_zip rfl) (fun H ex => ⟨SqL.of (hide_ex W' H _ _ (ex a _ a2)), SqL.of (hide_ex W' H _ _ (ex b _ b2))⟩)
      (fun i v hi hv => by
        obtain ⟨d, hd⟩ : ∃ d, xs[i]? = some d := ⟨xs[i]'(by rw [← a3.length]; omega), by simp⟩
        obtain ⟨v', e1, e2⟩ := a3.get hd
        rw [hv] at e1
        cases e1
        exact ⟨d, hd, e2⟩)
      (fun i v hi hv => by
        obtain ⟨d, hd⟩ : ∃ d, ys[i]? = some d := ⟨ys[i]'(by rw [← b3.length]; omega), by simp⟩
        obtain ⟨v', e1, e2⟩ := b3.get hd
        rw [hv] at e1
        cases e1
        exact ⟨d, hd, e2⟩) (fun i x y _ h1 h2 => pairs_at h1 h2)
theorem ei_pt (h : Ed K W ta ρ fun x => ∃ xs, x = .tuple xs ∧ Ed K W tb ρ fun y => ∃ z, y = .str z ∧ xs.length = z.cps.size ∧ P (pairsD xs (signs z))) : Ei K W (iPt K (tCons ta (tCons tb tNil))) ρ P := fun W' l σ H R iv e q =>
  h W' l σ H _ iv e fun x vx H1 x1 r1 ⟨xs, hx, h1⟩ => h1 W' l σ H1 _ x1.inv (e.mono x1.ex) fun y vy H2 x2 r2 ⟨z, hy, hl, p⟩ => by
    subst hx hy
    cases r2
    have r3 := r1.mono x2.ex
    cases r3 with
    | @tup a vs _ a1 a3 =>
      have hvl : vs.length = z.cps.size := by rw [a3.length]; exact hl
      refine ⟨a, vs, z, rfl, Evl.ex_t (hide_ex W' H2) a1, hvl, q _ _ H2 (x1.trans x2) ?_ p⟩
      exact wk_pair (n := z.cps.size) (fx := fun i => vs[i]?) (fy := fun i => z.cps[i]?.map fun c => .str ⟨#[c]⟩) (dx := fun i => xs[i]?) (dy := fun i => (signs z)[i]?) (by rw [pairs_len, hl]; simp [signs]) (walk_pt hvl) (fun H ex => Evl.ex_t (hide_ex W' H) (Evl.ex_t ex a1))
        (fun i v hi hv => by
          obtain ⟨d, hd⟩ : ∃ d, xs[i]? = some d := ⟨xs[i]'(by omega), by simp⟩
          obtain ⟨v', e1, e2⟩ := a3.get hd
          rw [hv] at e1
          cases e1
          exact ⟨d, hd, e2⟩)
        (fun i v hi hv => by
          obtain ⟨c, hc, rfl⟩ := Option.map_eq_some_iff.mp hv
          exact ⟨.str ⟨#[c]⟩, by simp [signs, ← hc], .str _⟩) (fun i x y _ h1 h2 => pairs_at h1 h2)
def enumD (xs : List PyData) : List PyData := xs.zipIdx.map fun p => .tuple [.int p.2, p.1]
theorem ei_enum (h : Ed K W ta ρ fun x => ∃ xs, x = .list xs ∧ P (enumD xs)) : Ei K W (iEnum K (tCons ta tNil)) ρ P := fun W' l σ H R iv e q =>
  h W' l σ H _ iv e fun x vx H1 x1 r1 ⟨xs, hx, p⟩ => by
    subst hx
    obtain ⟨a, vs, rfl, a1, a2, a3⟩ := dq_lst r1
    refine ⟨a, vs, rfl, SqL.of a1, q _ _ H1 x1 ?_ p⟩
    exact wk_pair (n := vs.length) (fx := fun i => some (.int (i : Nat))) (fy := fun i => vs[i]?) (dx := fun i => some (.int (i : Nat))) (dy := fun i => xs[i]?) (by simp [enumD, a3.length]) walk_enum (fun H ex => SqL.of (hide_ex W' H _ _ (ex a _ a2)))
      (fun i v hi hv => by cases hv; exact ⟨_, rfl, .int _⟩)
      (fun i v hi hv => by
        obtain ⟨d, hd⟩ : ∃ d, xs[i]? = some d := ⟨xs[i]'(by rw [← a3.length]; omega), by simp⟩
        obtain ⟨v', e1, e2⟩ := a3.get hd
        rw [hv] at e1
        cases e1
        exact ⟨d, hd, e2⟩)
      (fun i x y hi h1 h2 => by
        cases h1
        unfold enumD
        rw [List.getElem?_map, List.getElem?_zipIdx, h2]
        simp)
def rangeD (n : Nat) : List PyData := (List.range n).map fun (i : Nat) => .int (i : Int)
theorem ei_range (h : Ed K W ta ρ fun x => ∃ n : Nat, x = .int (n : Int) ∧ n ≤ 100000 ∧ P (rangeD n)) : Ei K W (iRng1 (tCons ta tNil)) ρ P := fun W' l σ H R iv e q =>
  h W' l σ H _ iv e fun x vx H1 x1 r1 ⟨n, hx, hz, p⟩ => by
    subst hx
    cases r1
    refine ⟨(n : Int), rfl, by omega, by omega, q _ _ H1 x1 ⟨(fun _ => True), YFn fun i => .int (0 + (i : Nat)), ?_, fun _ _ => True.intro, ?_⟩ p⟩
    · have e1 : (rangeD n).length = n := by simp [rangeD]
      rw [e1, Int.toNat_natCast]
      exact walk_range
    · rintro i H2 v H3 hi _ ⟨rfl, rfl⟩ W2 _ iv2
      have e1 : (rangeD n).length = n := by simp [rangeD]
      rw [e1] at hi
      refine ⟨Xt.refl iv2, fun _ => ⟨.int (i : Nat), by simp [rangeD, hi], ?_⟩⟩
      show Dq K _ (.int (0 + (i : Int))) (.int (i : Int))
      rw [Int.zero_add]
      exact .int _
end
end K61
end

section
set_option Elab.async false
set_option linter.all false
set_option maxRecDepth 100000
set_option maxHeartbeats 4000000
namespace K61
open PySem PySem.Spec PyProof.Rows L2
open Evl (Ex)
/-- a def as the head tells it: g the module's name, n its own -/
def DefOk (K : PySem.W.Frag) (g n : Str) (st : Stmt) : Prop := ∃ fd, FunD K n n (defArgs st) (defBody st) (defScope st) [] [] (He.ga K g) fd
/-- what the head tells of the module -/
structure Gs (K : PySem.W.Frag) (mg : Str → Option Value) : Prop where
  d_is_integer : DefOk K "is_integer" "is_integer" s_is_integer
  g_is_integer : mg "is_integer" = some (.ref (He.ga K "is_integer"))
  d_is_count : DefOk K "is_count" "is_count" s_is_count
  g_is_count : mg "is_count" = some (.ref (He.ga K "is_count"))
  d_is_row_looks : DefOk K "is_row_looks" "is_row" s_is_row_looks
  g_is_row_looks : mg "is_row_looks" = some (.ref (He.ga K "is_row_looks"))
  d_is_one_of : DefOk K "is_one_of" "is_one_of" s_is_one_of
  g_is_one_of : mg "is_one_of" = some (.ref (He.ga K "is_one_of"))
  d_is_rising : DefOk K "is_rising" "is_rising" s_is_rising
  g_is_rising : mg "is_rising" = some (.ref (He.ga K "is_rising"))
  d_is_key : DefOk K "is_key" "is_key" s_is_key
  g_is_key : mg "is_key" = some (.ref (He.ga K "is_key"))
  d_is_operation_value : DefOk K "is_operation_value" "is_operation_value" s_is_operation_value
  g_is_operation_value : mg "is_operation_value" = some (.ref (He.ga K "is_operation_value"))
  d_is_content_value : DefOk K "is_content_value" "is_content_value" s_is_content_value
  g_is_content_value : mg "is_content_value" = some (.ref (He.ga K "is_content_value"))
  d_is_row_value : DefOk K "is_row_value" "is_row_value" s_is_row_value
  g_is_row_value : mg "is_row_value" = some (.ref (He.ga K "is_row_value"))
  d_need_row : DefOk K "need_row" "need_row" s_need_row
  g_need_row : mg "need_row" = some (.ref (He.ga K "need_row"))
  d_text_of_content : DefOk K "text_of_content" "text_of_content" s_text_of_content
  g_text_of_content : mg "text_of_content" = some (.ref (He.ga K "text_of_content"))
  d_text_of_row : DefOk K "text_of_row" "text_of_row" s_text_of_row
  g_text_of_row : mg "text_of_row" = some (.ref (He.ga K "text_of_row"))
  d_number_in : DefOk K "number_in" "number_in" s_number_in
  g_number_in : mg "number_in" = some (.ref (He.ga K "number_in"))
  d_entry_in : DefOk K "entry_in" "entry_in" s_entry_in
  g_entry_in : mg "entry_in" = some (.ref (He.ga K "entry_in"))
  d_content_in : DefOk K "content_in" "content_in" s_content_in
  g_content_in : mg "content_in" = some (.ref (He.ga K "content_in"))
  d_row_in : DefOk K "row_in" "row_in" s_row_in
  g_row_in : mg "row_in" = some (.ref (He.ga K "row_in"))
  d_is_row_disks : DefOk K "is_row_disks" "is_row" s_is_row_disks
  g_is_row_disks : mg "is_row_disks" = some (.ref (He.ga K "is_row_disks"))
  d_row_text : DefOk K "row_text" "row_text" s_row_text
  g_row_text : mg "row_text" = some (.ref (He.ga K "row_text"))
  d_read_row : DefOk K "read_row" "read_row" s_read_row
  g_read_row : mg "read_row" = some (.ref (He.ga K "read_row"))
  d_law_dealt : DefOk K "_law_dealt" "_law_dealt" s_law_dealt
  g_law_dealt : mg "_law_dealt" = some (.ref (He.ga K "_law_dealt"))
  d_law_draw : DefOk K "_law_draw" "_law_draw" s_law_draw
  g_law_draw : mg "_law_draw" = some (.ref (He.ga K "_law_draw"))
  d_law_pick : DefOk K "_law_pick" "_law_pick" s_law_pick
  g_law_pick : mg "_law_pick" = some (.ref (He.ga K "_law_pick"))
  d_law_is_int : DefOk K "_law_is_int" "_law_is_int" s_law_is_int
  g_law_is_int : mg "_law_is_int" = some (.ref (He.ga K "_law_is_int"))
  d_law_is_from : DefOk K "_law_is_from" "_law_is_from" s_law_is_from
  g_law_is_from : mg "_law_is_from" = some (.ref (He.ga K "_law_is_from"))
  d_law_is_key : DefOk K "_law_is_key" "_law_is_key" s_law_is_key
  g_law_is_key : mg "_law_is_key" = some (.ref (He.ga K "_law_is_key"))
  d_law_is_operation : DefOk K "_law_is_operation" "_law_is_operation" s_law_is_operation
  g_law_is_operation : mg "_law_is_operation" = some (.ref (He.ga K "_law_is_operation"))
  d_law_is_content : DefOk K "_law_is_content" "_law_is_content" s_law_is_content
  g_law_is_content : mg "_law_is_content" = some (.ref (He.ga K "_law_is_content"))
  d_law_is_row : DefOk K "_law_is_row" "_law_is_row" s_law_is_row
  g_law_is_row : mg "_law_is_row" = some (.ref (He.ga K "_law_is_row"))
  d_law_content_text : DefOk K "_law_content_text" "_law_content_text" s_law_content_text
  g_law_content_text : mg "_law_content_text" = some (.ref (He.ga K "_law_content_text"))
  d_law_row_text : DefOk K "_law_row_text" "_law_row_text" s_law_row_text
  g_law_row_text : mg "_law_row_text" = some (.ref (He.ga K "_law_row_text"))
  d_law_number : DefOk K "_law_number" "_law_number" s_law_number
  g_law_number : mg "_law_number" = some (.ref (He.ga K "_law_number"))
  d_law_read_content : DefOk K "_law_read_content" "_law_read_content" s_law_read_content
  g_law_read_content : mg "_law_read_content" = some (.ref (He.ga K "_law_read_content"))
  d_law_read_row : DefOk K "_law_read_row" "_law_read_row" s_law_read_row
  g_law_read_row : mg "_law_read_row" = some (.ref (He.ga K "_law_read_row"))
  d_law_key : DefOk K "_law_key" "_law_key" s_law_key
  g_law_key : mg "_law_key" = some (.ref (He.ga K "_law_key"))
  d_law_worth : DefOk K "_law_worth" "_law_worth" s_law_worth
  g_law_worth : mg "_law_worth" = some (.ref (He.ga K "_law_worth"))
  d_law_content : DefOk K "_law_content" "_law_content" s_law_content
  g_law_content : mg "_law_content" = some (.ref (He.ga K "_law_content"))
  d_law_operation : DefOk K "_law_operation" "_law_operation" s_law_operation
  g_law_operation : mg "_law_operation" = some (.ref (He.ga K "_law_operation"))
  d_law_row : DefOk K "_law_row" "_law_row" s_law_row
  g_law_row : mg "_law_row" = some (.ref (He.ga K "_law_row"))
  d_law_odd : DefOk K "_law_odd" "_law_odd" s_law_odd
  g_law_odd : mg "_law_odd" = some (.ref (He.ga K "_law_odd"))
  d_law_tried : DefOk K "_law_tried" "_law_tried" s_law_tried
  g_law_tried : mg "_law_tried" = some (.ref (He.ga K "_law_tried"))
  d_law_changed : DefOk K "_law_changed" "_law_changed" s_law_changed
  g_law_changed : mg "_law_changed" = some (.ref (He.ga K "_law_changed"))
  d_law : DefOk K "law" "law" s_law
  g_law : mg "law" = some (.ref (He.ga K "law"))
  g_BadText : mg "BadText" = some (.ref (He.ga K "BadText"))
  g_BadRow : mg "BadRow" = some (.ref (He.ga K "BadRow"))
  g_ENDS : mg "ENDS" = some (.ref (He.ga K "ENDS"))
  g_NUMBERED : mg "NUMBERED" = some (.ref (He.ga K "NUMBERED"))
  v_LETTERS : ∃ t, mg "LETTERS" = some (.str "abcdefghijklmnopqrstuvwxyz" t)
  v_FIGURES : ∃ t, mg "FIGURES" = some (.str "0123456789" t)
  v_MOST_KEY : ∃ t, mg "MOST_KEY" = some (.int 9 t)
  v_MOST_ENTRIES : ∃ t, mg "MOST_ENTRIES" = some (.int 3 t)
  v_MOST_FIGURES : ∃ t, mg "MOST_FIGURES" = some (.int 4000 t)
  t_ENDS : ∀ H : Hp, SqT K H (He.ga K "ENDS") [.str "kept", .str "dropped"]
  t_NUMBERED : ∀ H : Hp, SqT K H (He.ga K "NUMBERED") [.str "page", .str "unpage"]
  k_BadText : PySem.W.keepIn K (.ref (He.ga K "BadText")) = true
  x_BadText : (He.Fa.exm "BadText" "BadText" true).ok K = true
  n_BadText : (He.Fa.noat "BadText" "thing").ok K = true
  i_BadText : ∃ fd, FunD K "__init__" "BadText.__init__" (defArgs s_bt_init) (defBody s_bt_init) (defScope s_bt_init) [] [] (He.ma K (He.ga K "BadText") "__init__") fd
  more : more K = true
  f_isinstance : mg "isinstance" = none
  f_int : mg "int" = none
  f_str : mg "str" = none
  f_tuple : mg "tuple" = none
  f_bool : mg "bool" = none
  f_len : mg "len" = none
  f_all : mg "all" = none
  f_zip : mg "zip" = none
  f_list : mg "list" = none
  f_sorted : mg "sorted" = none
  f_set : mg "set" = none
  f_max : mg "max" = none
  f_range : mg "range" = none
  f_enumerate : mg "enumerate" = none
  f_repr : mg "repr" = none
theorem gs_of {P : Params} {w : World} {h h' : Heap} {K : PySem.W.Frag} {mg : Str → Option Value} (X : K.In h) (G : h.Ns mainGlobals mg) (c : He.SaysX fas fns [] [] K61.more w h' K) : Gs K mg where
  d_is_integer := c.t.d.def_ 0 (d := d_is_integer) rfl
  g_is_integer := He.glo_ok X G (c.t.d.fact 0 (f := .glo "is_integer") rfl)
  d_is_count := c.t.d.def_ 1 (d := d_is_count) rfl
  g_is_count := He.glo_ok X G (c.t.d.fact 1 (f := .glo "is_count") rfl)
  d_is_row_looks := c.t.d.def_ 2 (d := d_is_row_looks) rfl
  g_is_row_looks := He.glo_ok X G (c.t.d.fact 2 (f := .glo "is_row_looks") rfl)
  d_is_one_of := c.t.d.def_ 3 (d := d_is_one_of) rfl
  g_is_one_of := He.glo_ok X G (c.t.d.fact 3 (f := .glo "is_one_of") rfl)
  d_is_rising := c.t.d.def_ 4 (d := d_is_rising) rfl
  g_is_rising := He.glo_ok X G (c.t.d.fact 4 (f := .glo "is_rising") rfl)
  d_is_key := c.t.d.def_ 5 (d := d_is_key) rfl
  g_is_key := He.glo_ok X G (c.t.d.fact 5 (f := .glo "is_key") rfl)
  d_is_operation_value := c.t.d.def_ 6 (d := d_is_operation_value) rfl
  g_is_operation_value := He.glo_ok X G (c.t.d.fact 6 (f := .glo "is_operation_value") rfl)
  d_is_content_value := c.t.d.def_ 7 (d := d_is_content_value) rfl
  g_is_content_value := He.glo_ok X G (c.t.d.fact 7 (f := .glo "is_content_value") rfl)
  d_is_row_value := c.t.d.def_ 8 (d := d_is_row_value) rfl
  g_is_row_value := He.glo_ok X G (c.t.d.fact 8 (f := .glo "is_row_value") rfl)
  d_need_row := c.t.d.def_ 9 (d := d_need_row) rfl
  g_need_row := He.glo_ok X G (c.t.d.fact 9 (f := .glo "need_row") rfl)
  d_text_of_content := c.t.d.def_ 10 (d := d_text_of_content) rfl
  g_text_of_content := He.glo_ok X G (c.t.d.fact 10 (f := .glo "text_of_content") rfl)
  d_text_of_row := c.t.d.def_ 11 (d := d_text_of_row) rfl
  g_text_of_row := He.glo_ok X G (c.t.d.fact 11 (f := .glo "text_of_row") rfl)
  d_number_in := c.t.d.def_ 12 (d := d_number_in) rfl
  g_number_in := He.glo_ok X G (c.t.d.fact 12 (f := .glo "number_in") rfl)
  d_entry_in := c.t.d.def_ 13 (d := d_entry_in) rfl
  g_entry_in := He.glo_ok X G (c.t.d.fact 13 (f := .glo "entry_in") rfl)
  d_content_in := c.t.d.def_ 14 (d := d_content_in) rfl
  g_content_in := He.glo_ok X G (c.t.d.fact 14 (f := .glo "content_in") rfl)
  d_row_in := c.t.d.def_ 15 (d := d_row_in) rfl
  g_row_in := He.glo_ok X G (c.t.d.fact 15 (f := .glo "row_in") rfl)
  d_is_row_disks := c.t.d.def_ 16 (d := d_is_row_disks) rfl
  g_is_row_disks := He.glo_ok X G (c.t.d.fact 16 (f := .glo "is_row_disks") rfl)
  d_row_text := c.t.d.def_ 17 (d := d_row_text) rfl
  g_row_text := He.glo_ok X G (c.t.d.fact 17 (f := .glo "row_text") rfl)
  d_read_row := c.t.d.def_ 18 (d := d_read_row) rfl
  g_read_row := He.glo_ok X G (c.t.d.fact 18 (f := .glo "read_row") rfl)
  d_law_dealt := c.t.d.def_ 19 (d := d_law_dealt) rfl
  g_law_dealt := He.glo_ok X G (c.t.d.fact 19 (f := .glo "_law_dealt") rfl)
  d_law_draw := c.t.d.def_ 20 (d := d_law_draw) rfl
  g_law_draw := He.glo_ok X G (c.t.d.fact 20 (f := .glo "_law_draw") rfl)
  d_law_pick := c.t.d.def_ 21 (d := d_law_pick) rfl
  g_law_pick := He.glo_ok X G (c.t.d.fact 21 (f := .glo "_law_pick") rfl)
  d_law_is_int := c.t.d.def_ 22 (d := d_law_is_int) rfl
  g_law_is_int := He.glo_ok X G (c.t.d.fact 22 (f := .glo "_law_is_int") rfl)
  d_law_is_from := c.t.d.def_ 23 (d := d_law_is_from) rfl
  g_law_is_from := He.glo_ok X G (c.t.d.fact 23 (f := .glo "_law_is_from") rfl)
  d_law_is_key := c.t.d.def_ 24 (d := d_law_is_key) rfl
  g_law_is_key := He.glo_ok X G (c.t.d.fact 24 (f := .glo "_law_is_key") rfl)
  d_law_is_operation := c.t.d.def_ 25 (d := d_law_is_operation) rfl
  g_law_is_operation := He.glo_ok X G (c.t.d.fact 25 (f := .glo "_law_is_operation") rfl)
  d_law_is_content := c.t.d.def_ 26 (d := d_law_is_content) rfl
  g_law_is_content := He.glo_ok X G (c.t.d.fact 26 (f := .glo "_law_is_content") rfl)
  d_law_is_row := c.t.d.def_ 27 (d := d_law_is_row) rfl
  g_law_is_row := He.glo_ok X G (c.t.d.fact 27 (f := .glo "_law_is_row") rfl)
  d_law_content_text := c.t.d.def_ 28 (d := d_law_content_text) rfl
  g_law_content_text := He.glo_ok X G (c.t.d.fact 28 (f := .glo "_law_content_text") rfl)
  d_law_row_text := c.t.d.def_ 29 (d := d_law_row_text) rfl
  g_law_row_text := He.glo_ok X G (c.t.d.fact 29 (f := .glo "_law_row_text") rfl)
  d_law_number := c.t.d.def_ 30 (d := d_law_number) rfl
  g_law_number := He.glo_ok X G (c.t.d.fact 30 (f := .glo "_law_number") rfl)
  d_law_read_content := c.t.d.def_ 31 (d := d_law_read_content) rfl
  g_law_read_content := He.glo_ok X G (c.t.d.fact 31 (f := .glo "_law_read_content") rfl)
  d_law_read_row := c.t.d.def_ 32 (d := d_law_read_row) rfl
  g_law_read_row := He.glo_ok X G (c.t.d.fact 32 (f := .glo "_law_read_row") rfl)
  d_law_key := c.t.d.def_ 33 (d := d_law_key) rfl
  g_law_key := He.glo_ok X G (c.t.d.fact 33 (f := .glo "_law_key") rfl)
  d_law_worth := c.t.d.def_ 34 (d := d_law_worth) rfl
  g_law_worth := He.glo_ok X G (c.t.d.fact 34 (f := .glo "_law_worth") rfl)
  d_law_content := c.t.d.def_ 35 (d := d_law_content) rfl
  g_law_content := He.glo_ok X G (c.t.d.fact 35 (f := .glo "_law_content") rfl)
  d_law_operation := c.t.d.def_ 36 (d := d_law_operation) rfl
  g_law_operation := He.glo_ok X G (c.t.d.fact 36 (f := .glo "_law_operation") rfl)
  d_law_row := c.t.d.def_ 37 (d := d_law_row) rfl
  g_law_row := He.glo_ok X G (c.t.d.fact 37 (f := .glo "_law_row") rfl)
  d_law_odd := c.t.d.def_ 38 (d := d_law_odd) rfl
  g_law_odd := He.glo_ok X G (c.t.d.fact 38 (f := .glo "_law_odd") rfl)
  d_law_tried := c.t.d.def_ 39 (d := d_law_tried) rfl
  g_law_tried := He.glo_ok X G (c.t.d.fact 39 (f := .glo "_law_tried") rfl)
  d_law_changed := c.t.d.def_ 40 (d := d_law_changed) rfl
  g_law_changed := He.glo_ok X G (c.t.d.fact 40 (f := .glo "_law_changed") rfl)
  d_law := c.t.d.def_ 41 (d := d_law) rfl
  g_law := He.glo_ok X G (c.t.d.fact 41 (f := .glo "law") rfl)
  g_BadText := He.glo_ok X G (c.t.d.fact 42 (f := .glo "BadText") rfl)
  g_BadRow := He.glo_ok X G (c.t.d.fact 43 (f := .glo "BadRow") rfl)
  g_ENDS := He.glo_ok X G (c.t.d.fact 44 (f := .glo "ENDS") rfl)
  g_NUMBERED := He.glo_ok X G (c.t.d.fact 45 (f := .glo "NUMBERED") rfl)
  v_LETTERS := He.str_ok X G (c.t.d.fact 46 (f := .str "LETTERS" "abcdefghijklmnopqrstuvwxyz") rfl)
  v_FIGURES := He.str_ok X G (c.t.d.fact 47 (f := .str "FIGURES" "0123456789") rfl)
  v_MOST_KEY := He.int_ok X G (c.t.d.fact 48 (f := .int "MOST_KEY" 9) rfl)
  v_MOST_ENTRIES := He.int_ok X G (c.t.d.fact 49 (f := .int "MOST_ENTRIES" 3) rfl)
  v_MOST_FIGURES := He.int_ok X G (c.t.d.fact 50 (f := .int "MOST_FIGURES" 4000) rfl)
  t_ENDS := fun H => He.tupB_ok (He.ba (He.ba c.more).1).1 H
  t_NUMBERED := fun H => He.tupB_ok (He.ba (He.ba c.more).1).2 H
  k_BadText := c.t.d.fact 51 (f := .keep "BadText") rfl
  x_BadText := c.t.d.fact 52 (f := .exm "BadText" "BadText" true) rfl
  n_BadText := c.t.d.fact 53 (f := .noat "BadText" "thing") rfl
  i_BadText := c.t.d.def_ 42 (d := d_bt_init) rfl
  more := c.more
  f_isinstance := He.free_ok X G (c.t.d.fact 54 (f := .free "isinstance") rfl)
  f_int := He.free_ok X G (c.t.d.fact 55 (f := .free "int") rfl)
  f_str := He.free_ok X G (c.t.d.fact 56 (f := .free "str") rfl)
  f_tuple := He.free_ok X G (c.t.d.fact 57 (f := .free "tuple") rfl)
  f_bool := He.free_ok X G (c.t.d.fact 58 (f := .free "bool") rfl)
  f_len := He.free_ok X G (c.t.d.fact 59 (f := .free "len") rfl)
  f_all := He.free_ok X G (c.t.d.fact 60 (f := .free "all") rfl)
  f_zip := He.free_ok X G (c.t.d.fact 61 (f := .free "zip") rfl)
  f_list := He.free_ok X G (c.t.d.fact 62 (f := .free "list") rfl)
  f_sorted := He.free_ok X G (c.t.d.fact 63 (f := .free "sorted") rfl)
  f_set := He.free_ok X G (c.t.d.fact 64 (f := .free "set") rfl)
  f_max := He.free_ok X G (c.t.d.fact 65 (f := .free "max") rfl)
  f_range := He.free_ok X G (c.t.d.fact 66 (f := .free "range") rfl)
  f_enumerate := He.free_ok X G (c.t.d.fact 67 (f := .free "enumerate") rfl)
  f_repr := He.free_ok X G (c.t.d.fact 68 (f := .free "repr") rfl)

/-- what a pure def's reading does, by data -/
def SemD (K : PySem.W.Frag) (C : List PyData → PyData → Prop) (t : TS) (n m : Nat) : Prop := ∀ ds d, C ds d → ds.length = n ∧ Sd K W0 t (ds.map En.val ++ List.replicate (m - n) .any) (fun _ => d = .none) (fun r => r = d)
/-- a def keeps a promise by data -/
structure OkF (P : Program) (w : World) (K : PySem.W.Frag) (mg : Str → Option Value) (base : Heap) (g : Str) (k : Nat) (ps : List Str) (sp : Sp) : Prop where
  go : ∃ fd, FnOk P w K mg base CX0 k (He.ga K g) fd ps sp ∧ Binds K fd ps []
  kp : PySem.W.keepIn K (.ref (He.ga K g)) = true
  gl : mg g = some (.ref (He.ga K g))
section
variable {P : Program} {w : World} {K : PySem.W.Frag} {mg : Str → Option Value} {base : Heap}
theorem DqAll.vals {W : Wd} {H : Hp} : ∀ {vs : List V} {ds : List PyData}, DqAll K (hide W H) vs ds → EnvD K (hide W H) (ds.map En.val) (vs.map some)
  | _, _, .nil => .nil
  | _, _, .cons h r => .cons ⟨_, rfl, h⟩ (DqAll.vals r)
theorem any_env {h : Hp} : ∀ n : Nat, EnvD K h (List.replicate n En.any) (List.replicate n none)
  | 0 => .nil
  | n + 1 => .cons True.intro (any_env n)
theorem EnvD.app {h : Hp} : ∀ {ρ ρ2 : List En} {σ σ2 : L2.St}, EnvD K h ρ σ → EnvD K h ρ2 σ2 → EnvD K h (ρ ++ ρ2) (σ ++ σ2)
  | _, _, _, _, .nil, b => b
  | _, _, _, _, .cons r t, b => .cons r (EnvD.app t b)
theorem DefOk.okD {g n : Str} {st : Stmt} {N ps : List Str} {k : Nat} {C : List PyData → PyData → Prop} {t : TS} (F0 : DefOk K g n st) (gl : mg g = some (.ref (He.ga K g))) (S : FnScope N ps (defScope st)) (h : SemD K C t ps.length N.length)
    (hb : ∀ (kV doc pm : Value) (an : Option Addr) (cdv ct : Value) (us : List Value), us.length = ps.length → bindArgs (PySem.W.fnOf n n (defArgs st) (defBody st) (defScope st) .none kV doc pm an cdv ct) ⟨us, []⟩ = pure (ps.zip us))
    (der : ∀ (cdv : Value) (A : Around) (outer : List Env) (s : Shared) (H : Hp) (E : XK), Room k (A.deeper (envOfC n (defScope st) s.heap.objs.size (He.ga K g) cdv)) → PSs (cxOf CX0 P w K mg base N n (defScope st) (He.ga K g) cdv A outer s H E).nox (defBody st) t) :
    OkF P w K mg base g (k + 1) ps (spR K C) := by
  obtain ⟨fd, F⟩ := F0
  refine ⟨⟨fd, F.ok S (fun vs H Q E ⟨W, ds, d, iv, r, c, q⟩ => by rw [r.length]; exact (h ds d c).1) (fun cdv A outer s H vs Q E hr hsp => ⟨t, PSs.nox (der cdv A outer s H E hr), ?_⟩), F.bindsN hb⟩, F.kp, gl⟩
  obtain ⟨W, ds, d, iv, r, c, q⟩ := hsp
  have hs := h ds d c
  have e : L2.start N vs = vs.map some ++ List.replicate (N.length - ps.length) none := by
    unfold L2.start
    rw [r.length, hs.1]
  rw [e]
  refine hs.2 W (W0.le W) _ H _ iv (EnvD.app (DqAll.vals r) (any_env _)) (fun ρ' σ' H' x _ hd => ?_) (fun d' v H' x r' hd => ?_)
  · subst hd
    exact q .non H' x .non
  · subst hd
    exact q v H' x r'
end
section
variable {X : Cx}
theorem pe_cf {x : Str} {k : Nat} {ps : List Str} {sp : Sp} {e : Expr} {es : List Expr} {p pos : Pos} {t : TA} (G : OkF X.prog X.w X.K X.mg X.base x k ps sp) (hr : Room k X.A) (hg : Gl X x) (ha : PA X (e :: es) t) (hd : (x == ("__debug__" : Str)) = false := by decide)
    (he : starEach (e :: es) X.env = (false, eval e X.env) :: starEach es X.env := by rfl) (hpl : (backTo pos (starEach es X.env)).any (·.1) = false := by rfl) :
    PE X (.Call (.Name x p) (e :: es) [] pos) (tCall sp [] E0 t) := by
  obtain ⟨fd, F, b⟩ := G.go
  exact pe_call F hr hg G.gl G.kp b .nil L2.pass0 ha hd he hpl
theorem pe_gS {x : Str} {s : Str} {pos : Pos} (hg : Gl X x) (h : ∃ t, X.mg x = some (.str s t)) (hd : (x == ("__debug__" : Str)) = false := by decide) : PE X (.Name x pos) (tC (.str s)) := by
  obtain ⟨t, e⟩ := h
  exact pe_glob hg e ⟨t, rfl⟩ hd
theorem pe_gI {x : Str} {s : Int} {pos : Pos} (hg : Gl X x) (h : ∃ t, X.mg x = some (.int s t)) (hd : (x == ("__debug__" : Str)) = false := by decide) : PE X (.Name x pos) (tC (.int s)) := by
  obtain ⟨t, e⟩ := h
  exact pe_glob hg e ⟨t, rfl⟩ hd
theorem pe_gR {x : Str} {a : Addr} {pos : Pos} (hg : Gl X x) (h : X.mg x = some (.ref a)) (hd : (x == ("__debug__" : Str)) = false := by decide) : PE X (.Name x pos) (tC (.ref a)) := pe_glob hg h rfl hd
def qNeg : V → Hp → VK → Prop := rU fun i => .int (-i)
theorem uq_neg : UnR X (unaryOp .USub) qNeg := un_neg
theorem boot_all : bootBuiltins "all" = some (.builtin "all") := by decide +kernel
end
end K61
end

section
set_option Elab.async false
set_option linter.all false
set_option maxRecDepth 100000
set_option maxHeartbeats 4000000
/-! plain: rows as data, what the defs compute -/
namespace K61
open PySem PySem.Spec
def isI : PyData → Bool
  | .int _ => true
  | _ => false
def isC : PyData → Bool
  | .int i => decide (0 ≤ i)
  | _ => false
def isN : PyData → Bool
  | .none => true
  | _ => false
def LET : Str := "abcdefghijklmnopqrstuvwxyz"
def FIG : Str := "0123456789"
def keyS (s : Str) : Bool := (decide (1 ≤ s.length) && decide (s.length ≤ 9)) && s.cps.toList.all fun c => decide (c ∈ LET.cps.toList)
def keyD : PyData → Bool
  | .str s => keyS s
  | _ => false
def manyOf (h : Str) : Option Nat := if h = "read" then some 2 else if h = "set" then some 4 else if h = "add" then some 3 else none
def opD : PyData → Bool
  | .tuple (.str h :: k :: rest) => keyD k && (decide (manyOf h = some (rest.length + 2)) && rest.all isI)
  | _ => false
def pairD : PyData → Bool
  | .tuple [_, _] => true
  | _ => false
def entD (low : Str) : PyData → Bool
  | .tuple [.str k, .int w] => keyS k && (decide (w ≠ 0) && !ltS k low)
  | _ => false
def keyOf : PyData → Str
  | .tuple (.str k :: _) => k
  | _ => Str.empty
def risS : List Str → Bool
  | a :: b :: r => ltS a b && risS (b :: r)
  | _ => true
def contD : PyData → Bool
  | .none => true
  | .tuple [.str low, .tuple es, f] => (decide (low = Str.empty) || keyS low) && (decide (es.length ≤ 3) && (es.all (entD low) && (risS (es.map keyOf) && (isN f || isC f))))
  | _ => false
def rStart : List PyData → Bool
  | [] => true
  | _ => false
def rPage : List PyData → Bool
  | [b, c, d] => isC b && (contD c && contD d)
  | _ => false
def rUn : List PyData → Bool
  | [b, c] => isC b && contD c
  | _ => false
def rEnd : List PyData → Bool
  | [.str w] => decide (w = "kept" ∨ w = "dropped")
  | _ => false
def rOp : List PyData → Bool
  | [b, o] => isC b && opD o
  | _ => false
def rComp : List PyData → Bool
  | [b, o] => isC b && isC o
  | _ => false
def rowD : PyData → Bool
  | .tuple (.str h :: a :: rest) => isC a &&
     (if h = "start" then rStart rest else if h = "page" then rPage rest else if h = "unpage" then rUn rest else if h = "end" then rEnd rest else if h = "op" then rOp rest else if h = "comp" then rComp rest else false)
  | _ => false
/-! texts -/
def numS (i : Int) : Str := Str.ofString (toString i)
def txt : PyData → Str
  | .int i => numS i
  | .str s => s
  | _ => Str.empty
def entT : PyData → Str
  | .tuple [.str k, .int w] => k ++ "=" ++ numS w
  | _ => Str.empty
def folT : PyData → Str
  | .int i => numS i
  | _ => "-"
def contT : PyData → Str
  | .tuple [.str low, .tuple es, f] => low ++ "/" ++ Str.join "," (es.map entT) ++ "/" ++ folT f
  | _ => "-"
def itemsD : PyData → List PyData
  | .tuple xs => xs
  | _ => []
def rowW : List PyData → List Str
  | .str h :: a :: b :: rest =>
    if h = "page" ∨ h = "unpage" then h :: txt a :: txt b :: rest.map contT
    else if h = "op" then (match rest with | [o] => h :: txt a :: txt b :: (itemsD o).map txt | _ => [])
    else h :: txt a :: txt b :: rest.map txt
  | xs => xs.map txt
def rowT (d : PyData) : Str := Str.join " " (rowW (itemsD d))
/-! readers -/
def digB (l : List Nat) : Bool := l.all fun c => decide (48 ≤ c ∧ c ≤ 57)
/-- the figures of a word -/
def figs : List Nat → List Nat
  | 45 :: r => r
  | l => l
def numV : List Nat → Int
  | 45 :: r => -((NumText.digitsVal r : Nat) : Int)
  | l => ((NumText.digitsVal l : Nat) : Int)
def num1 (s : Str) : PyData := if figs s.cps.toList ≠ [] ∧ digB (figs s.cps.toList) = true then .int (numV s.cps.toList) else .none
def canon : List Nat → Bool
  | [48] => true
  | l => decide ((figs l).head? ≠ some 48)
def num2 (s : Str) : PyData := if canon s.cps.toList = true then num1 s else .none
def ent1 (s : Str) : PyData := .tuple [.str (Txt.partition s "=").1, num1 (Txt.partition s "=").2.2]
def cont1 (s : Str) : PyData :=
  if s = "-" then .none
  else match Txt.split s "/" with
    | [a, b, c] => .tuple [.str a, .tuple (if b = Str.empty then [] else (Txt.split b ",").map ent1), if c = "-" then .none else num1 c]
    | _ => .str s
def rowP (s : Str) : PyData :=
  let ps := Txt.split s " "
  let h := ps.headD Str.empty
  if (h = "page" ∨ h = "unpage") ∧ 3 < ps.length then .tuple (.str h :: (((ps.map num1).drop 1).take 2 ++ (ps.drop 3).map cont1))
  else if h = "op" ∧ 4 < ps.length then .tuple (.str h :: (((ps.map num1).drop 1).take 2 ++ [.tuple (.str (ps.getD 3 Str.empty) :: .str (ps.getD 4 Str.empty) :: (ps.map num1).drop 5)]))
  else if h = "end" ∧ ps.length = 3 then .tuple [.str h, num1 (ps.getD 1 Str.empty), .str (ps.getD 2 Str.empty)]
  else if h = "start" ∨ h = "comp" then .tuple (.str h :: (ps.map num1).drop 1)
  else .none
def read1 (s : Str) : PyData := if rowD (rowP s) = true ∧ rowT (rowP s) = s then rowP s else .none
/-! the law's reader -/
def ent2 (s : Str) : PyData := match Txt.split s "=" with
  | [a, b] => .tuple [.str a, num2 b]
  | ps => .tuple [.str (ps.headD Str.empty), .none]
def fol2 (s : Str) : PyData := if s = "-" then .none else match num2 s with
  | .int i => .int i
  | _ => .int (-1)
def cont2 (s : Str) : PyData :=
  if s = "-" then .none
  else match Txt.split s "/" with
    | [a, b, c] => .tuple [.str a, .tuple (if b = Str.empty then [] else (Txt.split b ",").map ent2), fol2 c]
    | _ => .int 0
/-- what the law's loop puts at place i for the word s -/
def put2 (ps : List Str) (i : Nat) (s : Str) : List PyData :=
  let h := ps.headD Str.empty
  if (h = "page" ∨ h = "unpage") ∧ 2 < i then [cont2 s]
  else if h = "op" ∧ i = 3 then [.tuple (.str s :: (((ps.drop 4).take 1).map .str ++ (ps.drop 5).map num2))]
  else if h ≠ "op" ∨ i < 3 then [if 0 < i ∧ ¬(h = "end" ∧ i = 2) then num2 s else .str s]
  else []
def rowQ (s : Str) : PyData := .tuple (((Txt.split s " ").zipIdx.map fun p => put2 (Txt.split s " ") p.2 p.1).flatten)
def read2 (s : Str) : PyData := if rowD (rowQ s) = true ∧ rowT (rowQ s) = s then rowQ s else .none

/-! ### small data -/
def fine : Nat → PyData → Bool
  | _, .none => true
  | _, .int i => decide (i.natAbs.log2 < 1920)
  | _, .str s => decide (s.length ≤ 600) && s.cps.all (· < 0x110000)
  | k + 1, .tuple xs => decide (xs.length ≤ 600) && xs.all (fine k)
  | _, _ => false
theorem fine_up : ∀ (k : Nat) (d : PyData), fine k d = true → fine (k + 1) d = true
  | _, .none, _ => rfl
  | 0, .int i, h => h
  | _ + 1, .int i, h => h
  | 0, .str i, h => h
  | _ + 1, .str i, h => h
  | k + 1, .tuple xs, h => by
    have h2 : (decide (xs.length ≤ 600) && xs.all (fine k)) = true := h
    obtain ⟨a, b⟩ := Bool.and_eq_true_iff.mp h2
    show (decide (xs.length ≤ 600) && xs.all (fine (k + 1))) = true
    exact Bool.and_eq_true_iff.mpr ⟨a, List.all_eq_true.mpr fun x hx => fine_up k x (List.all_eq_true.mp b x hx)⟩
  | 0, .tuple xs, h => by cases h
  | 0, .bool _, h => by cases h
  | _ + 1, .bool _, h => by cases h
  | 0, .list _, h => by cases h
  | _ + 1, .list _, h => by cases h
  | 0, .dict _, h => by cases h
  | _ + 1, .dict _, h => by cases h
theorem fine_lay : ∀ (k : Nat) (d : PyData), fine k d = true → d.canLay0 = true ∧ d.depth ≤ k
  | _, .none, _ => ⟨rfl, Nat.zero_le _⟩
  | 0, .int i, h => ⟨rfl, Nat.le_refl _⟩
  | _ + 1, .int i, h => ⟨rfl, Nat.zero_le _⟩
  | 0, .str s, h => ⟨(Bool.and_eq_true_iff.mp (show (decide (s.length ≤ 600) && s.cps.all (· < 0x110000)) = true from h)).2, Nat.le_refl _⟩
  | _ + 1, .str s, h => ⟨(Bool.and_eq_true_iff.mp (show (decide (s.length ≤ 600) && s.cps.all (· < 0x110000)) = true from h)).2, Nat.zero_le _⟩
  | k + 1, .tuple xs, h => by
    obtain ⟨a, b⟩ := Bool.and_eq_true_iff.mp (show (decide (xs.length ≤ 600) && xs.all (fine k)) = true from h)
    have key : ∀ l : List PyData, (∀ x ∈ l, fine k x = true) → PyData.canLayAll0 l = true ∧ PyData.depthAll l ≤ k := by
      intro l
      induction l with
      | nil => exact fun _ => ⟨rfl, Nat.zero_le _⟩
      | cons x r ih =>
        intro hl
        obtain ⟨h1, h2⟩ := fine_lay k x (hl x List.mem_cons_self)
        obtain ⟨h3, h4⟩ := ih fun y hy => hl y (List.mem_cons_of_mem _ hy)
        refine ⟨Bool.and_eq_true_iff.mpr ⟨h1, h3⟩, ?_⟩
        show max x.depth (PyData.depthAll r) ≤ k
        exact Nat.max_le.mpr ⟨h2, h4⟩
    obtain ⟨h1, h2⟩ := key xs (List.all_eq_true.mp b)
    refine ⟨h1, ?_⟩
    show PyData.depthAll xs + 1 ≤ k + 1
    exact Nat.succ_le_succ h2
  | 0, .tuple xs, h => by cases h
  | 0, .bool _, h => by cases h
  | _ + 1, .bool _, h => by cases h
  | 0, .list _, h => by cases h
  | _ + 1, .list _, h => by cases h
  | 0, .dict _, h => by cases h
  | _ + 1, .dict _, h => by cases h
theorem fine_shaped {k : Nat} {d : PyData} (h : fine k d = true) (hk : k ≤ 64 := by decide) : SeqAt.shaped d = true := by
  obtain ⟨a, b⟩ := fine_lay k d h
  exact Bool.and_eq_true_iff.mpr ⟨a, decide_eq_true (Nat.le_trans b hk)⟩
theorem fine_tup {k : Nat} {xs : List PyData} (h : fine (k + 1) (.tuple xs) = true) : xs.length ≤ 600 ∧ ∀ x ∈ xs, fine k x = true := by
  obtain ⟨a, b⟩ := Bool.and_eq_true_iff.mp (show (decide (xs.length ≤ 600) && xs.all (fine k)) = true from h)
  exact ⟨of_decide_eq_true a, List.all_eq_true.mp b⟩
theorem tup_fine {k : Nat} {xs : List PyData} (h1 : xs.length ≤ 600) (h2 : ∀ x ∈ xs, fine k x = true) : fine (k + 1) (.tuple xs) = true :=
  Bool.and_eq_true_iff.mpr ⟨decide_eq_true h1, List.all_eq_true.mpr h2⟩
theorem fine_str {k : Nat} {s : Str} (h : fine k (.str s) = true) : s.length ≤ 600 ∧ s.cps.all (· < 0x110000) = true := by
  cases k <;>
  · obtain ⟨a, b⟩ := Bool.and_eq_true_iff.mp (show (decide (s.length ≤ 600) && s.cps.all (· < 0x110000)) = true from h)
    exact ⟨of_decide_eq_true a, b⟩
theorem str_fine {k : Nat} {s : Str} (h1 : s.length ≤ 600) (h2 : s.cps.all (· < 0x110000) = true) : fine k (.str s) = true := by
  cases k <;> exact Bool.and_eq_true_iff.mpr ⟨decide_eq_true h1, h2⟩
theorem fine_int {k : Nat} {i : Int} (h : fine k (.int i) = true) : i.natAbs.log2 < 1920 := by
  cases k <;> exact of_decide_eq_true h
theorem int_fine {k : Nat} {i : Int} (h : i.natAbs.log2 < 1920) : fine k (.int i) = true := by
  cases k <;> exact decide_eq_true h
end K61
end

section
set_option Elab.async false
set_option linter.all false
set_option maxRecDepth 100000
set_option maxHeartbeats 4000000
/-! what each pure def promises, by data -/
namespace K61
open PySem PySem.Spec L2
def isTupN (n : Int) : PyData → Bool
  | .tuple xs => decide ((xs.length : Int) = n)
  | _ => false
def strIn (ws : List Str) : PyData → Bool
  | .str s => ws.contains s
  | _ => false
abbrev Ct := List PyData → PyData → Prop
def okS (s : Str) : Prop := s.length ≤ 560 ∧ s.cps.all (· < 0x110000) = true
def C_is_integer : Ct := fun ds d => ∃ x, ds = [x] ∧ d = .bool (isI x)
def C_is_count : Ct := fun ds d => ∃ x, ds = [x] ∧ d = .bool (isC x)
def C_is_row_looks : Ct := fun ds d => ∃ x n, ds = [x, .int n] ∧ fine 5 x = true ∧ d = .bool (isTupN n x)
def C_is_one_of : Ct := fun ds d => ∃ x ws, ds = [x, .tuple (ws.map PyData.str)] ∧ d = .bool (strIn ws x)
def C_is_rising : Ct := fun ds d => ∃ l : List Str, ds = [.list (l.map .str)] ∧ l.length ≤ 600 ∧ d = .bool (risS l)
def C_is_key : Ct := fun ds d => ∃ x, ds = [x] ∧ fine 5 x = true ∧ d = .bool (keyD x)
def C_is_operation_value : Ct := fun ds d => ∃ x, ds = [x] ∧ fine 5 x = true ∧ d = .bool (opD x)
def C_is_content_value : Ct := fun ds d => ∃ x, ds = [x] ∧ fine 5 x = true ∧ d = .bool (contD x)
def C_is_row_value : Ct := fun ds d => ∃ x, ds = [x] ∧ fine 5 x = true ∧ d = .bool (rowD x)
def C_text_of_content : Ct := fun ds d => ∃ x, ds = [x] ∧ fine 5 x = true ∧ contD x = true ∧ d = .str (contT x)
def C_text_of_row : Ct := fun ds d => ∃ x, ds = [x] ∧ fine 5 x = true ∧ rowD x = true ∧ d = .str (rowT x)
def C_number_in : Ct := fun ds d => ∃ s, ds = [.str s] ∧ okS s ∧ d = num1 s
def C_entry_in : Ct := fun ds d => ∃ s, ds = [.str s] ∧ okS s ∧ d = ent1 s
def C_content_in : Ct := fun ds d => ∃ s, ds = [.str s] ∧ okS s ∧ d = cont1 s
def C_row_in : Ct := fun ds d => ∃ s, ds = [.str s] ∧ okS s ∧ d = read1 s
def C_law_is_int : Ct := fun ds d => ∃ x, ds = [x] ∧ d = .bool (isI x)
def C_law_is_from : Ct := fun ds d => ∃ x i, ds = [x, .int i] ∧ d = .bool (match x with | .int j => decide (i ≤ j) | _ => false)
def C_law_is_key : Ct := fun ds d => ∃ x, ds = [x] ∧ fine 5 x = true ∧ d = .bool (keyD x)
def C_law_is_operation : Ct := fun ds d => ∃ x, ds = [x] ∧ fine 5 x = true ∧ d = .bool (opD x)
def C_law_is_content : Ct := fun ds d => ∃ x, ds = [x] ∧ fine 5 x = true ∧ d = .bool (contD x)
def C_law_is_row : Ct := fun ds d => ∃ x, ds = [x] ∧ fine 5 x = true ∧ d = .bool (rowD x)
def C_law_content_text : Ct := fun ds d => ∃ x, ds = [x] ∧ fine 5 x = true ∧ contD x = true ∧ d = .str (contT x)
def C_law_row_text : Ct := fun ds d => ∃ x, ds = [x] ∧ fine 5 x = true ∧ rowD x = true ∧ d = .str (rowT x)
def C_law_number : Ct := fun ds d => ∃ s, ds = [.str s] ∧ okS s ∧ d = num2 s
def C_law_read_content : Ct := fun ds d => ∃ s, ds = [.str s] ∧ okS s ∧ d = cont2 s
def C_law_read_row : Ct := fun ds d => ∃ s, ds = [.str s] ∧ okS s ∧ d = read2 s
def C_is_row_disks : Ct := fun ds d => ∃ x, ds = [x] ∧ fine 5 x = true ∧ d = .bool (rowD x)
def C_need_row : Ct := fun ds d => ∃ x, ds = [x] ∧ fine 5 x = true ∧ rowD x = true ∧ d = .none
def C_row_text : Ct := fun ds d => ∃ x, ds = [x] ∧ fine 5 x = true ∧ rowD x = true ∧ d = .str (rowT x)
abbrev sp_is_row_disks (K : PySem.W.Frag) : Sp := spR K C_is_row_disks
abbrev sp_need_row (K : PySem.W.Frag) : Sp := spR K C_need_row
abbrev sp_row_text (K : PySem.W.Frag) : Sp := spR K C_row_text
abbrev sp_is_integer (K : PySem.W.Frag) : Sp := spR K C_is_integer
abbrev sp_is_count (K : PySem.W.Frag) : Sp := spR K C_is_count
abbrev sp_is_row_looks (K : PySem.W.Frag) : Sp := spR K C_is_row_looks
abbrev sp_is_one_of (K : PySem.W.Frag) : Sp := spR K C_is_one_of
abbrev sp_is_rising (K : PySem.W.Frag) : Sp := spR K C_is_rising
abbrev sp_is_key (K : PySem.W.Frag) : Sp := spR K C_is_key
abbrev sp_is_operation_value (K : PySem.W.Frag) : Sp := spR K C_is_operation_value
abbrev sp_is_content_value (K : PySem.W.Frag) : Sp := spR K C_is_content_value
abbrev sp_is_row_value (K : PySem.W.Frag) : Sp := spR K C_is_row_value
abbrev sp_text_of_content (K : PySem.W.Frag) : Sp := spR K C_text_of_content
abbrev sp_text_of_row (K : PySem.W.Frag) : Sp := spR K C_text_of_row
abbrev sp_number_in (K : PySem.W.Frag) : Sp := spR K C_number_in
abbrev sp_entry_in (K : PySem.W.Frag) : Sp := spR K C_entry_in
abbrev sp_content_in (K : PySem.W.Frag) : Sp := spR K C_content_in
abbrev sp_row_in (K : PySem.W.Frag) : Sp := spR K C_row_in
abbrev sp_law_is_int (K : PySem.W.Frag) : Sp := spR K C_law_is_int
abbrev sp_law_is_from (K : PySem.W.Frag) : Sp := spR K C_law_is_from
abbrev sp_law_is_key (K : PySem.W.Frag) : Sp := spR K C_law_is_key
abbrev sp_law_is_operation (K : PySem.W.Frag) : Sp := spR K C_law_is_operation
abbrev sp_law_is_content (K : PySem.W.Frag) : Sp := spR K C_law_is_content
abbrev sp_law_is_row (K : PySem.W.Frag) : Sp := spR K C_law_is_row
abbrev sp_law_content_text (K : PySem.W.Frag) : Sp := spR K C_law_content_text
abbrev sp_law_row_text (K : PySem.W.Frag) : Sp := spR K C_law_row_text
abbrev sp_law_number (K : PySem.W.Frag) : Sp := spR K C_law_number
abbrev sp_law_read_content (K : PySem.W.Frag) : Sp := spR K C_law_read_content
abbrev sp_law_read_row (K : PySem.W.Frag) : Sp := spR K C_law_read_row
end K61
end

section
set_option Elab.async false
set_option linter.all false
set_option maxRecDepth 100000
set_option maxHeartbeats 4000000
/-! sorted(set(texts)): the set of texts with its table, the loop that fills it, the sort -/
namespace K61
open PySem PySem.Spec PyProof.Rows L2
open Evl (Ex)
abbrev kS (P : Program) (w : World) : PySem.KeyKind P w Str := PySem.strKind P w
def sOf (e : Int × Value) : Str := match e.2 with
  | .str x _ => x
  | _ => Str.empty
def GoodT (w : World) (e : Int × Value) : Prop := ∃ x tk, e.2 = Value.str x tk ∧ e.1 = hashStr w x
/-- the set of the texts xs at a -/
def SetT (w : World) (h : Heap) (a : Addr) (xs : List Str) : Prop :=
  ∃ o es ep t, h.get? a = some o ∧ o.ExactSet ∧ o.data = .set es ep t ∧ (∀ e ∈ es.toList, GoodT w e) ∧ (es.toList.map sOf).Perm xs ∧ xs.Nodup ∧ t.fits es.size = true ∧ Ris t.place.toList ∧ (w.params.followText "set-order" = true ∨ t.led = true)
def addT (xs : List Str) (x : Str) : List Str := if x ∈ xs then xs else xs ++ [x]
def uniqT (xs : List Str) : List Str := xs.foldl addT []
theorem addT_len (xs : List Str) (x : Str) : (addT xs x).length ≤ xs.length + 1 := by
  unfold addT; split <;> simp
theorem addT_nodup {xs : List Str} (h : xs.Nodup) (x : Str) : (addT xs x).Nodup := by
  unfold addT
  split
  · exact h
  · rename_i hx
    exact List.nodup_append.mpr ⟨h, List.pairwise_singleton _ x, fun a ha b hb e => hx (by rw [← List.mem_singleton.mp hb, ← e]; exact ha)⟩
theorem addT_mem {xs : List Str} {x y : Str} : y ∈ addT xs x ↔ y ∈ xs ∨ y = x := by
  unfold addT
  split
  · rename_i hx
    exact ⟨.inl, fun h => h.elim id fun e => e ▸ hx⟩
  · rw [List.mem_append, List.mem_singleton]
section
variable {P : Program} {w : World} {h h' : Heap} {a : Addr} {xs : List Str}
theorem SetT.at (R : SetT w h a xs) (k : ∀ o, h.get? a = some o → h'.get? a = some o) : SetT w h' a xs := by
  obtain ⟨o, es, ep, t, ho, r⟩ := R
  exact ⟨o, es, ep, t, k o ho, r⟩
theorem goodT_elems {l : List (Int × Value)} (g : ∀ e ∈ l, GoodT w e) : ElemsOf (kS P w) l := fun e he => by
  obtain ⟨k, tk, h1, h2⟩ := g e he
  exact ⟨⟨k, by rw [h1]; exact strKind_is P w k tk, h2⟩, by rw [h1] <;> rfl⟩
theorem goodT_is {e : Int × Value} (g : GoodT w e) (k : Str) : (kS P w).is k e.2 = true ↔ sOf e = k := by
  obtain ⟨k0, tk, h1, _⟩ := g
  unfold sOf
  rw [h1]
  constructor
  · intro q
    obtain ⟨u, hu⟩ := Value.isStrOf_shape (show Value.isStrOf k (Value.str k0 tk) = true from q)
    injection hu
  · intro q
    have q : k0 = k := q
    subst q
    exact strKind_is P w _ tk
theorem setT_fresh {h : Heap} (ho : h.get? a = some { cls := .type "set", dict := none, data := .set #[] 0 (.fresh 0 0 (!w.params.followText "set-order")) }) : SetT w h a [] :=
  ⟨_, #[], 0, _, ho, ⟨rfl, rfl, rfl⟩, rfl, (fun e he => by simp at he), .refl _, List.nodup_nil, rfl, List.Pairwise.nil, by
    show _ ∨ (!w.params.followText "set-order") = true
    cases w.params.followText "set-order"
    · exact .inr rfl
    · exact .inl rfl⟩
end
section
variable {P : Program} {w : World} {A : Around} {E : Value → Shared → Prop} {s : Shared} {a : Addr} {xs : List Str}
theorem gave_way (b : Bool) (s₁ : Shared) (Q' : Unit → Shared → Prop) (q : Q' () s₁) : wpAny (model P w) A (match b with | true => rule "set.scan.the-table-gave-way" | false => pure ()) Q' E s₁ := by
  cases b with
  | true => exact wpAny_rule q
  | false => exact wpAny_pure q
theorem setT_lay {g : Bool → Sem Unit} (hg : ∀ (b : Bool) (s₁ : Shared) (Q' : Unit → Shared → Prop), Q' () s₁ → wpAny (model P w) A (g b) Q' E s₁)
    {o : Obj} {es es1 : Array (Int × Value)} {ep : Nat} {t t2 : SetTable} (ho : s.heap.get? a = some o) (hex : o.ExactSet) (hd : o.data = .set es ep t)
    (g1 : ∀ e ∈ es1.toList, GoodT w e) (pm1 : (es1.toList.map sOf).Perm xs) (nd : xs.Nodup) (hb : xs.length < scanBound) (hf2 : t2.fits es1.size = true) (hr : Ris t2.place.toList) (hl : w.params.followText "set-order" = true ∨ t2.led = true) {wasDummy : Bool} {R : Option Bool → Shared → Prop}
    (hR : ∀ h', Heap.SameBut a s.heap h' → SetT w h' a xs → R (some true) { s with heap := h' }) :
    wpAny (model P w) A (do
        storeSet a es1 t2
        if (!wasDummy && t2.tooFull) = true then do
            g (relayAll t2 es1 (SetTable.grown es1.size)).2.2
            storeSet a (relayAll t2 es1 (SetTable.grown es1.size)).1 (relayAll t2 es1 (SetTable.grown es1.size)).2.1
            pure (some true)
          else pure (some true)) R E s := by
  have len1 : es1.size = xs.length := by rw [← Array.length_toList, ← pm1.length_eq, List.length_map]
  refine wpAny_bind (wpAny_storeSet_of ho hd ?_ (fits_of_scanBound (by rw [len1]; exact hb)))
  have o1 := L2.store_at (es' := es1) (t' := t2) ho hd
  have b1 := Heap.SameBut.update s.heap a (Obj.putSet es1 t2)
  split
  · have rp := relayAll_perm t2 es1 (SetTable.grown es1.size)
    have rf := relayAll_fits t2 es1 (SetTable.grown es1.size)
    have rr := relayAll_ris t2 es1 (SetTable.grown es1.size)
    have rl := relayAll_led t2 es1 (SetTable.grown es1.size)
    generalize relayAll t2 es1 (SetTable.grown es1.size) = Z at rp rf rr rl ⊢
    obtain ⟨es2, t3, gave⟩ := Z
    dsimp only at rp rf rr rl ⊢
    have len2 : es2.size = xs.length := by rw [← len1, ← Array.length_toList, rp.length_eq, Array.length_toList]
    refine wpAny_bind (hg _ _ _ ?_)
    refine wpAny_bind (wpAny_storeSet_of o1 rfl ?_ (fits_of_scanBound (by rw [len2]; exact hb)))
    exact wpAny_pure (hR _ (b1.trans (Heap.SameBut.update _ a _)) ⟨_, es2, _, t3, L2.store_at (es' := es2) (t' := t3) o1 rfl, hex, rfl, fun e he => g1 e (rp.mem_iff.mp he), (rp.map sOf).trans pm1, nd, rf, rr, hl.imp id fun z => by rw [rl]; exact z⟩)
  · exact wpAny_pure (hR _ b1 ⟨_, es1, _, t2, o1, hex, rfl, g1, pm1, nd, hf2, hr, hl⟩)
theorem setT_add {x : Str} {tk : Tok} {Q : Bool → Shared → Prop} (R : SetT w s.heap a xs) (room : xs.length + 1 < scanBound)
    (hQ : ∀ b h', Heap.SameBut a s.heap h' → SetT w h' a (addT xs x) → Q b { s with heap := h' }) :
    wpAny (model P w) A (setAddHashed a (.str x tk) ((kS P w).hash x)) Q E s := by
  obtain ⟨o, es, ep, t, ho, hex, hd, g, pm, nd, hf, hr, hl⟩ := R
  have hkey : (kS P w).is x (.str x tk) = true := strKind_is P w x tk
  have hsc : (Value.str x tk).scannable = true := rfl
  have hel : ElemsOf (kS P w) es.toList := goodT_elems g
  have len0 : es.size = xs.length := by rw [← Array.length_toList, ← pm.length_eq, List.length_map]
  have hb : es.size < scanBound := by rw [len0]; omega
  unfold setAddHashed setAddHashedIn
  refine wpAny_holding (wpAny_bind (wpAny_setState_of ho hd hf ?_))
  dsimp only
  rw [byScan_of hsc hb hel]
  simp only [↓reduceIte]
  unfold setAddByScan
  refine wpAny_bind ?_
  refine wpAny_bind (wpAny_rule ?_)
  refine wpAny_bind (wpAny_setScan_of hkey ho hd hf hel ?_)
  cases hfi : List.findIdx? (fun e => (kS P w).is x e.2) es.toList with
  | some j =>
    dsimp only
    obtain ⟨hj, pj, _⟩ := List.findIdx?_eq_some_iff_getElem.mp hfi
    have hm : x ∈ xs := pm.mem_iff.mp (List.mem_map.mpr ⟨es.toList[j], List.getElem_mem hj, (goodT_is (P := P) (g _ (List.getElem_mem hj)) x).1 pj⟩)
    have e : addT xs x = xs := if_pos hm
    exact wpAny_pure (wpAny_pure (hQ _ s.heap (Heap.SameBut.refl a s.heap) (by rw [e]; exact ⟨o, es, ep, t, ho, hex, hd, g, pm, nd, hf, hr, hl⟩)))
  | none =>
    dsimp only
    have hm : x ∉ xs := fun z => by
      obtain ⟨e, he, q⟩ := List.mem_map.mp (pm.mem_iff.mpr z)
      have c := List.findIdx?_eq_none_iff.mp hfi e he
      rw [(goodT_is (P := P) (g e he) x).2 q] at c
      cases c
    have hN := addT_nodup nd x
    have e : addT xs x = xs ++ [x] := if_neg hm
    have np := layNew_perm t es ((kS P w).hash x) (.str x tk)
    have nf := layNew_fits t es ((kS P w).hash x) (.str x tk)
    have nr := layNew_ris t es ((kS P w).hash x) (.str x tk) hr
    have nl := layNew_led t es ((kS P w).hash x) (.str x tk)
    generalize layNew t es ((kS P w).hash x) (.str x tk) = Z at np nf nr nl ⊢
    obtain ⟨es1, t1, wasDummy, gave⟩ := Z
    dsimp only at np nf nr nl ⊢
    rw [Array.toList_push] at np
    have g1 : ∀ e ∈ es1.toList, GoodT w e := fun e he => by
      rcases List.mem_append.mp (np.mem_iff.mp he) with z | z
      · exact g e z
      · rw [List.mem_singleton.mp z]; exact ⟨x, tk, rfl, rfl⟩
    have pm1 : (es1.toList.map sOf).Perm (addT xs x) := by
      refine (np.map sOf).trans ?_
      rw [List.map_append, e]
      exact pm.append_right _
    have hb1 : (addT xs x).length < scanBound := Nat.lt_of_le_of_lt (addT_len xs x) room
    have hled : w.params.followText "set-order" = true ∨ t1.led = true := hl.imp id fun z => by rw [nl]; exact z
    refine wpAny_bind (gave_way _ _ _ ?_)
    split
    · refine wpAny_bind ?_
      rw [hashByValue_scannable 8 hsc]
      refine wpAny_pure ?_
      refine setT_lay (fun b s₁ Q' q => gave_way b s₁ Q' q) ho hex hd g1 pm1 hN hb1 ?_ ?_ ?_ ?_
      · first | (split <;> first | exact nf | exact SetTable.fits_plain_off nf) | exact nf
      · first | (split <;> exact nr) | exact nr
      · first | (split <;> exact hled) | exact hled
      · intro h' sb r; dsimp only; exact wpAny_pure (hQ _ h' sb r)
    · refine wpAny_bind (wpAny_pure ?_)
      simp only [↓reduceIte]
      refine setT_lay (fun b s₁ Q' q => gave_way b s₁ Q' q) ho hex hd g1 pm1 hN hb1 nf nr hled ?_
      intro h' sb r; dsimp only; exact wpAny_pure (hQ _ h' sb r)
/-- set.update's loop over texts -/
theorem setT_loop {I : Addr} {fp wr : List Addr} {G : Array GenState → Array GenState → Prop} {n : Nat} {Pv : Nat → Value → Prop} {St : Nat → Shared → Prop} {R : Result → Shared → Prop} (W : WalksS P w A.in1 I fp wr G n Pv St) (S : Addr) (hSf : S ∉ fp)
    (hn : n = xs.length) (hfew : n < 64) (hval : ∀ i v, Pv i v → ∃ x t, xs[i]? = some x ∧ v = .str x t) : ∀ (k i : Nat) (s : Shared), n - i = k → i ≤ n → St i s → SetT w s.heap S ((xs.take i).foldl addT []) → ((xs.take i).foldl addT []).length ≤ i →
      (∀ s', Moved (S :: wr) G s s' → SetT w s'.heap S (uniqT xs) → R (.ok (.ret .none)) s') → codeAny (model P w) A (.builtin "set.update.loop" ⟨[.ref S, .ref I], []⟩) R s := by
  have hSw : S ∉ wr := fun h => hSf (W.sub _ h)
  have up : ∀ b ∈ wr, b ∈ S :: wr := fun b hb => List.mem_cons_of_mem _ hb
  intro k
  induction k with
  | zero =>
    intro i s hk hi hst hS _ hR
    have hin : i = n := by omega
    refine codeAny_builtin F.entry_set_update_loop ?_
    rw [Around.under_plainId F.plain_set_update_loop _]
    show wpAny _ A.in1 (pyNext (.ref I) >>= _) _ _ s
    rw [hin] at hst
    refine wpAny_bind (W.done s _ _ hst fun s' hm => ?_)
    show wpAny _ A.in1 (ret Value.none) _ _ s'
    rw [hin, hn, List.take_length] at hS
    exact wpAny_pure (hR s' (hm.mono up) (hS.at fun o e => hm.heap S o hSw e))
  | succ k ih =>
    intro i s hk hi hst hS hL hR
    have hlt : i < n := by omega
    refine codeAny_builtin F.entry_set_update_loop ?_
    rw [Around.under_plainId F.plain_set_update_loop _]
    show wpAny _ A.in1 (pyNext (.ref I) >>= _) _ _ s
    refine wpAny_bind (W.item i s _ _ hlt hst fun v s' hP hst' hm => ?_)
    obtain ⟨x, t, hx, rfl⟩ := hval i v hP
    have e : (xs.take (i + 1)).foldl addT [] = addT ((xs.take i).foldl addT []) x := by
      rw [List.take_succ, hx, List.foldl_append] <;> rfl
    show wpAny _ A.in1 (holding [Value.str x t] (setAdd S (.str x t)) >>= _) _ _ s'
    refine wpAny_bind (wpAny_holding ?_)
    unfold setAdd
    refine wpAny_holding ?_
    refine wpAny_bind ((kS P w).pyHash (k := x) (strKind_is _ _ _ _) ?_)
    refine setT_add (s := { s' with toks := s'.toks + 1 }) (hS.at fun o e => hm.heap S o hSw e) (by unfold scanBound; omega) fun b h' hsb hS2 => ?_
    refine wpAny_pure ⟨plainId_quiet F.plain_set_update_loop _, ih (i + 1) _ (by omega) hlt (W.frame _ s' _ _ hst' (Nat.le_succ _) fun c hc o q => ?_) (by rw [e]; exact hS2) (by rw [e]; exact Nat.le_trans (addT_len _ _) (Nat.succ_le_succ hL)) fun s'' hm'' hS'' => ?_⟩
    · rw [hsb.2 c (fun h : c = S => hSf (by rw [← h]; exact hc))]; exact q
    · refine hR s'' (Moved.trans W.gtrans ((hm.mono up).then_heap (Nat.le_succ _) fun c o hc q => ?_) hm'') hS''
      rw [hsb.2 c (fun h : c = S => hc (by rw [h]; exact List.mem_cons_self))]; exact q
end
section
variable {P : Program} {w : World} {A : Around} {E : Value → Shared → Prop} {s : Shared}
abbrev emptyT (w : World) : Obj := { cls := .type "set", dict := none, data := .set #[] 0 (.fresh 0 0 (!w.params.followText "set-order")) }
set_option maxHeartbeats 3200000 in
/-- set(xs), a list of texts -/
theorem call_setT {l : Addr} {items : Array Value} {xs : List Str} {Q : Value → Shared → Prop} (hh : A.handled = none) (hl : s.heap.IsList l items) (hi : StrsAre items.toList xs) (hfew : xs.length < 64)
    (h : ∀ (h' : Heap) (tk : Nat), SetT w h' s.heap.objs.size (uniqT xs) → (∀ b o, s.heap.get? b = some o → h'.get? b = some o) → Q (.ref s.heap.objs.size) { s with heap := h', toks := tk }) :
    wpAny (model P w) A (call (.type "set") [.ref l]) Q E s := by
  have hsz : items.size = xs.length := by rw [← StrsAre.len_eq hi, Array.length_toList]
  obtain ⟨c, tl, hmro⟩ := F.called_set.mro
  have hmade := F.called_set.made
  have hsub := F.called_set.sub
  refine wpAny_call (codeAny_of_tree ?_)
  show wpAny _ _ (callAny (.type "set") _) _ _ _
  refine wpAny_pure ⟨Code.quiet_builtin _ (by decide +kernel), codeAny_builtin F.entry_type_call ?_⟩
  rw [Around.under_plain (weight_type_call_type "set" [.ref l] []) rfl]
  have h1 := F.called_set.notType
  have h2 := F.called_set.canCreate
  have hct := F.typeCall_set_1 (.ref l)
  repeat (any_goals (first | assumption | wp_step))

  refine codeAny_mono (code_set_led1 (.ref l) (E := E) (Q₁ := fun obj s₁ => obj = .ref s.heap.objs.size ∧ s₁ = { s with heap := s.heap.push (emptyT w) }) ⟨rfl, rfl⟩) fun r s₁ hr => ?_
  cases r with
  | error e => exact hr
  | ok fl =>
    cases fl with
    | ret obj =>
      obtain ⟨rfl, rfl⟩ := hr
      have hS : (s.heap.push (emptyT w)).get? s.heap.objs.size = some (emptyT w) := Heap.get?_push_size _ rfl
      have hT : Shared.TypeIs { s with heap := s.heap.push (emptyT w) } (.ref s.heap.objs.size) "set" := ⟨_, hS, rfl⟩
      have hli := F.called_set.init.lookup
      have hbi := F.called_set.init.bind (.ref s.heap.objs.size)
      repeat (any_goals (first | assumption | wp_step))

      refine codeAny_mono (codeAny_call_builtin (R := wants (fun r s₂ => r = .none ∧ ∃ h' tk, s₂ = { s with heap := h', toks := tk } ∧ SetT w h' s.heap.objs.size (uniqT xs) ∧
          (∀ b o, s.heap.get? b = some o → h'.get? b = some o)) E) F.called_set.init.plain F.entry_set_init (check_set_init_1 hT ?_)) fun r₂ s₂ hr₂ => ?_
      · obtain ⟨ol, hol, hcl, nl, hdl⟩ := hl
        obtain ⟨ocls, odict, odata, oslots⟩ := ol
        simp only at hcl hdl
        subst hcl; subst hdl
        have hol' : (s.heap.push (emptyT w)).get? l = some { cls := .type "list", dict := odict, data := .seq items nl, slots := oslots } := Heap.get?_push_of_some _ hol
        have hsls := F.sub_list_set
        have hslf := F.sub_list_frozenset
        have hne : (Value.type "list" == Value.type "dict") = false := by decide
        have hl1 : (s.heap.push (emptyT w)).IsList l items := ⟨_, hol', rfl, nl, rfl⟩
        unfold Builtin.«set.__init__» noKeywords Builtin.Frozenset.updateFrom
        generalize hPI : pyIter = PI
        wp_walk
        subst hPI

        refine wpAny_pyIter_list hl1 ?_
        refine wpAny_bind (wpAny_runValue ?_)
        have hlS : l < s.heap.objs.size := Heap.lt_size hol
        have hh3 : A.in1.in1.in1.handled = none := by simp [hh]
        have hneI : l ≠ (s.heap.push (emptyT w)).objs.size := by
          rw [Heap.size_push]; exact Nat.ne_of_lt (Nat.lt_succ_of_lt hlS)
        have hSf : s.heap.objs.size ∉ [(s.heap.push (emptyT w)).objs.size, l] := by
          rw [Heap.size_push]; simp only [List.mem_cons, List.mem_singleton, List.not_mem_nil, or_false, not_or]
          exact ⟨Nat.ne_of_lt (Nat.lt_succ_self _), Nat.ne_of_gt hlS⟩
        have hval : ∀ (i : Nat) (v : Value), items[i]? = some v → ∃ x t, xs[i]? = some x ∧ v = .str x t := fun i v hv => by
          have hv' : items.toList[i]? = some v := by rw [Array.getElem?_toList]; exact hv
          obtain ⟨t, ht⟩ := SS.strs_at hi i v hv'
          have hlt : i < xs.length := by
            rw [← hsz]
            exact (Array.getElem?_eq_some_iff.mp hv).1
          exact ⟨xs[i], t, List.getElem?_eq_getElem hlt, by rw [ht, List.getD_eq_getElem?_getD, List.getElem?_eq_getElem hlt] <;> rfl⟩
        refine setT_loop (xs := xs) ((Walks.list hh3 _ l hneI items).toS) s.heap.objs.size hSf hsz (by rw [hsz]; exact hfew) hval (items.size - 0) 0 _ (by omega) (Nat.zero_le _)
          ⟨⟨_, Heap.get?_push_size _ rfl, rfl, rfl⟩, (hl1.push _)⟩ (setT_fresh (Heap.get?_push_of_some _ hS)) (Nat.le_refl _) ?hR
        intro s' hm hS'
        obtain ⟨h', g', d', tk', os'⟩ := s'
        have eg : g' = s.gens := hm.gens
        have ed : d' = s.drawn := hm.drawn
        have eo : os' = s.os := hm.os
        subst eg; subst ed; subst eo
        show wpAny _ _ _ _ _ _
        refine wpAny_pure ?_
        show wpAny _ _ (ret Value.none) _ _ _
        refine wpAny_pure ⟨rfl, h', tk', rfl, hS', fun b o e => ?_⟩
        have hb := Heap.lt_size e
        have hb1 : b ≠ s.heap.objs.size := Nat.ne_of_lt hb
        have hb2 : b ≠ (s.heap.push (emptyT w)).objs.size := by
          rw [Heap.size_push]; exact Nat.ne_of_lt (Nat.lt_succ_of_lt hb)
        exact hm.heap b o (by simp only [List.mem_cons, List.mem_singleton, List.not_mem_nil, or_false, not_or]; exact ⟨hb1, hb2⟩) (Heap.get?_push_of_some _ (Heap.get?_push_of_some _ e))

      · cases r₂ with
        | error e => exact hr₂
        | ok fl₂ =>
          cases fl₂ with
          | ret r =>
            obtain ⟨rfl, h', tk, rfl, hS', hk'⟩ := hr₂
            repeat (any_goals (first | assumption | wp_step))
            exact h _ _ hS' hk'
          | _ => exact hr₂.elim
    | _ => exact hr.elim
theorem strs_ofT {l : List (Int × Value)} (g : ∀ e ∈ l, GoodT w e) : StrsAre (l.map (·.2)) (l.map sOf) := by
  induction l with
  | nil => exact .nil
  | cons e l ih =>
    obtain ⟨x, t, h1, _⟩ := g e List.mem_cons_self
    have q := ih fun z hz => g z (List.mem_cons_of_mem _ hz)
    show StrsAre (e.2 :: _) (sOf e :: _)
    unfold sOf
    rw [h1]
    exact .cons x t q
theorem strs_perm : ∀ {us : List Value} {vs : List Value}, us.Perm vs → ∀ xs : List Str, StrsAre vs xs → ∃ ys, StrsAre us ys ∧ ys.Perm xs := by
  intro us vs pm
  induction pm with
  | nil =>
    intro xs h
    exact ⟨xs, h, .refl _⟩
  | cons v _ ih =>
    intro xs h
    cases h with
    | cons x t r =>
      obtain ⟨ys, h1, h2⟩ := ih _ r
      exact ⟨x :: ys, .cons x t h1, h2.cons x⟩
  | swap a b l =>
    intro xs h
    cases h with
    | cons x t r =>
      cases r with
      | cons y u r => exact ⟨y :: x :: _, .cons y u (.cons x t r), .swap ..⟩
  | trans _ _ i1 i2 =>
    intro xs h
    obtain ⟨ys, h1, h2⟩ := i2 xs h
    obtain ⟨zs, h3, h4⟩ := i1 ys h1
    exact ⟨zs, h3, h4.trans h2⟩
/-- sorted(S), the texts xs -/
theorem call_sortedT {a : Addr} {xs : List Str} {Q : Value → Shared → Prop} (R : SetT w s.heap a xs) (hh : A.handled = none) (h64 : xs.length < 64)
    (hQ : ∀ s' p (out : Array Value) (c : Nat) (ys : List Str), (∀ b o, s.heap.get? b = some o → s'.heap.get? b = some o) → s'.gens = s.gens → s'.os = s.os → s.heap.objs.size ≤ p →
      s'.heap.get? p = some (seqObj "list" out c) → StrsAre out.toList ys → ys.Perm xs → sortedS ys = true → Q (.ref p) s') :
    wpAny (model P w) A (call (.builtin "sorted") [.ref a]) Q E s := by
  obtain ⟨o, es, ep, t, ho, hex, hd, g, pm, nd, hf, hr, hl⟩ := R
  have len0 : es.size = xs.length := by rw [← Array.length_toList, ← pm.length_eq, List.length_map]
  refine Calls.call_function_entry kind_sorted plain_sorted entry_sorted (args_sorted1 _) ?_
  unfold Builtin.«sorted»
  refine wpAny_bind (m := checkCount "sorted" 1 1 _) (wpAny_pure ?_)
  refine wpAny_bind (collect_set (A := A.in1) hh ⟨o, ho, hex.1, hd⟩ hf (by unfold scanBound; omega) hr hl fun s1 vs k1 hz g1 o1 pv => ?_)
  obtain ⟨xs1, hS, p1⟩ := strs_perm pv _ (strs_ofT g)
  have hvl : vs.length = xs.length := by rw [pv.length_eq, List.length_map, Array.length_toList, len0]
  refine wpAny_bind (wpAny_newList ?_ (by rw [hvl, sizeLine_eq]; omega))
  have hoL : (s1.heap.push (seqObj "list" vs.toArray 0)).get? s1.heap.objs.size = some (seqObj "list" vs.toArray 0) := Heap.get?_push_size _ rfl
  refine wpAny_bind (wpAny_holding (wpAny_call_entry slot_list_sort ⟨_, hoL, rfl⟩ entry_list_sort
    (list_sort_treeK strKind_oneLt (s := { s1 with heap := s1.heap.push (seqObj "list" vs.toArray 0) }) hoL hS.keysOf (fun v₁ v₂ rest e => keyKind_strs (by rw [← e]; exact hS)) (by rw [hvl]; exact h64) fun st' hp hs => ⟨_, rfl, ?_⟩) (args_list_sort _)))
  obtain ⟨ys, q1, q2, q3⟩ := sorted_out_str hS hp hs
  obtain ⟨c, hc⟩ := sortedHeap_at (vs := vs) (out := (arrOf st').map (·.2)) hoL
  refine wpAny_pure ⟨_, rfl, hQ _ s1.heap.objs.size _ c ys (fun b u e => ?_) g1 o1 hz hc q1 ((q2.trans p1).trans pm) q3⟩
  have q := k1 b u e
  have hlt := Heap.lt_size q
  show (sortedHeap (s1.heap.push (seqObj "list" vs.toArray 0)) s1.heap.objs.size vs _).get? b = some u
  rw [sortedHeap_old (Nat.ne_of_lt hlt) (by rw [size_push']; exact Nat.lt_succ_of_lt hlt)]
  exact Heap.get?_push_of_some _ q
end
/-- sorted(set(xs)) -/
def tSortSet (K : PySem.W.Frag) (te : TE) : TE := fun σ H Q => te σ H fun x H1 => ∃ l, ∃ xs : List Str, x = .ref l ∧ SqL K H1 l (xs.map V.str) ∧ xs.length < 64 ∧
  ∀ (ys : List Str) (p : Addr), ys.Perm (uniqT xs) → sortedS ys = true → H1 p = none → Q (.ref p) (upd H1 p (.lst (ys.map V.str)))
theorem uniqT_len : ∀ (xs acc : List Str), (xs.foldl addT acc).length ≤ acc.length + xs.length
  | [], acc => Nat.le_refl _
  | x :: r, acc => by
    have h1 := uniqT_len r (addT acc x)
    have h2 := addT_len acc x
    show (r.foldl addT (addT acc x)).length ≤ acc.length + (r.length + 1)
    omega
section
variable {X : Cx}
theorem pe_sortSet {a : Expr} {ta : TE} {p p2 q pos : Pos} (hc : X.calm = true) (hg : Gl X "sorted") (hm : X.mg "sorted" = none) (hg2 : Gl X "set") (hm2 : X.mg "set" = none) (ha : PE X a ta)
    (na : starEach [a] X.env = (false, eval a X.env) :: starEach [] X.env := by rfl) : PE X (.Call (.Name "sorted" p) [.Call (.Name "set" p2) [a] [] q] [] pos) (tSortSet X.K ta) := by
  refine ⟨fun pins s σ H Q I h => ?_⟩
  refine Call_ (ld_blt I hg hm boot_sorted ?_)
  refine PyProof.Rows.callWith_builtin1 (PyProof.Rows.args_cons ?_ rfl) rfl rfl
  refine Call_ (ld_blt I hg2 hm2 PyProof.Rows.boot_set ?_)
  refine PyProof.Rows.callWith_type1 (PyProof.Rows.args_cons (thn (ha.run pins s σ H _ I h) fun v s1 ⟨x, H1, I1, r1, q1⟩ => PyProof.Rows.args_nil ?_) na) na rfl
  obtain ⟨l, xs, rfl, hq, h64, q1⟩ := q1
  cases r1
  obtain ⟨its, r, pl, hz⟩ := I1.list hq
  refine call_setT (I1.ok.hd hc) pl.isList (by simpa using strsAre_of r) h64 fun h' tk hS hk => ?_
  refine PyProof.Rows.args_nil ?_
  have I2 : Inv X pins σ H1 { s1 with heap := h', toks := tk } := I1.kept hk
  have hu : (uniqT xs).length < 64 := Nat.lt_of_le_of_lt (by have := uniqT_len xs []; simpa [uniqT] using this) h64
  refine call_sortedT (s := { s1 with heap := h', toks := tk }) hS (I2.ok.hd hc) hu fun s' p out c ys k g o hp hg' hi hpm hs => ?_
  have hlen : (ys.map V.str).length ≤ sizeLine := by rw [List.length_map, hpm.length_eq, sizeLine_eq]; omega
  have hn : H1 p = none := I2.hok.fresh hp
  have J : Inv X pins σ (upd H1 p (.lst (ys.map V.str))) { ({ s1 with heap := h', toks := tk } : Shared) with heap := s'.heap, gens := s'.gens, drawn := s'.drawn, toks := s'.toks } :=
    I2.call (ch := []) (Un.laid k hp hn) (I2.hok.laid k hp ⟨hlen, out.toList, c, vals_of_strs hi, hg'⟩) (by rw [g]; exact I2.bare) (fun _ z => nomatch z)
  have e : s' = { ({ s1 with heap := h', toks := tk } : Shared) with heap := s'.heap, gens := s'.gens, drawn := s'.drawn, toks := s'.toks } := by
    cases s'
    cases o
    rfl
  rw [e]
  exact ⟨.ref p, upd H1 p (.lst (ys.map V.str)), J, rfl, q1 ys p hpm hs hn⟩
end
section
variable {K : PySem.W.Frag} {W : Wd} {ρ : List En} {te : TE} {P : PyData → Prop}
theorem ed_sortSet (h : Ed K W te ρ fun x => ∃ xs : List Str, x = .list (xs.map .str) ∧ xs.length < 64 ∧ ∀ ys : List Str, ys.Perm (uniqT xs) → sortedS ys = true → P (.list (ys.map .str))) : Ed K W (tSortSet K te) ρ P := fun W' l σ H Q iv e q =>
  h W' l σ H _ iv e fun x vx H1 x1 r1 ⟨xs, hx, h64, p⟩ => by
    subst hx
    obtain ⟨a, vs, rfl, h1, _, h2⟩ := dq_lst r1
    have h3 := h2.of_strs
    subst h3
    exact ⟨a, xs, rfl, SqL.of h1, h64, fun ys p' pm hs hp => q _ _ _ (x1.trans (Xt.new x1.inv hp)) (new_strs x1.inv hp) (p ys pm hs)⟩
end
end K61
end

section
set_option Elab.async false
set_option linter.all false
set_option maxRecDepth 100000
set_option maxHeartbeats 4000000
namespace K61
open PySem PySem.Spec PyProof.Rows L2
/-! ### is_integer: slots thing -/
def t_is_integer (K : PySem.W.Frag) : TS :=
  (tRet (tAndV (tCB (rIsi K) (tCons (tVar 0) (tCons (tC (.ty "int")) tNil))) (tNotV (tCB (rIsi K) (tCons (tVar 0) (tCons (tC (.ty "bool")) tNil))))))
theorem sc_is_integer : FnScope ["thing"] ["thing"] (defScope s_is_integer) := ⟨rfl, rfl, rfl, by decide +kernel, rfl, by decide +kernel, by decide +kernel⟩
theorem ok_is_integer {P : Program} {w : World} {K : PySem.W.Frag} {mg : Str → Option Value} {base : Heap} (T : Gs K mg) (h : SemD K (C_is_integer) (t_is_integer K) 1 1) : OkF P w K mg base "is_integer" 1 ["thing"] (sp_is_integer K) := by
  have nd := sc_is_integer.nd
  refine T.d_is_integer.okD T.g_is_integer sc_is_integer h (fun _ _ _ _ _ _ us hl => match us, hl with | [_], _ => rfl) fun cdv A outer s H E hr => ?_
  exact (pss_one (ps_ret (pe_and (pe_callB call_isi rfl T.f_isinstance boot_isinstance (pa_cons (pv 0) (pa_cons (pe_bltn rfl T.f_int boot_int rfl) pa_nil))) (pe_one (pe_not (pe_callB call_isi rfl T.f_isinstance boot_isinstance (pa_cons (pv 0) (pa_cons (pe_bltn rfl T.f_bool boot_bool rfl) pa_nil))))))))
/-! ### is_count: slots thing -/
def t_is_count (K : PySem.W.Frag) : TS :=
  (tRet (tAndV (tCall (sp_is_integer K) [] E0 (tCons (tVar 0) tNil)) (tOp qGe (tVar 0) (tC (.int 0)))))
theorem sc_is_count : FnScope ["thing"] ["thing"] (defScope s_is_count) := ⟨rfl, rfl, rfl, by decide +kernel, rfl, by decide +kernel, by decide +kernel⟩
theorem ok_is_count {P : Program} {w : World} {K : PySem.W.Frag} {mg : Str → Option Value} {base : Heap} (T : Gs K mg) (G_is_integer : OkF P w K mg base "is_integer" 1 ["thing"] (sp_is_integer K)) (h : SemD K (C_is_count) (t_is_count K) 1 1) : OkF P w K mg base "is_count" 2 ["thing"] (sp_is_count K) := by
  have nd := sc_is_count.nd
  refine T.d_is_count.okD T.g_is_count sc_is_count h (fun _ _ _ _ _ _ us hl => match us, hl with | [_], _ => rfl) fun cdv A outer s H E hr => ?_
  exact (pss_one (ps_ret (pe_and (pe_cf G_is_integer (hr.mono (by decide)) rfl (pa_cons (pv 0) pa_nil)) (pe_one (pe_cmpR oq_ge (pv 0) pe_int (nomark _))))))
/-! ### is_row_looks: slots thing, many -/
def t_is_row_looks (K : PySem.W.Frag) : TS :=
  (tRet (tAndV (tCB (rIsi K) (tCons (tVar 0) (tCons (tC (.ty "tuple")) tNil))) (tOp rEq (tCB (qLen K) (tCons (tVar 0) tNil)) (tVar 1))))
theorem sc_is_row_looks : FnScope ["thing", "many"] ["thing", "many"] (defScope s_is_row_looks) := ⟨rfl, rfl, rfl, by decide +kernel, rfl, by decide +kernel, by decide +kernel⟩
theorem ok_is_row_looks {P : Program} {w : World} {K : PySem.W.Frag} {mg : Str → Option Value} {base : Heap} (T : Gs K mg) (h : SemD K (C_is_row_looks) (t_is_row_looks K) 2 2) : OkF P w K mg base "is_row_looks" 1 ["thing", "many"] (sp_is_row_looks K) := by
  have nd := sc_is_row_looks.nd
  refine T.d_is_row_looks.okD T.g_is_row_looks sc_is_row_looks h (fun _ _ _ _ _ _ us hl => match us, hl with | [_, _], _ => rfl) fun cdv A outer s H E hr => ?_
  exact (pss_one (ps_ret (pe_and (pe_callB call_isi rfl T.f_isinstance boot_isinstance (pa_cons (pv 0) (pa_cons (pe_bltn rfl T.f_tuple boot_tuple rfl) pa_nil))) (pe_one (pe_cmpR op_eq (pe_callB cq_len rfl T.f_len boot_len (pa_cons (pv 0) pa_nil)) (pv 1) (nomark _))))))
/-! ### is_one_of: slots thing, words -/
def t_is_one_of (K : PySem.W.Frag) : TS :=
  (tRet (tAndV (tCB (rIsi K) (tCons (tVar 0) (tCons (tC (.ty "str")) tNil))) (tOp (rIn K false) (tVar 0) (tVar 1))))
theorem sc_is_one_of : FnScope ["thing", "words"] ["thing", "words"] (defScope s_is_one_of) := ⟨rfl, rfl, rfl, by decide +kernel, rfl, by decide +kernel, by decide +kernel⟩
theorem ok_is_one_of {P : Program} {w : World} {K : PySem.W.Frag} {mg : Str → Option Value} {base : Heap} (T : Gs K mg) (h : SemD K (C_is_one_of) (t_is_one_of K) 2 2) : OkF P w K mg base "is_one_of" 1 ["thing", "words"] (sp_is_one_of K) := by
  have nd := sc_is_one_of.nd
  refine T.d_is_one_of.okD T.g_is_one_of sc_is_one_of h (fun _ _ _ _ _ _ us hl => match us, hl with | [_, _], _ => rfl) fun cdv A outer s H E hr => ?_
  exact (pss_one (ps_ret (pe_and (pe_callB call_isi rfl T.f_isinstance boot_isinstance (pa_cons (pv 0) (pa_cons (pe_bltn rfl T.f_str boot_str rfl) pa_nil))) (pe_one (pe_cmpR op_in_seq (pv 0) (pv 1) (by rfl))))))
/-! ### is_rising: slots some, one, other -/
def t_is_rising (K : PySem.W.Frag) : TS :=
  (tRet (tCB (rAll K) (tCons (tLc (iZip K (tCons (tVar 0) (tCons (tSl (rSlL K) (tVar 0) (tPart (tC (.int 1))) tNoPart) tNil))) (gTup K 2 (gCons (gName 1) (gCons (gName 2) gNil))) tYes (tOp qLtS (tVar 1) (tVar 2)) [1, 2]) tNil)))
theorem sc_is_rising : FnScope ["some", "one", "other"] ["some"] (defScope s_is_rising) := ⟨rfl, rfl, rfl, by decide +kernel, rfl, by decide +kernel, by decide +kernel⟩
theorem ok_is_rising {P : Program} {w : World} {K : PySem.W.Frag} {mg : Str → Option Value} {base : Heap} (T : Gs K mg) (h : SemD K (C_is_rising) (t_is_rising K) 1 3) : OkF P w K mg base "is_rising" 1 ["some"] (sp_is_rising K) := by
  have nd := sc_is_rising.nd
  refine T.d_is_rising.okD T.g_is_rising sc_is_rising h (fun _ _ _ _ _ _ us hl => match us, hl with | [_], _ => rfl) fun cdv A outer s H E hr => ?_
  exact (pss_one (ps_ret (pe_callB (cr_all rfl) rfl T.f_all boot_all (pa_cons (pe_lc (own := [("one", 1), ("other", 2)]) (g := (gTup K 2 (gCons (gName 1) (gCons (gName 2) gNil)))) (tt := tYes) rfl nd (pi_zip rfl T.f_zip (pa_cons (pv 0) (pa_cons (pe_slice sl_list (pv 0) (po_some pe_int) po_none) pa_nil))) (blkOk_by (own := [("one", 1), ("other", 2)]) (N := ["some", "one", "other"]) (sc := defScope s_is_rising) (by decide +kernel)) (fun _ _ _ _ _ => (pg_tup rfl (pgs_cons (pg_name (i := 1) nd rfl (Or.inl rfl)) (pgs_cons (pg_name (i := 2) nd rfl (Or.inl rfl)) pgs_nil)))) (fun _ _ _ _ _ => pts_nil) (fun _ _ _ _ _ => (pe_cmpR oq_ltS (pv 1) (pv 2) (nomark _)))) pa_nil))))
/-! ### is_key: slots thing, sign -/
def t_is_key (K : PySem.W.Frag) : TS :=
  (tRet (tAndV (tCB (rIsi K) (tCons (tVar 0) (tCons (tC (.ty "str")) tNil))) (tAndV (tChain qLe qLe (tC (.int 1)) (tCB (qLen K) (tCons (tVar 0) tNil)) (tC (.int 9))) (tCB (rAll K) (tCons (tLc (iStr (tVar 0)) (gName 1) tYes (tOp qInC (tVar 1) (tC (.str "abcdefghijklmnopqrstuvwxyz"))) [1]) tNil)))))
theorem sc_is_key : FnScope ["thing", "sign"] ["thing"] (defScope s_is_key) := ⟨rfl, rfl, rfl, by decide +kernel, rfl, by decide +kernel, by decide +kernel⟩
theorem ok_is_key {P : Program} {w : World} {K : PySem.W.Frag} {mg : Str → Option Value} {base : Heap} (T : Gs K mg) (h : SemD K (C_is_key) (t_is_key K) 1 2) : OkF P w K mg base "is_key" 1 ["thing"] (sp_is_key K) := by
  have nd := sc_is_key.nd
  refine T.d_is_key.okD T.g_is_key sc_is_key h (fun _ _ _ _ _ _ us hl => match us, hl with | [_], _ => rfl) fun cdv A outer s H E hr => ?_
  exact (pss_one (ps_ret (pe_and (pe_callB call_isi rfl T.f_isinstance boot_isinstance (pa_cons (pv 0) (pa_cons (pe_bltn rfl T.f_str boot_str rfl) pa_nil))) (pe_and (pe_chain oq_le oq_le pe_int (pe_callB cq_len rfl T.f_len boot_len (pa_cons (pv 0) pa_nil)) (pe_gI rfl T.v_MOST_KEY)) (pe_one (pe_callB (cr_all rfl) rfl T.f_all boot_all (pa_cons (pe_lc (own := [("sign", 1)]) (g := (gName 1)) (tt := tYes) rfl nd (pi_str (pv 0)) (blkOk_by (own := [("sign", 1)]) (N := ["thing", "sign"]) (sc := defScope s_is_key) (by decide +kernel)) (fun _ _ _ _ _ => (pg_name (i := 1) nd rfl (Or.inl rfl))) (fun _ _ _ _ _ => pts_nil) (fun _ _ _ _ _ => (pe_cmpR oq_inC (pv 1) (pe_gS rfl T.v_LETTERS) (by rfl)))) pa_nil)))))))
/-! ### is_operation_value: slots thing, many, worth -/
def t_is_operation_value (K : PySem.W.Frag) : TS :=
  (tSeq (tIfS (tOr (tNot (tB (tCB (rIsi K) (tCons (tVar 0) (tCons (tC (.ty "tuple")) tNil))))) (tOr (tTest (tOp qLt (tCB (qLen K) (tCons (tVar 0) tNil)) (tC (.int 2)))) (tOr (tNot (tB (tCB (rIsi K) (tCons (tOp (rIx K) (tVar 0) (tC (.int 0))) (tCons (tC (.ty "str")) tNil))))) (tNot (tB (tCall (sp_is_key K) [] E0 (tCons (tOp (rIx K) (tVar 0) (tC (.int 1))) tNil))))))) (tRet (tC (.bl false))) tNext) (tSeq (tAsg (tDGet1 (tDisp (litT [("read", .int 2), ("set", .int 4), ("add", .int 3)])) (tOp (rIx K) (tVar 0) (tC (.int 0)))) (gName 1)) (tRet (tAndV (tOp rEq (tCB (qLen K) (tCons (tVar 0) tNil)) (tVar 1)) (tCB (rAll K) (tCons (tLc (iTup K (tSl (rSlA K) (tVar 0) (tPart (tC (.int 2))) tNoPart)) (gName 2) tYes (tCall (sp_is_integer K) [] E0 (tCons (tVar 2) tNil)) [2]) tNil))))))
theorem sc_is_operation_value : FnScope ["thing", "many", "worth"] ["thing"] (defScope s_is_operation_value) := ⟨rfl, rfl, rfl, by decide +kernel, rfl, by decide +kernel, by decide +kernel⟩
theorem ok_is_operation_value {P : Program} {w : World} {K : PySem.W.Frag} {mg : Str → Option Value} {base : Heap} (T : Gs K mg) (G_is_key : OkF P w K mg base "is_key" 1 ["thing"] (sp_is_key K)) (G_is_integer : OkF P w K mg base "is_integer" 1 ["thing"] (sp_is_integer K)) (h : SemD K (C_is_operation_value) (t_is_operation_value K) 1 3) : OkF P w K mg base "is_operation_value" 2 ["thing"] (sp_is_operation_value K) := by
  have nd := sc_is_operation_value.nd
  refine T.d_is_operation_value.okD T.g_is_operation_value sc_is_operation_value h (fun _ _ _ _ _ _ us hl => match us, hl with | [_], _ => rfl) fun cdv A outer s H E hr => ?_
  exact (pss_cons (ps_if (PW.pt (pw_or (pt_not (pt_val (pe_callB call_isi rfl T.f_isinstance boot_isinstance (pa_cons (pv 0) (pa_cons (pe_bltn rfl T.f_tuple boot_tuple rfl) pa_nil))))) (pw_or (pt_cmpR oq_lt (pe_callB cq_len rfl T.f_len boot_len (pa_cons (pv 0) pa_nil)) pe_int (nomark _)) (pw_or (pt_not (pt_val (pe_callB call_isi rfl T.f_isinstance boot_isinstance (pa_cons (pe_ix ix_seq (pv 0) pe_int (fun _ _ => rfl)) (pa_cons (pe_bltn rfl T.f_str boot_str rfl) pa_nil))))) (pw_or1 (pt_not (pt_val (pe_cf G_is_key (hr.mono (by decide)) rfl (pa_cons (pe_ix ix_seq (pv 0) pe_int (fun _ _ => rfl)) pa_nil))))))))) (pss_one (ps_ret pe_bl)) pss_nil)
      (pss_cons (ps_set (i := 1) nd rfl (Or.inl rfl) (pe_dget1 (hu_of hr) (pe_disp (pps_cons pe_str pe_int (pps_cons pe_str pe_int (pps_cons pe_str pe_int pps_nil))) rfl rfl (fun z => by cases z) (by decide)) (pe_ix ix_seq (pv 0) pe_int (fun _ _ => rfl)) ⟨rfl, rfl, rfl, rfl⟩))
      (pss_one (ps_ret (pe_and (pe_cmpR op_eq (pe_callB cq_len rfl T.f_len boot_len (pa_cons (pv 0) pa_nil)) (pv 1) (nomark _)) (pe_one (pe_callB (cr_all rfl) rfl T.f_all boot_all (pa_cons (pe_lc (own := [("worth", 2)]) (g := (gName 2)) (tt := tYes) rfl nd (pi_tup (pe_slice sl_tupA (pv 0) (po_some pe_int) po_none)) (blkOk_by (own := [("worth", 2)]) (N := ["thing", "many", "worth"]) (sc := defScope s_is_operation_value) (by decide +kernel)) (fun _ _ _ _ _ => (pg_name (i := 2) nd rfl (Or.inl rfl))) (fun _ _ _ _ _ => pts_nil) (fun _ _ _ _ _ => (pe_cf G_is_integer (hr.mono (by decide)) rfl (pa_cons (pv 2) pa_nil)))) pa_nil))))))))
/-! ### is_content_value: slots thing, low, entries, follower, pair, key, worth -/
def t_is_content_value (K : PySem.W.Frag) : TS :=
  (tSeq (tIfS (tTest (tOp qIsN (tVar 0) (tC .non))) (tRet (tC (.bl true))) tNext) (tSeq (tIfS (tOr (tNot (tB (tCall (sp_is_row_looks K) [] E0 (tCons (tVar 0) (tCons (tC (.int 3)) tNil))))) (tNot (tOr (tAnd (tTest (tOp (rEqD K) (tOp (rIx K) (tVar 0) (tC (.int 0))) (tC (.str "")))) (tB (tCB (rIsi K) (tCons (tOp (rIx K) (tVar 0) (tC (.int 0))) (tCons (tC (.ty "str")) tNil))))) (tB (tCall (sp_is_key K) [] E0 (tCons (tOp (rIx K) (tVar 0) (tC (.int 0))) tNil)))))) (tRet (tC (.bl false))) tNext) (tSeq (tAsg (tVar 0) (gTup K 3 (gCons (gName 1) (gCons (gName 2) (gCons (gName 3) gNil))))) (tSeq (tIfS (tOr (tNot (tB (tCB (rIsi K) (tCons (tVar 2) (tCons (tC (.ty "tuple")) tNil))))) (tOr (tTest (tOp qGt (tCB (qLen K) (tCons (tVar 2) tNil)) (tC (.int 3)))) (tNot (tB (tCB (rAll K) (tCons (tLc (iTup K (tVar 2)) (gName 4) tYes (tCall (sp_is_row_looks K) [] E0 (tCons (tVar 4) (tCons (tC (.int 2)) tNil))) [4]) tNil)))))) (tRet (tC (.bl false))) tNext) (tSeq (tIfS (tNot (tB (tCB (rAll K) (tCons (tLc (iTup K (tVar 2)) (gTup K 2 (gCons (gName 5) (gCons (gName 6) gNil))) tYes (tAndV (tCall (sp_is_key K) [] E0 (tCons (tVar 5) tNil)) (tAndV (tCall (sp_is_integer K) [] E0 (tCons (tVar 6) tNil)) (tAndV (tOp rNe (tVar 6) (tC (.int 0))) (tOp qLeS (tVar 1) (tVar 5))))) [5, 6]) tNil)))) (tRet (tC (.bl false))) tNext) (tRet (tAndV (tCall (sp_is_rising K) [] E0 (tCons (tLc (iTup K (tVar 2)) (gTup K 2 (gCons (gName 5) (gCons (gName 6) gNil))) tYes (tVar 5) [5, 6]) tNil)) (tOrV (tOp qIsN (tVar 3) (tC .non)) (tCall (sp_is_count K) [] E0 (tCons (tVar 3) tNil))))))))))
theorem sc_is_content_value : FnScope ["thing", "low", "entries", "follower", "pair", "key", "worth"] ["thing"] (defScope s_is_content_value) := ⟨rfl, rfl, rfl, by decide +kernel, rfl, by decide +kernel, by decide +kernel⟩
theorem ok_is_content_value {P : Program} {w : World} {K : PySem.W.Frag} {mg : Str → Option Value} {base : Heap} (T : Gs K mg) (G_is_rising : OkF P w K mg base "is_rising" 1 ["some"] (sp_is_rising K)) (G_is_row_looks : OkF P w K mg base "is_row_looks" 1 ["thing", "many"] (sp_is_row_looks K)) (G_is_count : OkF P w K mg base "is_count" 2 ["thing"] (sp_is_count K)) (G_is_key : OkF P w K mg base "is_key" 1 ["thing"] (sp_is_key K)) (G_is_integer : OkF P w K mg base "is_integer" 1 ["thing"] (sp_is_integer K)) (h : SemD K (C_is_content_value) (t_is_content_value K) 1 7) : OkF P w K mg base "is_content_value" 3 ["thing"] (sp_is_content_value K) := by
  have nd := sc_is_content_value.nd
  refine T.d_is_content_value.okD T.g_is_content_value sc_is_content_value h (fun _ _ _ _ _ _ us hl => match us, hl with | [_], _ => rfl) fun cdv A outer s H E hr => ?_
  exact (pss_cons (ps_if (pt_cmpR oq_isN (pv 0) pe_non (nomark _)) (pss_one (ps_ret pe_bl)) pss_nil)
      (pss_cons (ps_if (PW.pt (pw_or (pt_not (pt_val (pe_cf G_is_row_looks (hr.mono (by decide)) rfl (pa_cons (pv 0) (pa_cons pe_int pa_nil))))) (pw_or1 (pt_not (PW.pt (pw_or (PW.pt (pw_and (pt_cmpR (op_eqD hr.units) (pe_ix ix_seq (pv 0) pe_int (fun _ _ => rfl)) pe_str (nomark _)) (pw_and1 (pt_val (pe_callB call_isi rfl T.f_isinstance boot_isinstance (pa_cons (pe_ix ix_seq (pv 0) pe_int (fun _ _ => rfl)) (pa_cons (pe_bltn rfl T.f_str boot_str rfl) pa_nil))))))) (pw_or1 (pt_val (pe_cf G_is_key (hr.mono (by decide)) rfl (pa_cons (pe_ix ix_seq (pv 0) pe_int (fun _ _ => rfl)) pa_nil)))))))))) (pss_one (ps_ret pe_bl)) pss_nil)
      (pss_cons (ps_asg (pv 0) (pg_tup rfl (pgs_cons (pg_name (i := 1) nd rfl (Or.inr rfl)) (pgs_cons (pg_name (i := 2) nd rfl (Or.inl rfl)) (pgs_cons (pg_name (i := 3) nd rfl (Or.inl rfl)) pgs_nil)))))
      (pss_cons (ps_if (PW.pt (pw_or (pt_not (pt_val (pe_callB call_isi rfl T.f_isinstance boot_isinstance (pa_cons (pv 2) (pa_cons (pe_bltn rfl T.f_tuple boot_tuple rfl) pa_nil))))) (pw_or (pt_cmpR oq_gt (pe_callB cq_len rfl T.f_len boot_len (pa_cons (pv 2) pa_nil)) (pe_gI rfl T.v_MOST_ENTRIES) (nomark _)) (pw_or1 (pt_not (pt_val (pe_callB (cr_all rfl) rfl T.f_all boot_all (pa_cons (pe_lc (own := [("pair", 4)]) (g := (gName 4)) (tt := tYes) rfl nd (pi_tup (pv 2)) (blkOk_by (own := [("pair", 4)]) (N := ["thing", "low", "entries", "follower", "pair", "key", "worth"]) (sc := defScope s_is_content_value) (by decide +kernel)) (fun _ _ _ _ _ => (pg_name (i := 4) nd rfl (Or.inl rfl))) (fun _ _ _ _ _ => pts_nil) (fun _ _ _ _ _ => (pe_cf G_is_row_looks (hr.mono (by decide)) rfl (pa_cons (pv 4) (pa_cons pe_int pa_nil))))) pa_nil)))))))) (pss_one (ps_ret pe_bl)) pss_nil)
      (pss_cons (ps_if (pt_not (pt_val (pe_callB (cr_all rfl) rfl T.f_all boot_all (pa_cons (pe_lc (own := [("key", 5), ("worth", 6)]) (g := (gTup K 2 (gCons (gName 5) (gCons (gName 6) gNil)))) (tt := tYes) rfl nd (pi_tup (pv 2)) (blkOk_by (own := [("key", 5), ("worth", 6)]) (N := ["thing", "low", "entries", "follower", "pair", "key", "worth"]) (sc := defScope s_is_content_value) (by decide +kernel)) (fun _ _ _ _ _ => (pg_tup rfl (pgs_cons (pg_name (i := 5) nd rfl (Or.inl rfl)) (pgs_cons (pg_name (i := 6) nd rfl (Or.inl rfl)) pgs_nil)))) (fun _ _ _ _ _ => pts_nil) (fun _ _ _ _ _ => (pe_and (pe_cf G_is_key (hr.mono (by decide)) rfl (pa_cons (pv 5) pa_nil)) (pe_and (pe_cf G_is_integer (hr.mono (by decide)) rfl (pa_cons (pv 6) pa_nil)) (pe_and (pe_cmpR op_ne (pv 6) pe_int (nomark _)) (pe_one (pe_cmpR oq_leS (pv 1) (pv 5) (nomark _)))))))) pa_nil)))) (pss_one (ps_ret pe_bl)) pss_nil)
      (pss_one (ps_ret (pe_and (pe_cf G_is_rising (hr.mono (by decide)) rfl (pa_cons (pe_lc (own := [("key", 5), ("worth", 6)]) (g := (gTup K 2 (gCons (gName 5) (gCons (gName 6) gNil)))) (tt := tYes) rfl nd (pi_tup (pv 2)) (blkOk_by (own := [("key", 5), ("worth", 6)]) (N := ["thing", "low", "entries", "follower", "pair", "key", "worth"]) (sc := defScope s_is_content_value) (by decide +kernel)) (fun _ _ _ _ _ => (pg_tup rfl (pgs_cons (pg_name (i := 5) nd rfl (Or.inl rfl)) (pgs_cons (pg_name (i := 6) nd rfl (Or.inl rfl)) pgs_nil)))) (fun _ _ _ _ _ => pts_nil) (fun _ _ _ _ _ => (pv 5))) pa_nil)) (pe_one (pe_or (pe_cmpR oq_isN (pv 3) pe_non (nomark _)) (pe_one (pe_cf G_is_count (hr.mono (by decide)) rfl (pa_cons (pv 3) pa_nil)))))))))))))
/-! ### is_row_value: slots thing, head, rest, content -/
def t_is_row_value (K : PySem.W.Frag) : TS :=
  (tSeq (tIfS (tOr (tNot (tB (tCB (rIsi K) (tCons (tVar 0) (tCons (tC (.ty "tuple")) tNil))))) (tOr (tTest (tOp qLt (tCB (qLen K) (tCons (tVar 0) tNil)) (tC (.int 2)))) (tOr (tNot (tB (tCB (rIsi K) (tCons (tOp (rIx K) (tVar 0) (tC (.int 0))) (tCons (tC (.ty "str")) tNil))))) (tNot (tB (tCall (sp_is_count K) [] E0 (tCons (tOp (rIx K) (tVar 0) (tC (.int 1))) tNil))))))) (tRet (tC (.bl false))) tNext) (tSeq (tPar 1 2 (tCons (tOp (rIx K) (tVar 0) (tC (.int 0))) (tCons (tSl (rSlA K) (tVar 0) (tPart (tC (.int 2))) tNoPart) tNil))) (tSeq (tIfS (tTest (tOp rEq (tVar 1) (tC (.str "start")))) (tRet (tOp (rEqD K) (tVar 2) (tTup tNil))) tNext) (tSeq (tIfS (tTest (tOp (rIn K false) (tVar 1) (tC (.ref (He.ga K "NUMBERED"))))) (tSeq (tIfS (tOr (tTest (tOp rNe (tCB (qLen K) (tCons (tVar 2) tNil)) (tIf (tTest (tOp rEq (tVar 1) (tC (.str "page")))) (tC (.int 3)) (tC (.int 2))))) (tNot (tB (tCall (sp_is_count K) [] E0 (tCons (tOp (rIx K) (tVar 2) (tC (.int 0))) tNil))))) (tRet (tC (.bl false))) tNext) (tRet (tCB (rAll K) (tCons (tLc (iTup K (tSl (rSlA K) (tVar 2) (tPart (tC (.int 1))) tNoPart)) (gName 3) tYes (tCall (sp_is_content_value K) [] E0 (tCons (tVar 3) tNil)) [3]) tNil)))) tNext) (tSeq (tIfS (tTest (tOp rEq (tVar 1) (tC (.str "end")))) (tRet (tAndV (tOp rEq (tCB (qLen K) (tCons (tVar 2) tNil)) (tC (.int 1))) (tCall (sp_is_one_of K) [] E0 (tCons (tOp (rIx K) (tVar 2) (tC (.int 0))) (tCons (tC (.ref (He.ga K "ENDS"))) tNil))))) tNext) (tSeq (tIfS (tOr (tTest (tOp rNe (tCB (qLen K) (tCons (tVar 2) tNil)) (tC (.int 2)))) (tNot (tB (tCall (sp_is_count K) [] E0 (tCons (tOp (rIx K) (tVar 2) (tC (.int 0))) tNil))))) (tRet (tC (.bl false))) tNext) (tRet (tOrV (tAndV (tOp rEq (tVar 1) (tC (.str "op"))) (tCall (sp_is_operation_value K) [] E0 (tCons (tOp (rIx K) (tVar 2) (tC (.int 1))) tNil))) (tAndV (tOp rEq (tVar 1) (tC (.str "comp"))) (tCall (sp_is_count K) [] E0 (tCons (tOp (rIx K) (tVar 2) (tC (.int 1))) tNil)))))))))))
theorem sc_is_row_value : FnScope ["thing", "head", "rest", "content"] ["thing"] (defScope s_is_row_value) := ⟨rfl, rfl, rfl, by decide +kernel, rfl, by decide +kernel, by decide +kernel⟩
theorem ok_is_row_value {P : Program} {w : World} {K : PySem.W.Frag} {mg : Str → Option Value} {base : Heap} (T : Gs K mg) (G_is_count : OkF P w K mg base "is_count" 2 ["thing"] (sp_is_count K)) (G_is_one_of : OkF P w K mg base "is_one_of" 1 ["thing", "words"] (sp_is_one_of K)) (G_is_operation_value : OkF P w K mg base "is_operation_value" 2 ["thing"] (sp_is_operation_value K)) (G_is_content_value : OkF P w K mg base "is_content_value" 3 ["thing"] (sp_is_content_value K)) (h : SemD K (C_is_row_value) (t_is_row_value K) 1 4) : OkF P w K mg base "is_row_value" 4 ["thing"] (sp_is_row_value K) := by
  have nd := sc_is_row_value.nd
  refine T.d_is_row_value.okD T.g_is_row_value sc_is_row_value h (fun _ _ _ _ _ _ us hl => match us, hl with | [_], _ => rfl) fun cdv A outer s H E hr => ?_
  exact (pss_cons (ps_if (PW.pt (pw_or (pt_not (pt_val (pe_callB call_isi rfl T.f_isinstance boot_isinstance (pa_cons (pv 0) (pa_cons (pe_bltn rfl T.f_tuple boot_tuple rfl) pa_nil))))) (pw_or (pt_cmpR oq_lt (pe_callB cq_len rfl T.f_len boot_len (pa_cons (pv 0) pa_nil)) pe_int (nomark _)) (pw_or (pt_not (pt_val (pe_callB call_isi rfl T.f_isinstance boot_isinstance (pa_cons (pe_ix ix_seq (pv 0) pe_int (fun _ _ => rfl)) (pa_cons (pe_bltn rfl T.f_str boot_str rfl) pa_nil))))) (pw_or1 (pt_not (pt_val (pe_cf G_is_count (hr.mono (by decide)) rfl (pa_cons (pe_ix ix_seq (pv 0) pe_int (fun _ _ => rfl)) pa_nil))))))))) (pss_one (ps_ret pe_bl)) pss_nil)
      (pss_cons (ps_par rfl nd rfl rfl (by decide) rfl rfl (pa_cons (pe_ix ix_seq (pv 0) pe_int (fun _ _ => rfl)) (pa_cons (pe_slice sl_tupA (pv 0) (po_some pe_int) po_none) pa_nil)) rfl)
      (pss_cons (ps_if (pt_cmpR op_eq (pv 1) pe_str (nomark _)) (pss_one (ps_ret (pe_cmpR (op_eqD hr.units) (pv 2) (pe_tup pa_nil) (nomark _)))) pss_nil)
      (pss_cons (ps_if (pt_cmpR op_in_seq (pv 1) (pe_gR rfl T.g_NUMBERED) (by rfl)) (pss_cons (ps_if (PW.pt (pw_or (pt_cmpR op_ne (pe_callB cq_len rfl T.f_len boot_len (pa_cons (pv 2) pa_nil)) (pe_ifExp (pt_cmpR op_eq (pv 1) pe_str (nomark _)) pe_int pe_int) (nomark _)) (pw_or1 (pt_not (pt_val (pe_cf G_is_count (hr.mono (by decide)) rfl (pa_cons (pe_ix ix_seq (pv 2) pe_int (fun _ _ => rfl)) pa_nil))))))) (pss_one (ps_ret pe_bl)) pss_nil)
      (pss_one (ps_ret (pe_callB (cr_all rfl) rfl T.f_all boot_all (pa_cons (pe_lc (own := [("content", 3)]) (g := (gName 3)) (tt := tYes) rfl nd (pi_tup (pe_slice sl_tupA (pv 2) (po_some pe_int) po_none)) (blkOk_by (own := [("content", 3)]) (N := ["thing", "head", "rest", "content"]) (sc := defScope s_is_row_value) (by decide +kernel)) (fun _ _ _ _ _ => (pg_name (i := 3) nd rfl (Or.inl rfl))) (fun _ _ _ _ _ => pts_nil) (fun _ _ _ _ _ => (pe_cf G_is_content_value (hr.mono (by decide)) rfl (pa_cons (pv 3) pa_nil)))) pa_nil))))) pss_nil)
      (pss_cons (ps_if (pt_cmpR op_eq (pv 1) pe_str (nomark _)) (pss_one (ps_ret (pe_and (pe_cmpR op_eq (pe_callB cq_len rfl T.f_len boot_len (pa_cons (pv 2) pa_nil)) pe_int (nomark _)) (pe_one (pe_cf G_is_one_of (hr.mono (by decide)) rfl (pa_cons (pe_ix ix_seq (pv 2) pe_int (fun _ _ => rfl)) (pa_cons (pe_gR rfl T.g_ENDS) pa_nil))))))) pss_nil)
      (pss_cons (ps_if (PW.pt (pw_or (pt_cmpR op_ne (pe_callB cq_len rfl T.f_len boot_len (pa_cons (pv 2) pa_nil)) pe_int (nomark _)) (pw_or1 (pt_not (pt_val (pe_cf G_is_count (hr.mono (by decide)) rfl (pa_cons (pe_ix ix_seq (pv 2) pe_int (fun _ _ => rfl)) pa_nil))))))) (pss_one (ps_ret pe_bl)) pss_nil)
      (pss_one (ps_ret (pe_or (pe_and (pe_cmpR op_eq (pv 1) pe_str (nomark _)) (pe_one (pe_cf G_is_operation_value (hr.mono (by decide)) rfl (pa_cons (pe_ix ix_seq (pv 2) pe_int (fun _ _ => rfl)) pa_nil)))) (pe_one (pe_and (pe_cmpR op_eq (pv 1) pe_str (nomark _)) (pe_one (pe_cf G_is_count (hr.mono (by decide)) rfl (pa_cons (pe_ix ix_seq (pv 2) pe_int (fun _ _ => rfl)) pa_nil))))))))))))))
end K61
end

section
set_option Elab.async false
set_option linter.all false
set_option maxRecDepth 100000
set_option maxHeartbeats 4000000
namespace K61
open PySem PySem.Spec PyProof.Rows L2
/-! ### text_of_content: slots content, low, entries, follower, told, key, worth -/
def t_text_of_content (K : PySem.W.Frag) : TS :=
  (tSeq (tIfS (tTest (tOp qIsN (tVar 0) (tC .non))) (tRet (tC (.str "-"))) tNext) (tSeq (tAsg (tVar 0) (gTup K 3 (gCons (gName 1) (gCons (gName 2) (gCons (gName 3) gNil))))) (tSeq (tAsg (tM1 (qJoin K) (tC (.str ",")) (tLc (iTup K (tVar 2)) (gTup K 2 (gCons (gName 5) (gCons (gName 6) gNil))) tYes (tJ [tFmt (tVar 5), tC (.str "="), tFmt (tVar 6)]) [5, 6])) (gName 4)) (tRet (tOp qAddS (tJ [tFmt (tVar 1), tC (.str "/"), tFmt (tVar 4), tC (.str "/")]) (tIf (tTest (tOp qIsN (tVar 3) (tC .non))) (tC (.str "-")) (tCB qStr (tCons (tVar 3) tNil))))))))
theorem sc_text_of_content : FnScope ["content", "low", "entries", "follower", "told", "key", "worth"] ["content"] (defScope s_text_of_content) := ⟨rfl, rfl, rfl, by decide +kernel, rfl, by decide +kernel, by decide +kernel⟩
theorem ok_text_of_content {P : Program} {w : World} {K : PySem.W.Frag} {mg : Str → Option Value} {base : Heap} (T : Gs K mg) (h : SemD K (C_text_of_content) (t_text_of_content K) 1 7) : OkF P w K mg base "text_of_content" 1 ["content"] (sp_text_of_content K) := by
  have nd := sc_text_of_content.nd
  refine T.d_text_of_content.okD T.g_text_of_content sc_text_of_content h (fun _ _ _ _ _ _ us hl => match us, hl with | [_], _ => rfl) fun cdv A outer s H E hr => ?_
  exact (pss_cons (ps_if (pt_cmpR oq_isN (pv 0) pe_non (nomark _)) (pss_one (ps_ret pe_str)) pss_nil)
      (pss_cons (ps_asg (pv 0) (pg_tup rfl (pgs_cons (pg_name (i := 1) nd rfl (Or.inl rfl)) (pgs_cons (pg_name (i := 2) nd rfl (Or.inl rfl)) (pgs_cons (pg_name (i := 3) nd rfl (Or.inl rfl)) pgs_nil)))))
      (pss_cons (ps_set (i := 4) nd rfl (Or.inl rfl) (pe_join pe_str (pe_lc (own := [("key", 5), ("worth", 6)]) (g := (gTup K 2 (gCons (gName 5) (gCons (gName 6) gNil)))) (tt := tYes) rfl nd (pi_tup (pv 2)) (blkOk_by (own := [("key", 5), ("worth", 6)]) (N := ["content", "low", "entries", "follower", "told", "key", "worth"]) (sc := defScope s_text_of_content) (by decide +kernel)) (fun _ _ _ _ _ => (pg_tup rfl (pgs_cons (pg_name (i := 5) nd rfl (Or.inl rfl)) (pgs_cons (pg_name (i := 6) nd rfl (Or.inl rfl)) pgs_nil)))) (fun _ _ _ _ _ => pts_nil) (fun _ _ _ _ _ => (pe_joinedQ (.cons (pe_fmt (pv 5)) (.cons pe_str (.cons (pe_fmt (pv 6)) .nil))))))))
      (pss_one (ps_ret (pe_op oq_addS (pe_joinedQ (.cons (pe_fmt (pv 1)) (.cons pe_str (.cons (pe_fmt (pv 4)) (.cons pe_str .nil))))) (pe_ifExp (pt_cmpR oq_isN (pv 3) pe_non (nomark _)) pe_str (pe_callTy cq_str rfl T.f_str boot_str (pa_cons (pv 3) pa_nil)))))))))
/-! ### text_of_row: slots row, content, item -/
def t_text_of_row (K : PySem.W.Frag) : TS :=
  (tSeq (tIfS (tTest (tOp (rIn K false) (tOp (rIx K) (tVar 0) (tC (.int 0))) (tC (.ref (He.ga K "NUMBERED"))))) (tRet (tM1 (qJoin K) (tC (.str " ")) (tOp rCat (tLst (tCons (tOp (rIx K) (tVar 0) (tC (.int 0))) (tCons (tCB qStr (tCons (tOp (rIx K) (tVar 0) (tC (.int 1))) tNil)) (tCons (tCB qStr (tCons (tOp (rIx K) (tVar 0) (tC (.int 2))) tNil)) tNil)))) (tLc (iTup K (tSl (rSlA K) (tVar 0) (tPart (tC (.int 3))) tNoPart)) (gName 1) tYes (tCall (sp_text_of_content K) [] E0 (tCons (tVar 1) tNil)) [1])))) tNext) (tSeq (tIfS (tTest (tOp (rEqD K) (tOp (rIx K) (tVar 0) (tC (.int 0))) (tC (.str "op")))) (tRet (tM1 (qJoin K) (tC (.str " ")) (tOp rCat (tLst (tCons (tC (.str "op")) (tCons (tCB qStr (tCons (tOp (rIx K) (tVar 0) (tC (.int 1))) tNil)) (tCons (tCB qStr (tCons (tOp (rIx K) (tVar 0) (tC (.int 2))) tNil)) tNil)))) (tLc (iTup K (tOp (rIx K) (tVar 0) (tC (.int 3)))) (gName 2) tYes (tCB qStr (tCons (tVar 2) tNil)) [2])))) tNext) (tRet (tM1 (qJoin K) (tC (.str " ")) (tLc (iTup K (tVar 0)) (gName 2) tYes (tCB qStr (tCons (tVar 2) tNil)) [2])))))
theorem sc_text_of_row : FnScope ["row", "content", "item"] ["row"] (defScope s_text_of_row) := ⟨rfl, rfl, rfl, by decide +kernel, rfl, by decide +kernel, by decide +kernel⟩
theorem ok_text_of_row {P : Program} {w : World} {K : PySem.W.Frag} {mg : Str → Option Value} {base : Heap} (T : Gs K mg) (G_text_of_content : OkF P w K mg base "text_of_content" 1 ["content"] (sp_text_of_content K)) (h : SemD K (C_text_of_row) (t_text_of_row K) 1 3) : OkF P w K mg base "text_of_row" 2 ["row"] (sp_text_of_row K) := by
  have nd := sc_text_of_row.nd
  refine T.d_text_of_row.okD T.g_text_of_row sc_text_of_row h (fun _ _ _ _ _ _ us hl => match us, hl with | [_], _ => rfl) fun cdv A outer s H E hr => ?_
  exact (pss_cons (ps_if (pt_cmpR op_in_seq (pe_ix ix_seq (pv 0) pe_int (fun _ _ => rfl)) (pe_gR rfl T.g_NUMBERED) (by rfl)) (pss_one (ps_ret (pe_join pe_str (pe_op op_cat (pe_lst (pa_cons (pe_ix ix_seq (pv 0) pe_int (fun _ _ => rfl)) (pa_cons (pe_callTy cq_str rfl T.f_str boot_str (pa_cons (pe_ix ix_seq (pv 0) pe_int (fun _ _ => rfl)) pa_nil)) (pa_cons (pe_callTy cq_str rfl T.f_str boot_str (pa_cons (pe_ix ix_seq (pv 0) pe_int (fun _ _ => rfl)) pa_nil)) pa_nil)))) (pe_lc (own := [("content", 1)]) (g := (gName 1)) (tt := tYes) rfl nd (pi_tup (pe_slice sl_tupA (pv 0) (po_some pe_int) po_none)) (blkOk_by (own := [("content", 1)]) (N := ["row", "content", "item"]) (sc := defScope s_text_of_row) (by decide +kernel)) (fun _ _ _ _ _ => (pg_name (i := 1) nd rfl (Or.inl rfl))) (fun _ _ _ _ _ => pts_nil) (fun _ _ _ _ _ => (pe_cf G_text_of_content (hr.mono (by decide)) rfl (pa_cons (pv 1) pa_nil)))))))) pss_nil)
      (pss_cons (ps_if (pt_cmpR (op_eqD hr.units) (pe_ix ix_seq (pv 0) pe_int (fun _ _ => rfl)) pe_str (nomark _)) (pss_one (ps_ret (pe_join pe_str (pe_op op_cat (pe_lst (pa_cons pe_str (pa_cons (pe_callTy cq_str rfl T.f_str boot_str (pa_cons (pe_ix ix_seq (pv 0) pe_int (fun _ _ => rfl)) pa_nil)) (pa_cons (pe_callTy cq_str rfl T.f_str boot_str (pa_cons (pe_ix ix_seq (pv 0) pe_int (fun _ _ => rfl)) pa_nil)) pa_nil)))) (pe_lc (own := [("item", 2)]) (g := (gName 2)) (tt := tYes) rfl nd (pi_tup (pe_ix ix_seq (pv 0) pe_int (fun _ _ => rfl))) (blkOk_by (own := [("item", 2)]) (N := ["row", "content", "item"]) (sc := defScope s_text_of_row) (by decide +kernel)) (fun _ _ _ _ _ => (pg_name (i := 2) nd rfl (Or.inl rfl))) (fun _ _ _ _ _ => pts_nil) (fun _ _ _ _ _ => (pe_callTy cq_str rfl T.f_str boot_str (pa_cons (pv 2) pa_nil)))))))) pss_nil)
      (pss_one (ps_ret (pe_join pe_str (pe_lc (own := [("item", 2)]) (g := (gName 2)) (tt := tYes) rfl nd (pi_tup (pv 0)) (blkOk_by (own := [("item", 2)]) (N := ["row", "content", "item"]) (sc := defScope s_text_of_row) (by decide +kernel)) (fun _ _ _ _ _ => (pg_name (i := 2) nd rfl (Or.inl rfl))) (fun _ _ _ _ _ => pts_nil) (fun _ _ _ _ _ => (pe_callTy cq_str rfl T.f_str boot_str (pa_cons (pv 2) pa_nil)))))))))
/-! ### number_in: slots text, figures, sign -/
def t_number_in (K : PySem.W.Frag) : TS :=
  (tSeq (tAsg (tIf (tTest (tOp rEq (tSl rSlS (tVar 0) tNoPart (tPart (tC (.int 1)))) (tC (.str "-")))) (tSl rSlS (tVar 0) (tPart (tC (.int 1))) tNoPart) (tVar 0)) (gName 1)) (tSeq (tIfS (tOr (tTest (tOp rEq (tVar 1) (tC (.str "")))) (tOr (tTest (tOp qGt (tCB (qLen K) (tCons (tVar 1) tNil)) (tC (.int 4000)))) (tNot (tB (tCB (rAll K) (tCons (tLc (iStr (tVar 1)) (gName 2) tYes (tOp qInC (tVar 2) (tC (.str "0123456789"))) [2]) tNil)))))) (tRet (tC .non)) tNext) (tRet (tCB qInt (tCons (tVar 0) tNil)))))
theorem sc_number_in : FnScope ["text", "figures", "sign"] ["text"] (defScope s_number_in) := ⟨rfl, rfl, rfl, by decide +kernel, rfl, by decide +kernel, by decide +kernel⟩
theorem ok_number_in {P : Program} {w : World} {K : PySem.W.Frag} {mg : Str → Option Value} {base : Heap} (T : Gs K mg) (h : SemD K (C_number_in) (t_number_in K) 1 3) : OkF P w K mg base "number_in" 1 ["text"] (sp_number_in K) := by
  have nd := sc_number_in.nd
  refine T.d_number_in.okD T.g_number_in sc_number_in h (fun _ _ _ _ _ _ us hl => match us, hl with | [_], _ => rfl) fun cdv A outer s H E hr => ?_
  exact (pss_cons (ps_set (i := 1) nd rfl (Or.inl rfl) (pe_ifExp (pt_cmpR op_eq (pe_slice sl_str (pv 0) po_none (po_some pe_int)) pe_str (nomark _)) (pe_slice sl_str (pv 0) (po_some pe_int) po_none) (pv 0)))
      (pss_cons (ps_if (PW.pt (pw_or (pt_cmpR op_eq (pv 1) pe_str (nomark _)) (pw_or (pt_cmpR oq_gt (pe_callB cq_len rfl T.f_len boot_len (pa_cons (pv 1) pa_nil)) (pe_gI rfl T.v_MOST_FIGURES) (nomark _)) (pw_or1 (pt_not (pt_val (pe_callB (cr_all rfl) rfl T.f_all boot_all (pa_cons (pe_lc (own := [("sign", 2)]) (g := (gName 2)) (tt := tYes) rfl nd (pi_str (pv 1)) (blkOk_by (own := [("sign", 2)]) (N := ["text", "figures", "sign"]) (sc := defScope s_number_in) (by decide +kernel)) (fun _ _ _ _ _ => (pg_name (i := 2) nd rfl (Or.inl rfl))) (fun _ _ _ _ _ => pts_nil) (fun _ _ _ _ _ => (pe_cmpR oq_inC (pv 2) (pe_gS rfl T.v_FIGURES) (by rfl)))) pa_nil)))))))) (pss_one (ps_ret pe_non)) pss_nil)
      (pss_one (ps_ret (pe_callTy cq_int rfl T.f_int boot_int (pa_cons (pv 0) pa_nil))))))
/-! ### entry_in: slots text, key, equals, worth -/
def t_entry_in (K : PySem.W.Frag) : TS :=
  (tSeq (tAsg (tM1 qPart (tVar 0) (tC (.str "="))) (gTup K 3 (gCons (gName 1) (gCons (gName 2) (gCons (gName 3) gNil))))) (tRet (tTup (tCons (tVar 1) (tCons (tCall (sp_number_in K) [] E0 (tCons (tVar 3) tNil)) tNil)))))
theorem sc_entry_in : FnScope ["text", "key", "equals", "worth"] ["text"] (defScope s_entry_in) := ⟨rfl, rfl, rfl, by decide +kernel, rfl, by decide +kernel, by decide +kernel⟩
theorem ok_entry_in {P : Program} {w : World} {K : PySem.W.Frag} {mg : Str → Option Value} {base : Heap} (T : Gs K mg) (G_number_in : OkF P w K mg base "number_in" 1 ["text"] (sp_number_in K)) (h : SemD K (C_entry_in) (t_entry_in K) 1 4) : OkF P w K mg base "entry_in" 2 ["text"] (sp_entry_in K) := by
  have nd := sc_entry_in.nd
  refine T.d_entry_in.okD T.g_entry_in sc_entry_in h (fun _ _ _ _ _ _ us hl => match us, hl with | [_], _ => rfl) fun cdv A outer s H E hr => ?_
  exact (pss_cons (ps_asg (pe_partition (pv 0) pe_str) (pg_tup rfl (pgs_cons (pg_name (i := 1) nd rfl (Or.inl rfl)) (pgs_cons (pg_name (i := 2) nd rfl (Or.inl rfl)) (pgs_cons (pg_name (i := 3) nd rfl (Or.inl rfl)) pgs_nil)))))
      (pss_one (ps_ret (pe_tup (pa_cons (pv 1) (pa_cons (pe_cf G_number_in (hr.mono (by decide)) rfl (pa_cons (pv 3) pa_nil)) pa_nil))))))
/-! ### content_in: slots text, parts, entries, part -/
def t_content_in (K : PySem.W.Frag) : TS :=
  (tSeq (tAsg (tM1 qSplit (tVar 0) (tC (.str "/"))) (gName 1)) (tSeq (tIfS (tTest (tOp rEq (tVar 0) (tC (.str "-")))) (tRet (tC .non)) tNext) (tSeq (tIfS (tTest (tOp rNe (tCB (qLen K) (tCons (tVar 1) tNil)) (tC (.int 3)))) (tRet (tVar 0)) tNext) (tSeq (tAsg (tIf (tTest (tOp rNe (tOp (rIx K) (tVar 1) (tC (.int 1))) (tC (.str "")))) (tCB (qTup K) (tCons (tLc (iList K (tM1 qSplit (tOp (rIx K) (tVar 1) (tC (.int 1))) (tC (.str ",")))) (gName 3) tYes (tCall (sp_entry_in K) [] E0 (tCons (tVar 3) tNil)) [3]) tNil)) (tTup tNil)) (gName 2)) (tRet (tTup (tCons (tOp (rIx K) (tVar 1) (tC (.int 0))) (tCons (tVar 2) (tCons (tIf (tTest (tOp rEq (tOp (rIx K) (tVar 1) (tC (.int 2))) (tC (.str "-")))) (tC .non) (tCall (sp_number_in K) [] E0 (tCons (tOp (rIx K) (tVar 1) (tC (.int 2))) tNil))) tNil)))))))))
theorem sc_content_in : FnScope ["text", "parts", "entries", "part"] ["text"] (defScope s_content_in) := ⟨rfl, rfl, rfl, by decide +kernel, rfl, by decide +kernel, by decide +kernel⟩
theorem ok_content_in {P : Program} {w : World} {K : PySem.W.Frag} {mg : Str → Option Value} {base : Heap} (T : Gs K mg) (G_number_in : OkF P w K mg base "number_in" 1 ["text"] (sp_number_in K)) (G_entry_in : OkF P w K mg base "entry_in" 2 ["text"] (sp_entry_in K)) (h : SemD K (C_content_in) (t_content_in K) 1 4) : OkF P w K mg base "content_in" 3 ["text"] (sp_content_in K) := by
  have nd := sc_content_in.nd
  refine T.d_content_in.okD T.g_content_in sc_content_in h (fun _ _ _ _ _ _ us hl => match us, hl with | [_], _ => rfl) fun cdv A outer s H E hr => ?_
  exact (pss_cons (ps_set (i := 1) nd rfl (Or.inl rfl) (pe_split (pv 0) pe_str))
      (pss_cons (ps_if (pt_cmpR op_eq (pv 0) pe_str (nomark _)) (pss_one (ps_ret pe_non)) pss_nil)
      (pss_cons (ps_if (pt_cmpR op_ne (pe_callB cq_len rfl T.f_len boot_len (pa_cons (pv 1) pa_nil)) pe_int (nomark _)) (pss_one (ps_ret (pv 0))) pss_nil)
      (pss_cons (ps_set (i := 2) nd rfl (Or.inl rfl) (pe_ifExp (pt_cmpR op_ne (pe_ix ix_seq (pv 1) pe_int (fun _ _ => rfl)) pe_str (nomark _)) (pe_callTy cq_tup rfl T.f_tuple boot_tuple (pa_cons (pe_lc (own := [("part", 3)]) (g := (gName 3)) (tt := tYes) rfl nd (pi_list (pe_split (pe_ix ix_seq (pv 1) pe_int (fun _ _ => rfl)) pe_str)) (blkOk_by (own := [("part", 3)]) (N := ["text", "parts", "entries", "part"]) (sc := defScope s_content_in) (by decide +kernel)) (fun _ _ _ _ _ => (pg_name (i := 3) nd rfl (Or.inl rfl))) (fun _ _ _ _ _ => pts_nil) (fun _ _ _ _ _ => (pe_cf G_entry_in (hr.mono (by decide)) rfl (pa_cons (pv 3) pa_nil)))) pa_nil)) (pe_tup pa_nil)))
      (pss_one (ps_ret (pe_tup (pa_cons (pe_ix ix_seq (pv 1) pe_int (fun _ _ => rfl)) (pa_cons (pv 2) (pa_cons (pe_ifExp (pt_cmpR op_eq (pe_ix ix_seq (pv 1) pe_int (fun _ _ => rfl)) pe_str (nomark _)) pe_non (pe_cf G_number_in (hr.mono (by decide)) rfl (pa_cons (pe_ix ix_seq (pv 1) pe_int (fun _ _ => rfl)) pa_nil))) pa_nil))))))))))
/-! ### row_in: slots text, parts, numbers, part, row -/
def t_row_in (K : PySem.W.Frag) : TS :=
  (tSeq (tAsg (tM1 qSplit (tVar 0) (tC (.str " "))) (gName 1)) (tSeq (tAsg (tLc (iList K (tVar 1)) (gName 3) tYes (tCall (sp_number_in K) [] E0 (tCons (tVar 3) tNil)) [3]) (gName 2)) (tSeq (tAsg (tC .non) (gName 4)) (tSeq (tIfS (tAnd (tTest (tOp (rIn K false) (tOp (rIx K) (tVar 1) (tC (.int 0))) (tC (.ref (He.ga K "NUMBERED"))))) (tTest (tOp qGt (tCB (qLen K) (tCons (tVar 1) tNil)) (tC (.int 3))))) (tAsg (tOp (rCatA K) (tOp (rCatA K) (tTup (tCons (tOp (rIx K) (tVar 1) (tC (.int 0))) tNil)) (tCB (qTup K) (tCons (tSl (rSlL K) (tVar 2) (tPart (tC (.int 1))) (tPart (tC (.int 3)))) tNil))) (tCB (qTup K) (tCons (tLc (iList K (tSl (rSlL K) (tVar 1) (tPart (tC (.int 3))) tNoPart)) (gName 3) tYes (tCall (sp_content_in K) [] E0 (tCons (tVar 3) tNil)) [3]) tNil))) (gName 4)) (tIfS (tAnd (tTest (tOp rEq (tOp (rIx K) (tVar 1) (tC (.int 0))) (tC (.str "op")))) (tTest (tOp qGt (tCB (qLen K) (tCons (tVar 1) tNil)) (tC (.int 4))))) (tAsg (tOp (rCatA K) (tOp (rCatA K) (tTup (tCons (tC (.str "op")) tNil)) (tCB (qTup K) (tCons (tSl (rSlL K) (tVar 2) (tPart (tC (.int 1))) (tPart (tC (.int 3)))) tNil))) (tTup (tCons (tOp (rCatA K) (tTup (tCons (tOp (rIx K) (tVar 1) (tC (.int 3))) (tCons (tOp (rIx K) (tVar 1) (tC (.int 4))) tNil))) (tCB (qTup K) (tCons (tSl (rSlL K) (tVar 2) (tPart (tC (.int 5))) tNoPart) tNil))) tNil))) (gName 4)) (tIfS (tAnd (tTest (tOp rEq (tOp (rIx K) (tVar 1) (tC (.int 0))) (tC (.str "end")))) (tTest (tOp rEq (tCB (qLen K) (tCons (tVar 1) tNil)) (tC (.int 3))))) (tAsg (tTup (tCons (tC (.str "end")) (tCons (tOp (rIx K) (tVar 2) (tC (.int 1))) (tCons (tOp (rIx K) (tVar 1) (tC (.int 2))) tNil)))) (gName 4)) (tIfS (tTest (tOp (rIn K false) (tOp (rIx K) (tVar 1) (tC (.int 0))) (tTup (tCons (tC (.str "start")) (tCons (tC (.str "comp")) tNil))))) (tAsg (tOp (rCatA K) (tTup (tCons (tOp (rIx K) (tVar 1) (tC (.int 0))) tNil)) (tCB (qTup K) (tCons (tSl (rSlL K) (tVar 2) (tPart (tC (.int 1))) tNoPart) tNil))) (gName 4)) tNext)))) (tRet (tIf (tAnd (tTest (tOp qNotN (tVar 4) (tC .non))) (tAnd (tB (tCall (sp_is_row_value K) [] E0 (tCons (tVar 4) tNil))) (tTest (tOp rEq (tCall (sp_text_of_row K) [] E0 (tCons (tVar 4) tNil)) (tVar 0))))) (tVar 4) (tC .non)))))))
theorem sc_row_in : FnScope ["text", "parts", "numbers", "part", "row"] ["text"] (defScope s_row_in) := ⟨rfl, rfl, rfl, by decide +kernel, rfl, by decide +kernel, by decide +kernel⟩
theorem ok_row_in {P : Program} {w : World} {K : PySem.W.Frag} {mg : Str → Option Value} {base : Heap} (T : Gs K mg) (G_number_in : OkF P w K mg base "number_in" 1 ["text"] (sp_number_in K)) (G_is_row_value : OkF P w K mg base "is_row_value" 4 ["thing"] (sp_is_row_value K)) (G_text_of_row : OkF P w K mg base "text_of_row" 2 ["row"] (sp_text_of_row K)) (G_content_in : OkF P w K mg base "content_in" 3 ["text"] (sp_content_in K)) (h : SemD K (C_row_in) (t_row_in K) 1 5) : OkF P w K mg base "row_in" 5 ["text"] (sp_row_in K) := by
  have nd := sc_row_in.nd
  refine T.d_row_in.okD T.g_row_in sc_row_in h (fun _ _ _ _ _ _ us hl => match us, hl with | [_], _ => rfl) fun cdv A outer s H E hr => ?_
  exact (pss_cons (ps_set (i := 1) nd rfl (Or.inl rfl) (pe_split (pv 0) pe_str))
      (pss_cons (ps_setLc (i := 2) (own := [("part", 3)]) (g := (gName 3)) (tt := tYes) rfl nd rfl rfl (sw_true rfl rfl rfl (by decide +kernel)) (pi_list (pv 1)) (blkOk_by (own := [("part", 3)]) (N := ["text", "parts", "numbers", "part", "row"]) (sc := defScope s_row_in) (by decide +kernel)) (fun _ _ _ _ _ => (pg_name (i := 3) nd rfl (Or.inl rfl))) (fun _ _ _ _ _ => pts_nil) (fun _ _ _ _ _ => (pe_cf G_number_in (hr.mono (by decide)) rfl (pa_cons (pv 3) pa_nil))))
      (pss_cons (ps_set (i := 4) nd rfl (Or.inl rfl) pe_non)
      (pss_cons (ps_if (PW.pt (pw_and (pt_cmpR op_in_seq (pe_ix ix_seq (pv 1) pe_int (fun _ _ => rfl)) (pe_gR rfl T.g_NUMBERED) (by rfl)) (pw_and1 (pt_cmpR oq_gt (pe_callB cq_len rfl T.f_len boot_len (pa_cons (pv 1) pa_nil)) pe_int (nomark _))))) (pss_one (ps_set (i := 4) nd rfl (Or.inl rfl) (pe_op op_catA (pe_op op_catA (pe_tup (pa_cons (pe_ix ix_seq (pv 1) pe_int (fun _ _ => rfl)) pa_nil)) (pe_callTy cq_tup rfl T.f_tuple boot_tuple (pa_cons (pe_slice sl_list (pv 2) (po_some pe_int) (po_some pe_int)) pa_nil))) (pe_callTy cq_tup rfl T.f_tuple boot_tuple (pa_cons (pe_lc (own := [("part", 3)]) (g := (gName 3)) (tt := tYes) rfl nd (pi_list (pe_slice sl_list (pv 1) (po_some pe_int) po_none)) (blkOk_by (own := [("part", 3)]) (N := ["text", "parts", "numbers", "part", "row"]) (sc := defScope s_row_in) (by decide +kernel)) (fun _ _ _ _ _ => (pg_name (i := 3) nd rfl (Or.inl rfl))) (fun _ _ _ _ _ => pts_nil) (fun _ _ _ _ _ => (pe_cf G_content_in (hr.mono (by decide)) rfl (pa_cons (pv 3) pa_nil)))) pa_nil))))) (pss_one (ps_if (PW.pt (pw_and (pt_cmpR op_eq (pe_ix ix_seq (pv 1) pe_int (fun _ _ => rfl)) pe_str (nomark _)) (pw_and1 (pt_cmpR oq_gt (pe_callB cq_len rfl T.f_len boot_len (pa_cons (pv 1) pa_nil)) pe_int (nomark _))))) (pss_one (ps_set (i := 4) nd rfl (Or.inl rfl) (pe_op op_catA (pe_op op_catA (pe_tup (pa_cons pe_str pa_nil)) (pe_callTy cq_tup rfl T.f_tuple boot_tuple (pa_cons (pe_slice sl_list (pv 2) (po_some pe_int) (po_some pe_int)) pa_nil))) (pe_tup (pa_cons (pe_op op_catA (pe_tup (pa_cons (pe_ix ix_seq (pv 1) pe_int (fun _ _ => rfl)) (pa_cons (pe_ix ix_seq (pv 1) pe_int (fun _ _ => rfl)) pa_nil))) (pe_callTy cq_tup rfl T.f_tuple boot_tuple (pa_cons (pe_slice sl_list (pv 2) (po_some pe_int) po_none) pa_nil))) pa_nil))))) (pss_one (ps_if (PW.pt (pw_and (pt_cmpR op_eq (pe_ix ix_seq (pv 1) pe_int (fun _ _ => rfl)) pe_str (nomark _)) (pw_and1 (pt_cmpR op_eq (pe_callB cq_len rfl T.f_len boot_len (pa_cons (pv 1) pa_nil)) pe_int (nomark _))))) (pss_one (ps_set (i := 4) nd rfl (Or.inl rfl) (pe_tup (pa_cons pe_str (pa_cons (pe_ix ix_seq (pv 2) pe_int (fun _ _ => rfl)) (pa_cons (pe_ix ix_seq (pv 1) pe_int (fun _ _ => rfl)) pa_nil)))))) (pss_one (ps_if (pt_cmpR op_in_seq (pe_ix ix_seq (pv 1) pe_int (fun _ _ => rfl)) (pe_tup (pa_cons pe_str (pa_cons pe_str pa_nil))) (by rfl)) (pss_one (ps_set (i := 4) nd rfl (Or.inl rfl) (pe_op op_catA (pe_tup (pa_cons (pe_ix ix_seq (pv 1) pe_int (fun _ _ => rfl)) pa_nil)) (pe_callTy cq_tup rfl T.f_tuple boot_tuple (pa_cons (pe_slice sl_list (pv 2) (po_some pe_int) po_none) pa_nil))))) pss_nil)))))))
      (pss_one (ps_ret (pe_ifExp (PW.pt (pw_and (pt_cmpR oq_notN (pv 4) pe_non (nomark _)) (pw_and (pt_val (pe_cf G_is_row_value (hr.mono (by decide)) rfl (pa_cons (pv 4) pa_nil))) (pw_and1 (pt_cmpR op_eq (pe_cf G_text_of_row (hr.mono (by decide)) rfl (pa_cons (pv 4) pa_nil)) (pv 0) (nomark _)))))) (pv 4) pe_non)))))))
end K61
end

section
set_option Elab.async false
set_option linter.all false
set_option maxRecDepth 100000
set_option maxHeartbeats 4000000
namespace K61
open PySem PySem.Spec PyProof.Rows L2
/-! ### _law_is_int: slots _law_thing -/
def t_law_is_int (K : PySem.W.Frag) : TS :=
  (tRet (tAndV (tCB (rIsi K) (tCons (tVar 0) (tCons (tC (.ty "int")) tNil))) (tNotV (tCB (rIsi K) (tCons (tVar 0) (tCons (tC (.ty "bool")) tNil))))))
theorem sc_law_is_int : FnScope ["_law_thing"] ["_law_thing"] (defScope s_law_is_int) := ⟨rfl, rfl, rfl, by decide +kernel, rfl, by decide +kernel, by decide +kernel⟩
theorem ok_law_is_int {P : Program} {w : World} {K : PySem.W.Frag} {mg : Str → Option Value} {base : Heap} (T : Gs K mg) (h : SemD K (C_law_is_int) (t_law_is_int K) 1 1) : OkF P w K mg base "_law_is_int" 1 ["_law_thing"] (sp_law_is_int K) := by
  have nd := sc_law_is_int.nd
  refine T.d_law_is_int.okD T.g_law_is_int sc_law_is_int h (fun _ _ _ _ _ _ us hl => match us, hl with | [_], _ => rfl) fun cdv A outer s H E hr => ?_
  exact (pss_one (ps_ret (pe_and (pe_callB call_isi rfl T.f_isinstance boot_isinstance (pa_cons (pv 0) (pa_cons (pe_bltn rfl T.f_int boot_int rfl) pa_nil))) (pe_one (pe_not (pe_callB call_isi rfl T.f_isinstance boot_isinstance (pa_cons (pv 0) (pa_cons (pe_bltn rfl T.f_bool boot_bool rfl) pa_nil))))))))
/-! ### _law_is_from: slots _law_thing, _law_low -/
def t_law_is_from (K : PySem.W.Frag) : TS :=
  (tRet (tAndV (tCall (sp_law_is_int K) [] E0 (tCons (tVar 0) tNil)) (tOp qGe (tVar 0) (tVar 1))))
theorem sc_law_is_from : FnScope ["_law_thing", "_law_low"] ["_law_thing", "_law_low"] (defScope s_law_is_from) := ⟨rfl, rfl, rfl, by decide +kernel, rfl, by decide +kernel, by decide +kernel⟩
theorem ok_law_is_from {P : Program} {w : World} {K : PySem.W.Frag} {mg : Str → Option Value} {base : Heap} (T : Gs K mg) (G_law_is_int : OkF P w K mg base "_law_is_int" 1 ["_law_thing"] (sp_law_is_int K)) (h : SemD K (C_law_is_from) (t_law_is_from K) 2 2) : OkF P w K mg base "_law_is_from" 2 ["_law_thing", "_law_low"] (sp_law_is_from K) := by
  have nd := sc_law_is_from.nd
  refine T.d_law_is_from.okD T.g_law_is_from sc_law_is_from h (fun _ _ _ _ _ _ us hl => match us, hl with | [_, _], _ => rfl) fun cdv A outer s H E hr => ?_
  exact (pss_one (ps_ret (pe_and (pe_cf G_law_is_int (hr.mono (by decide)) rfl (pa_cons (pv 0) pa_nil)) (pe_one (pe_cmpR oq_ge (pv 0) (pv 1) (nomark _))))))
/-! ### _law_is_key: slots _law_thing, _law_sign -/
def t_law_is_key (K : PySem.W.Frag) : TS :=
  (tSeq (tIfS (tOr (tNot (tB (tCB (rIsi K) (tCons (tVar 0) (tCons (tC (.ty "str")) tNil))))) (tNot (tTest (tChain qLe qLe (tC (.int 1)) (tCB (qLen K) (tCons (tVar 0) tNil)) (tC (.int 9)))))) (tRet (tC (.bl false))) tNext) (tRet (tOp (rEqD K) (tLc (iStr (tVar 0)) (gName 1) (tTest (tOp qNotInC (tVar 1) (tC (.str "abcdefghijklmnopqrstuvwxyz")))) (tC (.int 1)) [1]) (tLst tNil))))
theorem sc_law_is_key : FnScope ["_law_thing", "_law_sign"] ["_law_thing"] (defScope s_law_is_key) := ⟨rfl, rfl, rfl, by decide +kernel, rfl, by decide +kernel, by decide +kernel⟩
theorem ok_law_is_key {P : Program} {w : World} {K : PySem.W.Frag} {mg : Str → Option Value} {base : Heap} (T : Gs K mg) (h : SemD K (C_law_is_key) (t_law_is_key K) 1 2) : OkF P w K mg base "_law_is_key" 1 ["_law_thing"] (sp_law_is_key K) := by
  have nd := sc_law_is_key.nd
  refine T.d_law_is_key.okD T.g_law_is_key sc_law_is_key h (fun _ _ _ _ _ _ us hl => match us, hl with | [_], _ => rfl) fun cdv A outer s H E hr => ?_
  exact (pss_cons (ps_if (PW.pt (pw_or (pt_not (pt_val (pe_callB call_isi rfl T.f_isinstance boot_isinstance (pa_cons (pv 0) (pa_cons (pe_bltn rfl T.f_str boot_str rfl) pa_nil))))) (pw_or1 (pt_not (pt_chain oq_le oq_le pe_int (pe_callB cq_len rfl T.f_len boot_len (pa_cons (pv 0) pa_nil)) pe_int))))) (pss_one (ps_ret pe_bl)) pss_nil)
      (pss_one (ps_ret (pe_cmpR (op_eqD hr.units) (pe_lc (own := [("_law_sign", 1)]) (g := (gName 1)) (tt := (tTest (tOp qNotInC (tVar 1) (tC (.str "abcdefghijklmnopqrstuvwxyz"))))) rfl nd (pi_str (pv 0)) (blkOk_by (own := [("_law_sign", 1)]) (N := ["_law_thing", "_law_sign"]) (sc := defScope s_law_is_key) (by decide +kernel)) (fun _ _ _ _ _ => (pg_name (i := 1) nd rfl (Or.inl rfl))) (fun _ _ _ _ _ => (pts_one (pt_cmpR oq_notInC (pv 1) pe_str (by rfl)))) (fun _ _ _ _ _ => pe_int)) (pe_lst pa_nil) (nomark _)))))
/-! ### _law_is_operation: slots _law_thing, _law_many, _law_part -/
def t_law_is_operation (K : PySem.W.Frag) : TS :=
  (tSeq (tIfS (tOr (tNot (tB (tCB (rIsi K) (tCons (tVar 0) (tCons (tC (.ty "tuple")) tNil))))) (tOr (tTest (tOp qLt (tCB (qLen K) (tCons (tVar 0) tNil)) (tC (.int 2)))) (tOr (tNot (tB (tCB (rIsi K) (tCons (tOp (rIx K) (tVar 0) (tC (.int 0))) (tCons (tC (.ty "str")) tNil))))) (tNot (tB (tCall (sp_law_is_key K) [] E0 (tCons (tOp (rIx K) (tVar 0) (tC (.int 1))) tNil))))))) (tRet (tC (.bl false))) tNext) (tSeq (tAsg (tDGet2 (tDisp (litT [("read", .int 2), ("add", .int 3), ("set", .int 4)])) (tOp (rIx K) (tVar 0) (tC (.int 0))) (tC (.int 0))) (gName 1)) (tRet (tAndV (tOp rEq (tCB (qLen K) (tCons (tVar 0) tNil)) (tVar 1)) (tOp (rEqD K) (tLc (iTup K (tSl (rSlA K) (tVar 0) (tPart (tC (.int 2))) tNoPart)) (gName 2) (tNot (tB (tCall (sp_law_is_int K) [] E0 (tCons (tVar 2) tNil)))) (tC (.int 1)) [2]) (tLst tNil))))))
theorem sc_law_is_operation : FnScope ["_law_thing", "_law_many", "_law_part"] ["_law_thing"] (defScope s_law_is_operation) := ⟨rfl, rfl, rfl, by decide +kernel, rfl, by decide +kernel, by decide +kernel⟩
theorem ok_law_is_operation {P : Program} {w : World} {K : PySem.W.Frag} {mg : Str → Option Value} {base : Heap} (T : Gs K mg) (G_law_is_key : OkF P w K mg base "_law_is_key" 1 ["_law_thing"] (sp_law_is_key K)) (G_law_is_int : OkF P w K mg base "_law_is_int" 1 ["_law_thing"] (sp_law_is_int K)) (h : SemD K (C_law_is_operation) (t_law_is_operation K) 1 3) : OkF P w K mg base "_law_is_operation" 2 ["_law_thing"] (sp_law_is_operation K) := by
  have nd := sc_law_is_operation.nd
  refine T.d_law_is_operation.okD T.g_law_is_operation sc_law_is_operation h (fun _ _ _ _ _ _ us hl => match us, hl with | [_], _ => rfl) fun cdv A outer s H E hr => ?_
  exact (pss_cons (ps_if (PW.pt (pw_or (pt_not (pt_val (pe_callB call_isi rfl T.f_isinstance boot_isinstance (pa_cons (pv 0) (pa_cons (pe_bltn rfl T.f_tuple boot_tuple rfl) pa_nil))))) (pw_or (pt_cmpR oq_lt (pe_callB cq_len rfl T.f_len boot_len (pa_cons (pv 0) pa_nil)) pe_int (nomark _)) (pw_or (pt_not (pt_val (pe_callB call_isi rfl T.f_isinstance boot_isinstance (pa_cons (pe_ix ix_seq (pv 0) pe_int (fun _ _ => rfl)) (pa_cons (pe_bltn rfl T.f_str boot_str rfl) pa_nil))))) (pw_or1 (pt_not (pt_val (pe_cf G_law_is_key (hr.mono (by decide)) rfl (pa_cons (pe_ix ix_seq (pv 0) pe_int (fun _ _ => rfl)) pa_nil))))))))) (pss_one (ps_ret pe_bl)) pss_nil)
      (pss_cons (ps_set (i := 1) nd rfl (Or.inl rfl) (pe_dget2 (hu_of hr) (pe_disp (pps_cons pe_str pe_int (pps_cons pe_str pe_int (pps_cons pe_str pe_int pps_nil))) rfl rfl (fun z => by cases z) (by decide)) (pe_ix ix_seq (pv 0) pe_int (fun _ _ => rfl)) pe_int ⟨rfl, rfl, rfl, rfl⟩))
      (pss_one (ps_ret (pe_and (pe_cmpR op_eq (pe_callB cq_len rfl T.f_len boot_len (pa_cons (pv 0) pa_nil)) (pv 1) (nomark _)) (pe_one (pe_cmpR (op_eqD hr.units) (pe_lc (own := [("_law_part", 2)]) (g := (gName 2)) (tt := (tNot (tB (tCall (sp_law_is_int K) [] E0 (tCons (tVar 2) tNil))))) rfl nd (pi_tup (pe_slice sl_tupA (pv 0) (po_some pe_int) po_none)) (blkOk_by (own := [("_law_part", 2)]) (N := ["_law_thing", "_law_many", "_law_part"]) (sc := defScope s_law_is_operation) (by decide +kernel)) (fun _ _ _ _ _ => (pg_name (i := 2) nd rfl (Or.inl rfl))) (fun _ _ _ _ _ => (pts_one (pt_not (pt_val (pe_cf G_law_is_int (hr.mono (by decide)) rfl (pa_cons (pv 2) pa_nil)))))) (fun _ _ _ _ _ => pe_int)) (pe_lst pa_nil) (nomark _))))))))
/-! ### _law_is_content: slots _law_thing, _law_low, _law_entries, _law_after, _law_pair, _law_keys, _law_key_here, _law_worth_here -/
def t_law_is_content (K : PySem.W.Frag) : TS :=
  (tSeq (tIfS (tTest (tOp qIsN (tVar 0) (tC .non))) (tRet (tC (.bl true))) tNext) (tSeq (tIfS (tOr (tNot (tB (tCB (rIsi K) (tCons (tVar 0) (tCons (tC (.ty "tuple")) tNil))))) (tOr (tTest (tOp rNe (tCB (qLen K) (tCons (tVar 0) tNil)) (tC (.int 3)))) (tOr (tNot (tB (tCB (rIsi K) (tCons (tOp (rIx K) (tVar 0) (tC (.int 1))) (tCons (tC (.ty "tuple")) tNil))))) (tTest (tOp qGt (tCB (qLen K) (tCons (tOp (rIx K) (tVar 0) (tC (.int 1))) tNil)) (tC (.int 3))))))) (tRet (tC (.bl false))) tNext) (tSeq (tAsg (tVar 0) (gTup K 3 (gCons (gName 1) (gCons (gName 2) (gCons (gName 3) gNil))))) (tSeq (tIfS (tOr (tNot (tB (tCB (rIsi K) (tCons (tVar 1) (tCons (tC (.ty "str")) tNil))))) (tOr (tAnd (tTest (tOp rNe (tVar 1) (tC (.str "")))) (tNot (tB (tCall (sp_law_is_key K) [] E0 (tCons (tVar 1) tNil))))) (tAnd (tTest (tOp qNotN (tVar 3) (tC .non))) (tNot (tB (tCall (sp_law_is_from K) [] E0 (tCons (tVar 3) (tCons (tC (.int 0)) tNil)))))))) (tRet (tC (.bl false))) tNext) (tSeq (tFor (iTup K (tVar 2)) (gName 4) (tIfS (tOr (tNot (tB (tCB (rIsi K) (tCons (tVar 4) (tCons (tC (.ty "tuple")) tNil))))) (tOr (tTest (tOp rNe (tCB (qLen K) (tCons (tVar 4) tNil)) (tC (.int 2)))) (tOr (tNot (tB (tCall (sp_law_is_key K) [] E0 (tCons (tOp (rIx K) (tVar 4) (tC (.int 0))) tNil)))) (tNot (tB (tCall (sp_law_is_int K) [] E0 (tCons (tOp (rIx K) (tVar 4) (tC (.int 1))) tNil))))))) (tRet (tC (.bl false))) tNext)) (tSeq (tAsg (tLc (iTup K (tVar 2)) (gName 4) tYes (tOp (rIx K) (tVar 4) (tC (.int 0))) [4]) (gName 5)) (tRet (tAndV (tOp (rEqD K) (tVar 5) (tSortSet K (tVar 5))) (tOp (rEqD K) (tLc (iTup K (tVar 2)) (gTup K 2 (gCons (gName 6) (gCons (gName 7) gNil))) (tOr (tTest (tOp rEq (tVar 7) (tC (.int 0)))) (tTest (tOp qLtS (tVar 6) (tVar 1)))) (tC (.int 1)) [6, 7]) (tLst tNil))))))))))
theorem sc_law_is_content : FnScope ["_law_thing", "_law_low", "_law_entries", "_law_after", "_law_pair", "_law_keys", "_law_key_here", "_law_worth_here"] ["_law_thing"] (defScope s_law_is_content) := ⟨rfl, rfl, rfl, by decide +kernel, rfl, by decide +kernel, by decide +kernel⟩
theorem ok_law_is_content {P : Program} {w : World} {K : PySem.W.Frag} {mg : Str → Option Value} {base : Heap} (T : Gs K mg) (G_law_is_key : OkF P w K mg base "_law_is_key" 1 ["_law_thing"] (sp_law_is_key K)) (G_law_is_from : OkF P w K mg base "_law_is_from" 2 ["_law_thing", "_law_low"] (sp_law_is_from K)) (G_law_is_int : OkF P w K mg base "_law_is_int" 1 ["_law_thing"] (sp_law_is_int K)) (h : SemD K (C_law_is_content) (t_law_is_content K) 1 8) : OkF P w K mg base "_law_is_content" 3 ["_law_thing"] (sp_law_is_content K) := by
  have nd := sc_law_is_content.nd
  refine T.d_law_is_content.okD T.g_law_is_content sc_law_is_content h (fun _ _ _ _ _ _ us hl => match us, hl with | [_], _ => rfl) fun cdv A outer s H E hr => ?_
  exact (pss_cons (ps_if (pt_cmpR oq_isN (pv 0) pe_non (nomark _)) (pss_one (ps_ret pe_bl)) pss_nil)
      (pss_cons (ps_if (PW.pt (pw_or (pt_not (pt_val (pe_callB call_isi rfl T.f_isinstance boot_isinstance (pa_cons (pv 0) (pa_cons (pe_bltn rfl T.f_tuple boot_tuple rfl) pa_nil))))) (pw_or (pt_cmpR op_ne (pe_callB cq_len rfl T.f_len boot_len (pa_cons (pv 0) pa_nil)) pe_int (nomark _)) (pw_or (pt_not (pt_val (pe_callB call_isi rfl T.f_isinstance boot_isinstance (pa_cons (pe_ix ix_seq (pv 0) pe_int (fun _ _ => rfl)) (pa_cons (pe_bltn rfl T.f_tuple boot_tuple rfl) pa_nil))))) (pw_or1 (pt_cmpR oq_gt (pe_callB cq_len rfl T.f_len boot_len (pa_cons (pe_ix ix_seq (pv 0) pe_int (fun _ _ => rfl)) pa_nil)) pe_int (nomark _))))))) (pss_one (ps_ret pe_bl)) pss_nil)
      (pss_cons (ps_asg (pv 0) (pg_tup rfl (pgs_cons (pg_name (i := 1) nd rfl (Or.inr rfl)) (pgs_cons (pg_name (i := 2) nd rfl (Or.inl rfl)) (pgs_cons (pg_name (i := 3) nd rfl (Or.inl rfl)) pgs_nil)))))
      (pss_cons (ps_if (PW.pt (pw_or (pt_not (pt_val (pe_callB call_isi rfl T.f_isinstance boot_isinstance (pa_cons (pv 1) (pa_cons (pe_bltn rfl T.f_str boot_str rfl) pa_nil))))) (pw_or (PW.pt (pw_and (pt_cmpR op_ne (pv 1) pe_str (nomark _)) (pw_and1 (pt_not (pt_val (pe_cf G_law_is_key (hr.mono (by decide)) rfl (pa_cons (pv 1) pa_nil))))))) (pw_or1 (PW.pt (pw_and (pt_cmpR oq_notN (pv 3) pe_non (nomark _)) (pw_and1 (pt_not (pt_val (pe_cf G_law_is_from (hr.mono (by decide)) rfl (pa_cons (pv 3) (pa_cons pe_int pa_nil)))))))))))) (pss_one (ps_ret pe_bl)) pss_nil)
      (pss_cons (ps_for PassesOwn.never rfl (pi_tup (pv 2)) (pg_name (i := 4) nd rfl (Or.inl rfl)) (pss_one (ps_if (PW.pt (pw_or (pt_not (pt_val (pe_callB call_isi rfl T.f_isinstance boot_isinstance (pa_cons (pv 4) (pa_cons (pe_bltn rfl T.f_tuple boot_tuple rfl) pa_nil))))) (pw_or (pt_cmpR op_ne (pe_callB cq_len rfl T.f_len boot_len (pa_cons (pv 4) pa_nil)) pe_int (nomark _)) (pw_or (pt_not (pt_val (pe_cf G_law_is_key (hr.mono (by decide)) rfl (pa_cons (pe_ix ix_seq (pv 4) pe_int (fun _ _ => rfl)) pa_nil)))) (pw_or1 (pt_not (pt_val (pe_cf G_law_is_int (hr.mono (by decide)) rfl (pa_cons (pe_ix ix_seq (pv 4) pe_int (fun _ _ => rfl)) pa_nil))))))))) (pss_one (ps_ret pe_bl)) pss_nil)))
      (pss_cons (ps_setLc (i := 5) (own := [("_law_pair", 4)]) (g := (gName 4)) (tt := tYes) rfl nd rfl rfl (sw_true rfl rfl rfl (by decide +kernel)) (pi_tup (pv 2)) (blkOk_by (own := [("_law_pair", 4)]) (N := ["_law_thing", "_law_low", "_law_entries", "_law_after", "_law_pair", "_law_keys", "_law_key_here", "_law_worth_here"]) (sc := defScope s_law_is_content) (by decide +kernel)) (fun _ _ _ _ _ => (pg_name (i := 4) nd rfl (Or.inl rfl))) (fun _ _ _ _ _ => pts_nil) (fun _ _ _ _ _ => (pe_ix ix_seq (pv 4) pe_int (fun _ _ => rfl))))
      (pss_one (ps_ret (pe_and (pe_cmpR (op_eqD hr.units) (pv 5) (pe_sortSet rfl rfl T.f_sorted rfl T.f_set (pv 5)) (nomark _)) (pe_one (pe_cmpR (op_eqD hr.units) (pe_lc (own := [("_law_key_here", 6), ("_law_worth_here", 7)]) (g := (gTup K 2 (gCons (gName 6) (gCons (gName 7) gNil)))) (tt := (tOr (tTest (tOp rEq (tVar 7) (tC (.int 0)))) (tTest (tOp qLtS (tVar 6) (tVar 1))))) rfl nd (pi_tup (pv 2)) (blkOk_by (own := [("_law_key_here", 6), ("_law_worth_here", 7)]) (N := ["_law_thing", "_law_low", "_law_entries", "_law_after", "_law_pair", "_law_keys", "_law_key_here", "_law_worth_here"]) (sc := defScope s_law_is_content) (by decide +kernel)) (fun _ _ _ _ _ => (pg_tup rfl (pgs_cons (pg_name (i := 6) nd rfl (Or.inl rfl)) (pgs_cons (pg_name (i := 7) nd rfl (Or.inl rfl)) pgs_nil)))) (fun _ _ _ _ _ => (pts_one (PW.pt (pw_or (pt_cmpR op_eq (pv 7) pe_int (nomark _)) (pw_or1 (pt_cmpR oq_ltS (pv 6) (pv 1) (nomark _))))))) (fun _ _ _ _ _ => pe_int)) (pe_lst pa_nil) (nomark _))))))))))))
/-! ### _law_is_row: slots _law_thing, _law_marks, _law_part, _law_mark -/
def t_law_is_row (K : PySem.W.Frag) : TS :=
  (tSeq (tIfS (tOr (tNot (tB (tCB (rIsi K) (tCons (tVar 0) (tCons (tC (.ty "tuple")) tNil))))) (tOr (tTest (tOp (rEqD K) (tVar 0) (tTup tNil))) (tNot (tB (tCB (rIsi K) (tCons (tOp (rIx K) (tVar 0) (tC (.int 0))) (tCons (tC (.ty "str")) tNil))))))) (tRet (tC (.bl false))) tNext) (tSeq (tAsg (tDGet2 (tDisp (litT [("start", .str "n"), ("page", .str "nncc"), ("unpage", .str "nnc"), ("op", .str "nno"), ("comp", .str "nnn"), ("end", .str "ne")])) (tOp (rIx K) (tVar 0) (tC (.int 0))) (tC (.str "-"))) (gName 1)) (tSeq (tIfS (tOr (tTest (tOp rNe (tCB (qLen K) (tCons (tVar 0) tNil)) (tOp qAdd (tCB (qLen K) (tCons (tVar 1) tNil)) (tC (.int 1))))) (tTest (tOp rEq (tVar 1) (tC (.str "-"))))) (tRet (tC (.bl false))) tNext) (tSeq (tFor (iPt K (tCons (tSl (rSlA K) (tVar 0) (tPart (tC (.int 1))) tNoPart) (tCons (tVar 1) tNil))) (gTup K 2 (gCons (gName 2) (gCons (gName 3) gNil))) (tSeq (tIfS (tOr (tAnd (tTest (tOp rEq (tVar 3) (tC (.str "n")))) (tNot (tB (tCall (sp_law_is_from K) [] E0 (tCons (tVar 2) (tCons (tC (.int 0)) tNil)))))) (tAnd (tTest (tOp rEq (tVar 3) (tC (.str "c")))) (tNot (tB (tCall (sp_law_is_content K) [] E0 (tCons (tVar 2) tNil)))))) (tRet (tC (.bl false))) tNext) (tIfS (tOr (tAnd (tTest (tOp rEq (tVar 3) (tC (.str "o")))) (tNot (tB (tCall (sp_law_is_operation K) [] E0 (tCons (tVar 2) tNil))))) (tAnd (tTest (tOp rEq (tVar 3) (tC (.str "e")))) (tNot (tAnd (tB (tCB (rIsi K) (tCons (tVar 2) (tCons (tC (.ty "str")) tNil)))) (tTest (tOp (rIn K false) (tVar 2) (tTup (tCons (tC (.str "kept")) (tCons (tC (.str "dropped")) tNil))))))))) (tRet (tC (.bl false))) tNext))) (tRet (tC (.bl true)))))))
theorem sc_law_is_row : FnScope ["_law_thing", "_law_marks", "_law_part", "_law_mark"] ["_law_thing"] (defScope s_law_is_row) := ⟨rfl, rfl, rfl, by decide +kernel, rfl, by decide +kernel, by decide +kernel⟩
theorem ok_law_is_row {P : Program} {w : World} {K : PySem.W.Frag} {mg : Str → Option Value} {base : Heap} (T : Gs K mg) (G_law_is_from : OkF P w K mg base "_law_is_from" 2 ["_law_thing", "_law_low"] (sp_law_is_from K)) (G_law_is_content : OkF P w K mg base "_law_is_content" 3 ["_law_thing"] (sp_law_is_content K)) (G_law_is_operation : OkF P w K mg base "_law_is_operation" 2 ["_law_thing"] (sp_law_is_operation K)) (h : SemD K (C_law_is_row) (t_law_is_row K) 1 4) : OkF P w K mg base "_law_is_row" 4 ["_law_thing"] (sp_law_is_row K) := by
  have nd := sc_law_is_row.nd
  refine T.d_law_is_row.okD T.g_law_is_row sc_law_is_row h (fun _ _ _ _ _ _ us hl => match us, hl with | [_], _ => rfl) fun cdv A outer s H E hr => ?_
  exact (pss_cons (ps_if (PW.pt (pw_or (pt_not (pt_val (pe_callB call_isi rfl T.f_isinstance boot_isinstance (pa_cons (pv 0) (pa_cons (pe_bltn rfl T.f_tuple boot_tuple rfl) pa_nil))))) (pw_or (pt_cmpR (op_eqD hr.units) (pv 0) (pe_tup pa_nil) (nomark _)) (pw_or1 (pt_not (pt_val (pe_callB call_isi rfl T.f_isinstance boot_isinstance (pa_cons (pe_ix ix_seq (pv 0) pe_int (fun _ _ => rfl)) (pa_cons (pe_bltn rfl T.f_str boot_str rfl) pa_nil))))))))) (pss_one (ps_ret pe_bl)) pss_nil)
      (pss_cons (ps_set (i := 1) nd rfl (Or.inl rfl) (pe_dget2 (hu_of hr) (pe_disp (pps_cons pe_str pe_str (pps_cons pe_str pe_str (pps_cons pe_str pe_str (pps_cons pe_str pe_str (pps_cons pe_str pe_str (pps_cons pe_str pe_str pps_nil)))))) rfl rfl (fun z => by cases z) (by decide)) (pe_ix ix_seq (pv 0) pe_int (fun _ _ => rfl)) pe_str ⟨rfl, rfl, rfl, rfl⟩))
      (pss_cons (ps_if (PW.pt (pw_or (pt_cmpR op_ne (pe_callB cq_len rfl T.f_len boot_len (pa_cons (pv 0) pa_nil)) (pe_op oq_add (pe_callB cq_len rfl T.f_len boot_len (pa_cons (pv 1) pa_nil)) pe_int) (nomark _)) (pw_or1 (pt_cmpR op_eq (pv 1) pe_str (nomark _))))) (pss_one (ps_ret pe_bl)) pss_nil)
      (pss_cons (ps_for PassesOwn.never rfl (pi_pt rfl T.f_zip (pa_cons (pe_slice sl_tupA (pv 0) (po_some pe_int) po_none) (pa_cons (pv 1) pa_nil))) (pg_tup rfl (pgs_cons (pg_name (i := 2) nd rfl (Or.inl rfl)) (pgs_cons (pg_name (i := 3) nd rfl (Or.inl rfl)) pgs_nil))) (pss_cons (ps_if (PW.pt (pw_or (PW.pt (pw_and (pt_cmpR op_eq (pv 3) pe_str (nomark _)) (pw_and1 (pt_not (pt_val (pe_cf G_law_is_from (hr.mono (by decide)) rfl (pa_cons (pv 2) (pa_cons pe_int pa_nil)))))))) (pw_or1 (PW.pt (pw_and (pt_cmpR op_eq (pv 3) pe_str (nomark _)) (pw_and1 (pt_not (pt_val (pe_cf G_law_is_content (hr.mono (by decide)) rfl (pa_cons (pv 2) pa_nil)))))))))) (pss_one (ps_ret pe_bl)) pss_nil)
      (pss_one (ps_if (PW.pt (pw_or (PW.pt (pw_and (pt_cmpR op_eq (pv 3) pe_str (nomark _)) (pw_and1 (pt_not (pt_val (pe_cf G_law_is_operation (hr.mono (by decide)) rfl (pa_cons (pv 2) pa_nil))))))) (pw_or1 (PW.pt (pw_and (pt_cmpR op_eq (pv 3) pe_str (nomark _)) (pw_and1 (pt_not (PW.pt (pw_and (pt_val (pe_callB call_isi rfl T.f_isinstance boot_isinstance (pa_cons (pv 2) (pa_cons (pe_bltn rfl T.f_str boot_str rfl) pa_nil)))) (pw_and1 (pt_cmpR op_in_seq (pv 2) (pe_tup (pa_cons pe_str (pa_cons pe_str pa_nil))) (by rfl)))))))))))) (pss_one (ps_ret pe_bl)) pss_nil))))
      (pss_one (ps_ret pe_bl))))))
/-! ### _law_content_text: slots _law_content_here, _law_low, _law_entries, _law_after, _law_middle, _law_key_here, _law_worth_here -/
def t_law_content_text (K : PySem.W.Frag) : TS :=
  (tSeq (tIfS (tTest (tOp qIsN (tVar 0) (tC .non))) (tRet (tC (.str "-"))) tNext) (tSeq (tAsg (tVar 0) (gTup K 3 (gCons (gName 1) (gCons (gName 2) (gCons (gName 3) gNil))))) (tSeq (tAsg (tM1 (qJoin K) (tC (.str ",")) (tLc (iTup K (tVar 2)) (gTup K 2 (gCons (gName 5) (gCons (gName 6) gNil))) tYes (tOp qAddS (tOp qAddS (tVar 5) (tC (.str "="))) (tCB qStr (tCons (tVar 6) tNil))) [5, 6])) (gName 4)) (tRet (tOp qAddS (tOp qAddS (tOp qAddS (tOp qAddS (tVar 1) (tC (.str "/"))) (tVar 4)) (tC (.str "/"))) (tIf (tTest (tOp qIsN (tVar 3) (tC .non))) (tC (.str "-")) (tCB qStr (tCons (tVar 3) tNil))))))))
theorem sc_law_content_text : FnScope ["_law_content_here", "_law_low", "_law_entries", "_law_after", "_law_middle", "_law_key_here", "_law_worth_here"] ["_law_content_here"] (defScope s_law_content_text) := ⟨rfl, rfl, rfl, by decide +kernel, rfl, by decide +kernel, by decide +kernel⟩
theorem ok_law_content_text {P : Program} {w : World} {K : PySem.W.Frag} {mg : Str → Option Value} {base : Heap} (T : Gs K mg) (h : SemD K (C_law_content_text) (t_law_content_text K) 1 7) : OkF P w K mg base "_law_content_text" 1 ["_law_content_here"] (sp_law_content_text K) := by
  have nd := sc_law_content_text.nd
  refine T.d_law_content_text.okD T.g_law_content_text sc_law_content_text h (fun _ _ _ _ _ _ us hl => match us, hl with | [_], _ => rfl) fun cdv A outer s H E hr => ?_
  exact (pss_cons (ps_if (pt_cmpR oq_isN (pv 0) pe_non (nomark _)) (pss_one (ps_ret pe_str)) pss_nil)
      (pss_cons (ps_asg (pv 0) (pg_tup rfl (pgs_cons (pg_name (i := 1) nd rfl (Or.inl rfl)) (pgs_cons (pg_name (i := 2) nd rfl (Or.inl rfl)) (pgs_cons (pg_name (i := 3) nd rfl (Or.inl rfl)) pgs_nil)))))
      (pss_cons (ps_set (i := 4) nd rfl (Or.inl rfl) (pe_join pe_str (pe_lc (own := [("_law_key_here", 5), ("_law_worth_here", 6)]) (g := (gTup K 2 (gCons (gName 5) (gCons (gName 6) gNil)))) (tt := tYes) rfl nd (pi_tup (pv 2)) (blkOk_by (own := [("_law_key_here", 5), ("_law_worth_here", 6)]) (N := ["_law_content_here", "_law_low", "_law_entries", "_law_after", "_law_middle", "_law_key_here", "_law_worth_here"]) (sc := defScope s_law_content_text) (by decide +kernel)) (fun _ _ _ _ _ => (pg_tup rfl (pgs_cons (pg_name (i := 5) nd rfl (Or.inl rfl)) (pgs_cons (pg_name (i := 6) nd rfl (Or.inl rfl)) pgs_nil)))) (fun _ _ _ _ _ => pts_nil) (fun _ _ _ _ _ => (pe_op oq_addS (pe_op oq_addS (pv 5) pe_str) (pe_callTy cq_str rfl T.f_str boot_str (pa_cons (pv 6) pa_nil)))))))
      (pss_one (ps_ret (pe_op oq_addS (pe_op oq_addS (pe_op oq_addS (pe_op oq_addS (pv 1) pe_str) (pv 4)) pe_str) (pe_ifExp (pt_cmpR oq_isN (pv 3) pe_non (nomark _)) pe_str (pe_callTy cq_str rfl T.f_str boot_str (pa_cons (pv 3) pa_nil)))))))))
/-! ### _law_row_text: slots _law_row_here, _law_words, _law_part, _law_it -/
def t_law_row_text (K : PySem.W.Frag) : TS :=
  (tSeq (tAsg (tLst tNil) (gName 1)) (tSeq (tFor (iTup K (tVar 0)) (gName 2) (tIfS (tAnd (tTest (tOp (rIn K false) (tOp (rIx K) (tVar 0) (tC (.int 0))) (tTup (tCons (tC (.str "page")) (tCons (tC (.str "unpage")) tNil))))) (tOr (tTest (tOp qIsN (tVar 2) (tC .non))) (tB (tCB (rIsi K) (tCons (tVar 2) (tCons (tC (.ty "tuple")) tNil)))))) (tDrop (tBM K "list" rAppend (tVar 1) (tCons (tCall (sp_law_content_text K) [] E0 (tCons (tVar 2) tNil)) tNil))) (tIfS (tB (tCB (rIsi K) (tCons (tVar 2) (tCons (tC (.ty "tuple")) tNil)))) (tDrop (tBM K "list" rExtend (tVar 1) (tCons (tLc (iTup K (tVar 2)) (gName 3) tYes (tCB qStr (tCons (tVar 3) tNil)) [3]) tNil))) (tDrop (tBM K "list" rAppend (tVar 1) (tCons (tCB qStr (tCons (tVar 2) tNil)) tNil)))))) (tRet (tM1 (qJoin K) (tC (.str " ")) (tVar 1)))))
theorem sc_law_row_text : FnScope ["_law_row_here", "_law_words", "_law_part", "_law_it"] ["_law_row_here"] (defScope s_law_row_text) := ⟨rfl, rfl, rfl, by decide +kernel, rfl, by decide +kernel, by decide +kernel⟩
theorem ok_law_row_text {P : Program} {w : World} {K : PySem.W.Frag} {mg : Str → Option Value} {base : Heap} (T : Gs K mg) (G_law_content_text : OkF P w K mg base "_law_content_text" 1 ["_law_content_here"] (sp_law_content_text K)) (h : SemD K (C_law_row_text) (t_law_row_text K) 1 4) : OkF P w K mg base "_law_row_text" 2 ["_law_row_here"] (sp_law_row_text K) := by
  have nd := sc_law_row_text.nd
  refine T.d_law_row_text.okD T.g_law_row_text sc_law_row_text h (fun _ _ _ _ _ _ us hl => match us, hl with | [_], _ => rfl) fun cdv A outer s H E hr => ?_
  exact (pss_cons (ps_set (i := 1) nd rfl (Or.inl rfl) (pe_lst pa_nil))
      (pss_cons (ps_for PassesOwn.never rfl (pi_tup (pv 0)) (pg_name (i := 2) nd rfl (Or.inl rfl)) (pss_one (ps_if (PW.pt (pw_and (pt_cmpR op_in_seq (pe_ix ix_seq (pv 0) pe_int (fun _ _ => rfl)) (pe_tup (pa_cons pe_str (pa_cons pe_str pa_nil))) (by rfl)) (pw_and1 (PW.pt (pw_or (pt_cmpR oq_isN (pv 2) pe_non (nomark _)) (pw_or1 (pt_val (pe_callB call_isi rfl T.f_isinstance boot_isinstance (pa_cons (pv 2) (pa_cons (pe_bltn rfl T.f_tuple boot_tuple rfl) pa_nil)))))))))) (pss_one (ps_expr (pe_bm PySem.F.plainAttrs_list PySem.F.slot_list_append PySem.F.type_list_append mt_append (pv 1) (pa_cons (pe_cf G_law_content_text (hr.mono (by decide)) rfl (pa_cons (pv 2) pa_nil)) pa_nil)))) (pss_one (ps_if (pt_val (pe_callB call_isi rfl T.f_isinstance boot_isinstance (pa_cons (pv 2) (pa_cons (pe_bltn rfl T.f_tuple boot_tuple rfl) pa_nil)))) (pss_one (ps_expr (pe_bm PySem.F.plainAttrs_list PySem.F.slot_list_extend PySem.F.type_list_extend mt_extend (pv 1) (pa_cons (pe_lc (own := [("_law_it", 3)]) (g := (gName 3)) (tt := tYes) rfl nd (pi_tup (pv 2)) (blkOk_by (own := [("_law_it", 3)]) (N := ["_law_row_here", "_law_words", "_law_part", "_law_it"]) (sc := defScope s_law_row_text) (by decide +kernel)) (fun _ _ _ _ _ => (pg_name (i := 3) nd rfl (Or.inl rfl))) (fun _ _ _ _ _ => pts_nil) (fun _ _ _ _ _ => (pe_callTy cq_str rfl T.f_str boot_str (pa_cons (pv 3) pa_nil)))) pa_nil)))) (pss_one (ps_expr (pe_bm PySem.F.plainAttrs_list PySem.F.slot_list_append PySem.F.type_list_append mt_append (pv 1) (pa_cons (pe_callTy cq_str rfl T.f_str boot_str (pa_cons (pv 2) pa_nil)) pa_nil)))))))))
      (pss_one (ps_ret (pe_join pe_str (pv 1))))))
/-! ### _law_number: slots _law_word, _law_digits, _law_sign -/
def t_law_number (K : PySem.W.Frag) : TS :=
  (tSeq (tAsg (tIf (tTest (tOp rEq (tSl rSlS (tVar 0) tNoPart (tPart (tC (.int 1)))) (tC (.str "-")))) (tSl rSlS (tVar 0) (tPart (tC (.int 1))) tNoPart) (tVar 0)) (gName 1)) (tSeq (tIfS (tOr (tTest (tOp rEq (tVar 1) (tC (.str "")))) (tTest (tOp (rNeD K) (tLc (iStr (tVar 1)) (gName 2) (tTest (tOp qNotInC (tVar 2) (tC (.str "0123456789")))) (tC (.int 1)) [2]) (tLst tNil)))) (tRet (tC .non)) tNext) (tRet (tIf (tOr (tTest (tOp rNe (tOp (rIx K) (tVar 1) (tC (.int 0))) (tC (.str "0")))) (tTest (tOp rEq (tVar 0) (tC (.str "0"))))) (tCB qInt (tCons (tVar 0) tNil)) (tC .non)))))
theorem sc_law_number : FnScope ["_law_word", "_law_digits", "_law_sign"] ["_law_word"] (defScope s_law_number) := ⟨rfl, rfl, rfl, by decide +kernel, rfl, by decide +kernel, by decide +kernel⟩
theorem ok_law_number {P : Program} {w : World} {K : PySem.W.Frag} {mg : Str → Option Value} {base : Heap} (T : Gs K mg) (h : SemD K (C_law_number) (t_law_number K) 1 3) : OkF P w K mg base "_law_number" 1 ["_law_word"] (sp_law_number K) := by
  have nd := sc_law_number.nd
  refine T.d_law_number.okD T.g_law_number sc_law_number h (fun _ _ _ _ _ _ us hl => match us, hl with | [_], _ => rfl) fun cdv A outer s H E hr => ?_
  exact (pss_cons (ps_set (i := 1) nd rfl (Or.inl rfl) (pe_ifExp (pt_cmpR op_eq (pe_slice sl_str (pv 0) po_none (po_some pe_int)) pe_str (nomark _)) (pe_slice sl_str (pv 0) (po_some pe_int) po_none) (pv 0)))
      (pss_cons (ps_if (PW.pt (pw_or (pt_cmpR op_eq (pv 1) pe_str (nomark _)) (pw_or1 (pt_cmpR (op_neD hr.units) (pe_lc (own := [("_law_sign", 2)]) (g := (gName 2)) (tt := (tTest (tOp qNotInC (tVar 2) (tC (.str "0123456789"))))) rfl nd (pi_str (pv 1)) (blkOk_by (own := [("_law_sign", 2)]) (N := ["_law_word", "_law_digits", "_law_sign"]) (sc := defScope s_law_number) (by decide +kernel)) (fun _ _ _ _ _ => (pg_name (i := 2) nd rfl (Or.inl rfl))) (fun _ _ _ _ _ => (pts_one (pt_cmpR oq_notInC (pv 2) pe_str (by rfl)))) (fun _ _ _ _ _ => pe_int)) (pe_lst pa_nil) (nomark _))))) (pss_one (ps_ret pe_non)) pss_nil)
      (pss_one (ps_ret (pe_ifExp (PW.pt (pw_or (pt_cmpR op_ne (pe_ix ix_seq (pv 1) pe_int (fun _ _ => rfl)) pe_str (nomark _)) (pw_or1 (pt_cmpR op_eq (pv 0) pe_str (nomark _))))) (pe_callTy cq_int rfl T.f_int boot_int (pa_cons (pv 0) pa_nil)) pe_non)))))
/-! ### _law_read_content: slots _law_word, _law_parts, _law_entries, _law_part, _law_pair, _law_after -/
def t_law_read_content (K : PySem.W.Frag) : TS :=
  (tSeq (tAsg (tM1 qSplit (tVar 0) (tC (.str "/"))) (gName 1)) (tSeq (tIfS (tOr (tTest (tOp rEq (tVar 0) (tC (.str "-")))) (tTest (tOp rNe (tCB (qLen K) (tCons (tVar 1) tNil)) (tC (.int 3))))) (tRet (tIf (tTest (tOp rEq (tVar 0) (tC (.str "-")))) (tC .non) (tC (.int 0)))) tNext) (tSeq (tAsg (tLst tNil) (gName 2)) (tSeq (tFor (iList K (tIf (tTest (tOp rNe (tOp (rIx K) (tVar 1) (tC (.int 1))) (tC (.str "")))) (tM1 qSplit (tOp (rIx K) (tVar 1) (tC (.int 1))) (tC (.str ","))) (tLst tNil))) (gName 3) (tSeq (tAsg (tM1 qSplit (tVar 3) (tC (.str "="))) (gName 4)) (tDrop (tBM K "list" rAppend (tVar 2) (tCons (tTup (tCons (tOp (rIx K) (tVar 4) (tC (.int 0))) (tCons (tIf (tTest (tOp rEq (tCB (qLen K) (tCons (tVar 4) tNil)) (tC (.int 2)))) (tCall (sp_law_number K) [] E0 (tCons (tOp (rIx K) (tVar 4) (tC (.int 1))) tNil)) (tC .non)) tNil))) tNil))))) (tSeq (tAsg (tCall (sp_law_number K) [] E0 (tCons (tOp (rIx K) (tVar 1) (tC (.int 2))) tNil)) (gName 5)) (tRet (tTup (tCons (tOp (rIx K) (tVar 1) (tC (.int 0))) (tCons (tCB (qTup K) (tCons (tVar 2) tNil)) (tCons (tIf (tTest (tOp rEq (tOp (rIx K) (tVar 1) (tC (.int 2))) (tC (.str "-")))) (tC .non) (tIf (tTest (tOp qIsN (tVar 5) (tC .non))) (tUn qNeg (tC (.int 1))) (tVar 5))) tNil))))))))))
theorem sc_law_read_content : FnScope ["_law_word", "_law_parts", "_law_entries", "_law_part", "_law_pair", "_law_after"] ["_law_word"] (defScope s_law_read_content) := ⟨rfl, rfl, rfl, by decide +kernel, rfl, by decide +kernel, by decide +kernel⟩
theorem ok_law_read_content {P : Program} {w : World} {K : PySem.W.Frag} {mg : Str → Option Value} {base : Heap} (T : Gs K mg) (G_law_number : OkF P w K mg base "_law_number" 1 ["_law_word"] (sp_law_number K)) (h : SemD K (C_law_read_content) (t_law_read_content K) 1 6) : OkF P w K mg base "_law_read_content" 2 ["_law_word"] (sp_law_read_content K) := by
  have nd := sc_law_read_content.nd
  refine T.d_law_read_content.okD T.g_law_read_content sc_law_read_content h (fun _ _ _ _ _ _ us hl => match us, hl with | [_], _ => rfl) fun cdv A outer s H E hr => ?_
  exact (pss_cons (ps_set (i := 1) nd rfl (Or.inl rfl) (pe_split (pv 0) pe_str))
      (pss_cons (ps_if (PW.pt (pw_or (pt_cmpR op_eq (pv 0) pe_str (nomark _)) (pw_or1 (pt_cmpR op_ne (pe_callB cq_len rfl T.f_len boot_len (pa_cons (pv 1) pa_nil)) pe_int (nomark _))))) (pss_one (ps_ret (pe_ifExp (pt_cmpR op_eq (pv 0) pe_str (nomark _)) pe_non pe_int))) pss_nil)
      (pss_cons (ps_set (i := 2) nd rfl (Or.inl rfl) (pe_lst pa_nil))
      (pss_cons (ps_for PassesOwn.never rfl (pi_list (pe_ifExp (pt_cmpR op_ne (pe_ix ix_seq (pv 1) pe_int (fun _ _ => rfl)) pe_str (nomark _)) (pe_split (pe_ix ix_seq (pv 1) pe_int (fun _ _ => rfl)) pe_str) (pe_lst pa_nil))) (pg_name (i := 3) nd rfl (Or.inl rfl)) (pss_cons (ps_set (i := 4) nd rfl (Or.inl rfl) (pe_split (pv 3) pe_str))
      (pss_one (ps_expr (pe_bm PySem.F.plainAttrs_list PySem.F.slot_list_append PySem.F.type_list_append mt_append (pv 2) (pa_cons (pe_tup (pa_cons (pe_ix ix_seq (pv 4) pe_int (fun _ _ => rfl)) (pa_cons (pe_ifExp (pt_cmpR op_eq (pe_callB cq_len rfl T.f_len boot_len (pa_cons (pv 4) pa_nil)) pe_int (nomark _)) (pe_cf G_law_number (hr.mono (by decide)) rfl (pa_cons (pe_ix ix_seq (pv 4) pe_int (fun _ _ => rfl)) pa_nil)) pe_non) pa_nil))) pa_nil))))))
      (pss_cons (ps_set (i := 5) nd rfl (Or.inl rfl) (pe_cf G_law_number (hr.mono (by decide)) rfl (pa_cons (pe_ix ix_seq (pv 1) pe_int (fun _ _ => rfl)) pa_nil)))
      (pss_one (ps_ret (pe_tup (pa_cons (pe_ix ix_seq (pv 1) pe_int (fun _ _ => rfl)) (pa_cons (pe_callTy cq_tup rfl T.f_tuple boot_tuple (pa_cons (pv 2) pa_nil)) (pa_cons (pe_ifExp (pt_cmpR op_eq (pe_ix ix_seq (pv 1) pe_int (fun _ _ => rfl)) pe_str (nomark _)) pe_non (pe_ifExp (pt_cmpR oq_isN (pv 5) pe_non (nomark _)) (pe_un uq_neg pe_int) (pv 5))) pa_nil)))))))))))
/-! ### _law_read_row: slots _law_text, _law_words, _law_found, _law_at, _law_word, _law_some, _law_it, _law_row_here -/
def t_law_read_row (K : PySem.W.Frag) : TS :=
  (tSeq (tPar 1 2 (tCons (tM1 qSplit (tVar 0) (tC (.str " "))) (tCons (tLst tNil) tNil))) (tSeq (tFor (iEnum K (tCons (tVar 1) tNil)) (gTup K 2 (gCons (gName 3) (gCons (gName 4) gNil))) (tIfS (tAnd (tTest (tOp (rIn K false) (tOp (rIx K) (tVar 1) (tC (.int 0))) (tTup (tCons (tC (.str "page")) (tCons (tC (.str "unpage")) tNil))))) (tTest (tOp qGt (tVar 3) (tC (.int 2))))) (tDrop (tBM K "list" rAppend (tVar 2) (tCons (tCall (sp_law_read_content K) [] E0 (tCons (tVar 4) tNil)) tNil))) (tIfS (tAnd (tTest (tOp rEq (tOp (rIx K) (tVar 1) (tC (.int 0))) (tC (.str "op")))) (tTest (tOp rEq (tVar 3) (tC (.int 3))))) (tSeq (tAsg (tOp rCat (tOp rCat (tLst (tCons (tVar 4) tNil)) (tSl (rSlL K) (tVar 1) (tPart (tC (.int 4))) (tPart (tC (.int 5))))) (tLc (iList K (tSl (rSlL K) (tVar 1) (tPart (tC (.int 5))) tNoPart)) (gName 6) tYes (tCall (sp_law_number K) [] E0 (tCons (tVar 6) tNil)) [6])) (gName 5)) (tDrop (tBM K "list" rAppend (tVar 2) (tCons (tCB (qTup K) (tCons (tVar 5) tNil)) tNil)))) (tIfS (tOr (tTest (tOp rNe (tOp (rIx K) (tVar 1) (tC (.int 0))) (tC (.str "op")))) (tTest (tOp qLt (tVar 3) (tC (.int 3))))) (tDrop (tBM K "list" rAppend (tVar 2) (tCons (tIf (tAnd (tTest (tOp qGt (tVar 3) (tC (.int 0)))) (tNot (tAnd (tTest (tOp rEq (tOp (rIx K) (tVar 1) (tC (.int 0))) (tC (.str "end")))) (tTest (tOp rEq (tVar 3) (tC (.int 2))))))) (tCall (sp_law_number K) [] E0 (tCons (tVar 4) tNil)) (tVar 4)) tNil))) tNext)))) (tSeq (tAsg (tCB (qTup K) (tCons (tVar 2) tNil)) (gName 7)) (tRet (tIf (tAnd (tB (tCall (sp_law_is_row K) [] E0 (tCons (tVar 7) tNil))) (tTest (tOp rEq (tCall (sp_law_row_text K) [] E0 (tCons (tVar 7) tNil)) (tVar 0)))) (tVar 7) (tC .non))))))
theorem sc_law_read_row : FnScope ["_law_text", "_law_words", "_law_found", "_law_at", "_law_word", "_law_some", "_law_it", "_law_row_here"] ["_law_text"] (defScope s_law_read_row) := ⟨rfl, rfl, rfl, by decide +kernel, rfl, by decide +kernel, by decide +kernel⟩
theorem ok_law_read_row {P : Program} {w : World} {K : PySem.W.Frag} {mg : Str → Option Value} {base : Heap} (T : Gs K mg) (G_law_is_row : OkF P w K mg base "_law_is_row" 4 ["_law_thing"] (sp_law_is_row K)) (G_law_read_content : OkF P w K mg base "_law_read_content" 2 ["_law_word"] (sp_law_read_content K)) (G_law_row_text : OkF P w K mg base "_law_row_text" 2 ["_law_row_here"] (sp_law_row_text K)) (G_law_number : OkF P w K mg base "_law_number" 1 ["_law_word"] (sp_law_number K)) (h : SemD K (C_law_read_row) (t_law_read_row K) 1 8) : OkF P w K mg base "_law_read_row" 5 ["_law_text"] (sp_law_read_row K) := by
  have nd := sc_law_read_row.nd
  refine T.d_law_read_row.okD T.g_law_read_row sc_law_read_row h (fun _ _ _ _ _ _ us hl => match us, hl with | [_], _ => rfl) fun cdv A outer s H E hr => ?_
  exact (pss_cons (ps_par rfl nd rfl rfl (by decide) rfl rfl (pa_cons (pe_split (pv 0) pe_str) (pa_cons (pe_lst pa_nil) pa_nil)) rfl)
      (pss_cons (ps_for PassesOwn.never rfl (pi_enum rfl T.f_enumerate (pa_cons (pv 1) pa_nil)) (pg_tup rfl (pgs_cons (pg_name (i := 3) nd rfl (Or.inl rfl)) (pgs_cons (pg_name (i := 4) nd rfl (Or.inl rfl)) pgs_nil))) (pss_one (ps_if (PW.pt (pw_and (pt_cmpR op_in_seq (pe_ix ix_seq (pv 1) pe_int (fun _ _ => rfl)) (pe_tup (pa_cons pe_str (pa_cons pe_str pa_nil))) (by rfl)) (pw_and1 (pt_cmpR oq_gt (pv 3) pe_int (nomark _))))) (pss_one (ps_expr (pe_bm PySem.F.plainAttrs_list PySem.F.slot_list_append PySem.F.type_list_append mt_append (pv 2) (pa_cons (pe_cf G_law_read_content (hr.mono (by decide)) rfl (pa_cons (pv 4) pa_nil)) pa_nil)))) (pss_one (ps_if (PW.pt (pw_and (pt_cmpR op_eq (pe_ix ix_seq (pv 1) pe_int (fun _ _ => rfl)) pe_str (nomark _)) (pw_and1 (pt_cmpR op_eq (pv 3) pe_int (nomark _))))) (pss_cons (ps_set (i := 5) nd rfl (Or.inl rfl) (pe_op op_cat (pe_op op_cat (pe_lst (pa_cons (pv 4) pa_nil)) (pe_slice sl_list (pv 1) (po_some pe_int) (po_some pe_int))) (pe_lc (own := [("_law_it", 6)]) (g := (gName 6)) (tt := tYes) rfl nd (pi_list (pe_slice sl_list (pv 1) (po_some pe_int) po_none)) (blkOk_by (own := [("_law_it", 6)]) (N := ["_law_text", "_law_words", "_law_found", "_law_at", "_law_word", "_law_some", "_law_it", "_law_row_here"]) (sc := defScope s_law_read_row) (by decide +kernel)) (fun _ _ _ _ _ => (pg_name (i := 6) nd rfl (Or.inl rfl))) (fun _ _ _ _ _ => pts_nil) (fun _ _ _ _ _ => (pe_cf G_law_number (hr.mono (by decide)) rfl (pa_cons (pv 6) pa_nil))))))
      (pss_one (ps_expr (pe_bm PySem.F.plainAttrs_list PySem.F.slot_list_append PySem.F.type_list_append mt_append (pv 2) (pa_cons (pe_callTy cq_tup rfl T.f_tuple boot_tuple (pa_cons (pv 5) pa_nil)) pa_nil))))) (pss_one (ps_if (PW.pt (pw_or (pt_cmpR op_ne (pe_ix ix_seq (pv 1) pe_int (fun _ _ => rfl)) pe_str (nomark _)) (pw_or1 (pt_cmpR oq_lt (pv 3) pe_int (nomark _))))) (pss_one (ps_expr (pe_bm PySem.F.plainAttrs_list PySem.F.slot_list_append PySem.F.type_list_append mt_append (pv 2) (pa_cons (pe_ifExp (PW.pt (pw_and (pt_cmpR oq_gt (pv 3) pe_int (nomark _)) (pw_and1 (pt_not (PW.pt (pw_and (pt_cmpR op_eq (pe_ix ix_seq (pv 1) pe_int (fun _ _ => rfl)) pe_str (nomark _)) (pw_and1 (pt_cmpR op_eq (pv 3) pe_int (nomark _))))))))) (pe_cf G_law_number (hr.mono (by decide)) rfl (pa_cons (pv 4) pa_nil)) (pv 4)) pa_nil)))) pss_nil)))))))
      (pss_cons (ps_set (i := 7) nd rfl (Or.inl rfl) (pe_callTy cq_tup rfl T.f_tuple boot_tuple (pa_cons (pv 2) pa_nil)))
      (pss_one (ps_ret (pe_ifExp (PW.pt (pw_and (pt_val (pe_cf G_law_is_row (hr.mono (by decide)) rfl (pa_cons (pv 7) pa_nil))) (pw_and1 (pt_cmpR op_eq (pe_cf G_law_row_text (hr.mono (by decide)) rfl (pa_cons (pv 7) pa_nil)) (pv 0) (nomark _))))) (pv 7) pe_non))))))
end K61
end

section
set_option Elab.async false
set_option linter.all false
set_option maxRecDepth 100000
set_option maxHeartbeats 4000000
namespace K61
open PySem PySem.Spec PyProof.Rows L2
/-! ### is_row_disks: slots thing -/
def t_is_row_disks (K : PySem.W.Frag) : TS :=
  (tRet (tCall (sp_is_row_value K) [] E0 (tCons (tVar 0) tNil)))
theorem sc_is_row_disks : FnScope ["thing"] ["thing"] (defScope s_is_row_disks) := ⟨rfl, rfl, rfl, by decide +kernel, rfl, by decide +kernel, by decide +kernel⟩
theorem ok_is_row_disks {P : Program} {w : World} {K : PySem.W.Frag} {mg : Str → Option Value} {base : Heap} (T : Gs K mg) (G_is_row_value : OkF P w K mg base "is_row_value" 4 ["thing"] (sp_is_row_value K)) (h : SemD K (C_is_row_disks) (t_is_row_disks K) 1 1) : OkF P w K mg base "is_row_disks" 5 ["thing"] (sp_is_row_disks K) := by
  have nd := sc_is_row_disks.nd
  refine T.d_is_row_disks.okD T.g_is_row_disks sc_is_row_disks h (fun _ _ _ _ _ _ us hl => match us, hl with | [_], _ => rfl) fun cdv A outer s H E hr => ?_
  exact (pss_one (ps_ret (pe_cf G_is_row_value (hr.mono (by decide)) rfl (pa_cons (pv 0) pa_nil))))
/-! ### need_row: slots row -/
def t_need_row (K : PySem.W.Frag) : TS :=
  (tIfS (tNot (tB (tCall (sp_is_row_value K) [] E0 (tCons (tVar 0) tNil)))) tNever tNext)
theorem sc_need_row : FnScope ["row"] ["row"] (defScope s_need_row) := ⟨rfl, rfl, rfl, by decide +kernel, rfl, by decide +kernel, by decide +kernel⟩
theorem ok_need_row {P : Program} {w : World} {K : PySem.W.Frag} {mg : Str → Option Value} {base : Heap} (T : Gs K mg) (G_is_row_value : OkF P w K mg base "is_row_value" 4 ["thing"] (sp_is_row_value K)) (h : SemD K (C_need_row) (t_need_row K) 1 1) : OkF P w K mg base "need_row" 5 ["row"] (sp_need_row K) := by
  have nd := sc_need_row.nd
  refine T.d_need_row.okD T.g_need_row sc_need_row h (fun _ _ _ _ _ _ us hl => match us, hl with | [_], _ => rfl) fun cdv A outer s H E hr => ?_
  exact (pss_one (ps_if (pt_not (pt_val (pe_cf G_is_row_value (hr.mono (by decide)) rfl (pa_cons (pv 0) pa_nil)))) (pss_one ps_never) pss_nil))
/-! ### row_text: slots row -/
def t_row_text (K : PySem.W.Frag) : TS :=
  (tSeq (tDrop (tCall (sp_need_row K) [] E0 (tCons (tVar 0) tNil))) (tRet (tCall (sp_text_of_row K) [] E0 (tCons (tVar 0) tNil))))
theorem sc_row_text : FnScope ["row"] ["row"] (defScope s_row_text) := ⟨rfl, rfl, rfl, by decide +kernel, rfl, by decide +kernel, by decide +kernel⟩
theorem ok_row_text {P : Program} {w : World} {K : PySem.W.Frag} {mg : Str → Option Value} {base : Heap} (T : Gs K mg) (G_need_row : OkF P w K mg base "need_row" 5 ["row"] (sp_need_row K)) (G_text_of_row : OkF P w K mg base "text_of_row" 2 ["row"] (sp_text_of_row K)) (h : SemD K (C_row_text) (t_row_text K) 1 1) : OkF P w K mg base "row_text" 6 ["row"] (sp_row_text K) := by
  have nd := sc_row_text.nd
  refine T.d_row_text.okD T.g_row_text sc_row_text h (fun _ _ _ _ _ _ us hl => match us, hl with | [_], _ => rfl) fun cdv A outer s H E hr => ?_
  exact (pss_cons (ps_expr (pe_cf G_need_row (hr.mono (by decide)) rfl (pa_cons (pv 0) pa_nil)))
      (pss_one (ps_ret (pe_cf G_text_of_row (hr.mono (by decide)) rfl (pa_cons (pv 0) pa_nil)))))
end K61
end

section
set_option Elab.async false
set_option linter.all false
set_option maxRecDepth 100000
set_option maxHeartbeats 4000000
namespace K61
open PySem PySem.Spec L2
open Evl (Ex)
theorem ift {b : Bool} {p q : Prop} (h : b = true) (hp : p) : if b = true then p else q := by rw [if_pos h]; exact hp
theorem iff' {b : Bool} {p q : Prop} (h : b = false) (hq : q) : if b = true then p else q := by rw [if_neg (by rw [h]; exact Bool.false_ne_true)]; exact hq
theorem ifc {b : Bool} {p q : Prop} (h1 : b = true → p) (h2 : b = false → q) : if b = true then p else q := by
  cases b with
  | true => exact ift rfl (h1 rfl)
  | false => exact iff' rfl (h2 rfl)
section
variable {K : PySem.W.Frag} {W : Wd} {ρ : List En} {te ta tb : TE} {tt : TT} {wi : TI} {g : TG} {gs vs : List Nat} {P : PyData → Prop}
theorem Ei.mono {P P' : List PyData → Prop} (h : Ei K W wi ρ P) (k : ∀ ds, P ds → P' ds) : Ei K W wi ρ P' := fun W' l σ H R iv e q => h W' l σ H R iv e fun ds J H1 x wk p => q ds J H1 x wk (k ds p)
theorem Eg.mono {x : PyData} {P P' : List En → Prop} (h : Eg K gs g x ρ P) (k : ∀ r, P r → P' r) : Eg K gs g x ρ P' := fun W' v σ H Q e r q => h W' v σ H Q e r fun ρ' σ' e' p => q ρ' σ' e' (k ρ' p)
theorem Et.mono' {P P' : Bool → Prop} (h : Et K W tt ρ P) (k : ∀ d, P d → P' d) : Et K W tt ρ P' := h.mono k
theorem et_yes {P : Bool → Prop} (p : P true) : Et K W tYes ρ P := fun W' l σ H Q iv e q => q true H (Xt.refl iv) p
theorem filter_all {α : Type} (l : List α) : l.filter (fun _ => true) = l := by
  induction l with
  | nil => rfl
  | cons x r ih => rw [List.filter_cons, if_pos rfl, ih]
/-- [e for x in xs] -/
theorem ed_map (hgs : ∀ i ∈ gs, i ∈ vs) (h : Ei K W wi ρ fun ds => ds.length ≤ 100000 ∧ ∃ f : PyData → PyData, (∀ x ∈ ds, Eg K gs g x (wipeE ρ vs) fun ρ' => Ed K W te ρ' fun y => y = f x) ∧ P (.list (ds.map f))) : Ed K W (tLc wi g tYes te vs) ρ P :=
  ed_lc hgs (h.mono fun ds ⟨hz, f, h1, h2⟩ => ⟨hz, fun _ => true, f, fun x hx => (h1 x hx).mono fun ρ' h3 => et_yes ⟨rfl, fun _ => h3⟩, by rw [filter_all]; exact h2⟩)
/-- all([e for x in xs]) -/
theorem ed_allLc (hgs : ∀ i ∈ gs, i ∈ vs) (h : Ei K W wi ρ fun ds => ds.length ≤ 100000 ∧ ∃ f : PyData → Bool, (∀ x ∈ ds, Eg K gs g x (wipeE ρ vs) fun ρ' => Ed K W te ρ' fun y => y = .bool (f x)) ∧ P (.bool (ds.all f))) :
    Ed K W (tCB (rAll K) (tCons (tLc wi g tYes te vs) tNil)) ρ P :=
  ed_all (ed_map hgs (h.mono fun ds ⟨hz, f, h1, h2⟩ => ⟨hz, fun x => .bool (f x), h1, ds.map f, by rw [List.map_map] <;> rfl, by
    have e : (ds.map f).all id = ds.all f := by rw [List.all_map] <;> rfl
    rw [e]; exact h2⟩))
theorem eqv_ones (n : Nat) : PyData.eqv (.list (List.replicate n (.int 1))) (.list []) = decide (n = 0) := by cases n <;> rfl
/-- [1 for x in xs if c], made equal to [] -/
theorem ones_eq {ds : List PyData} {sel : PyData → Bool} : PyData.eqv (.list ((ds.filter sel).map fun _ => .int 1)) (.list []) = ds.all fun x => !sel x := by
  rw [List.map_const', eqv_ones]
  induction ds with
  | nil => rfl
  | cons x r ih =>
    rw [List.filter_cons, List.all_cons]
    cases sel x with
    | true => simp
    | false => simpa using ih
theorem lay_ones : ∀ l : List PyData, PyData.canLayAll0 (l.map fun _ => .int 1) = true ∧ PyData.depthAll (l.map fun _ => .int 1) ≤ 0
  | [] => ⟨rfl, Nat.le_refl _⟩
  | x :: r => by
    obtain ⟨a, b⟩ := lay_ones r
    refine ⟨Bool.and_eq_true_iff.mpr ⟨rfl, a⟩, ?_⟩
    show max 0 _ ≤ 0
    exact Nat.max_le.mpr ⟨Nat.le_refl _, b⟩
theorem shaped_ones (l : List PyData) : SeqAt.shaped (.list (l.map fun _ => .int 1)) = true := by
  obtain ⟨a, b⟩ := lay_ones l
  refine Bool.and_eq_true_iff.mpr ⟨a, decide_eq_true ?_⟩
  show PyData.depthAll _ + 1 ≤ 64
  omega
/-- [1 for x in xs if c] == [] -/
theorem ed_noneLc (hgs : ∀ i ∈ gs, i ∈ vs) (h : Ei K W wi ρ fun ds => ds.length ≤ 100000 ∧ ∃ sel : PyData → Bool, (∀ x ∈ ds, Eg K gs g x (wipeE ρ vs) fun ρ' => Et K W tt ρ' fun b => b = sel x) ∧ P (.bool (ds.all fun x => !sel x))) :
    Ed K W (tOp (rEqD K) (tLc wi g tt (tC (.int 1)) vs) (tLst tNil)) ρ P :=
  ed_eqD (ed_lc hgs (h.mono fun ds ⟨hz, sel, h1, h2⟩ => ⟨hz, sel, fun _ => .int 1, fun x hx => (h1 x hx).mono fun ρ' h3 => h3.mono fun b hb => ⟨hb, fun _ => ed_int rfl⟩,
    ed_lst (ea_nil ⟨by decide, ⟨shaped_ones _, by decide⟩, by rw [ones_eq]; exact h2⟩)⟩))
/-- [1 for x in xs if c] != [] -/
theorem ed_someLc (hgs : ∀ i ∈ gs, i ∈ vs) (h : Ei K W wi ρ fun ds => ds.length ≤ 100000 ∧ ∃ sel : PyData → Bool, (∀ x ∈ ds, Eg K gs g x (wipeE ρ vs) fun ρ' => Et K W tt ρ' fun b => b = sel x) ∧ P (.bool (!ds.all fun x => !sel x))) :
    Ed K W (tOp (rNeD K) (tLc wi g tt (tC (.int 1)) vs) (tLst tNil)) ρ P :=
  ed_neD (ed_lc hgs (h.mono fun ds ⟨hz, sel, h1, h2⟩ => ⟨hz, sel, fun _ => .int 1, fun x hx => (h1 x hx).mono fun ρ' h3 => h3.mono fun b hb => ⟨hb, fun _ => ed_int rfl⟩,
    ed_lst (ea_nil ⟨by decide, ⟨shaped_ones _, by decide⟩, by rw [ones_eq]; exact h2⟩)⟩))
theorem ei_tupV {i : Nat} {xs : List PyData} {P : List PyData → Prop} (h : ρ[i]? = some (.val (.tuple xs))) (p : P xs) : Ei K W (iTup K (tVar i)) ρ P := ei_tup (ed_var h ⟨xs, rfl, p⟩)
theorem wipe1 {i : Nat} : wipeE ρ [i] = ρ.set i .any := rfl
theorem wipe2 {i j : Nat} : wipeE ρ [i, j] = (ρ.set j .any).set i .any := rfl
theorem signs_all (s : Str) (f : Nat → Bool) (F : PyData → Bool) (h : ∀ c, F (.str ⟨#[c]⟩) = f c) : (signs s).all F = s.cps.toList.all f := by
  unfold signs
  rw [List.all_map]
  congr 1
  funext c
  exact h c
/-- xs[n:] -/
theorem cut_from {α : Type} (xs : List α) (n : Nat) : cutL xs (some (n : Int)) none = xs.drop n := by
  unfold cutL
  rw [HT.sIx_none, HT.sIx_nat]
  by_cases h : n ≤ xs.length
  · rw [Nat.min_eq_left h]
    exact List.take_of_length_le (by rw [List.length_drop]; omega)
  · rw [Nat.min_eq_right (by omega), List.drop_eq_nil_of_le (Nat.le_refl _), List.drop_eq_nil_of_le (by omega)]
    simp
/-- xs[m:n] -/
theorem cut_mid {α : Type} (xs : List α) (m n : Nat) : cutL xs (some (m : Int)) (some (n : Int)) = (xs.drop m).take (n - m) := by
  unfold cutL
  rw [HT.sIx_nat, HT.sIx_nat]
  by_cases h : m ≤ xs.length
  · rw [Nat.min_eq_left h]
    by_cases h' : n ≤ xs.length
    · rw [Nat.min_eq_left h']
    · rw [Nat.min_eq_right (by omega), List.take_of_length_le (by rw [List.length_drop]; omega), List.take_of_length_le (by rw [List.length_drop]; omega)]
  · rw [Nat.min_eq_right (a := m) (by omega), List.drop_eq_nil_of_le (Nat.le_refl _), List.drop_eq_nil_of_le (by omega)]
    simp
/-- xs[:n] -/
theorem cut_to {α : Type} (xs : List α) (n : Nat) : cutL xs none (some (n : Int)) = xs.take n := by
  unfold cutL
  rw [HT.sIx_none, HT.sIx_nat, List.drop_zero, Nat.sub_zero]
  by_cases h : n ≤ xs.length
  · rw [Nat.min_eq_left h]
  · rw [Nat.min_eq_right (by omega), List.take_of_length_le (Nat.le_refl _), List.take_of_length_le (by omega)]
theorem atI_nat {α : Type} {xs : List α} {n : Nat} {d : α} (h : xs[n]? = some d) : atI xs (n : Int) = some d := by
  have hn : n < xs.length := (List.getElem?_eq_some_iff.mp h).1
  unfold atI ixN
  rw [if_pos (by omega), if_pos (by omega)]
  simpa using h
theorem ix_tup {ds : List PyData} {n : Nat} {d : PyData} (h : ds[n]? = some d) (p : P d) : ∃ i d', PyData.int (n : Int) = .int i ∧ atD (.tuple ds) i = some d' ∧ (∀ s, PyData.tuple ds = .str s → s.length ≤ 100000) ∧ P d' :=
  ⟨n, d, rfl, atI_nat h, (fun s e => nomatch e), p⟩
theorem ix_tup0 {ds : List PyData} {d : PyData} (h : ds[0]? = some d) (p : P d) : ∃ i d', PyData.int 0 = .int i ∧ atD (.tuple ds) i = some d' ∧ (∀ s, PyData.tuple ds = .str s → s.length ≤ 100000) ∧ P d' := ix_tup (n := 0) h p
theorem ix_tup1 {ds : List PyData} {d : PyData} (h : ds[1]? = some d) (p : P d) : ∃ i d', PyData.int 1 = .int i ∧ atD (.tuple ds) i = some d' ∧ (∀ s, PyData.tuple ds = .str s → s.length ≤ 100000) ∧ P d' := ix_tup (n := 1) h p
theorem ix_tup2 {ds : List PyData} {d : PyData} (h : ds[2]? = some d) (p : P d) : ∃ i d', PyData.int 2 = .int i ∧ atD (.tuple ds) i = some d' ∧ (∀ s, PyData.tuple ds = .str s → s.length ≤ 100000) ∧ P d' := ix_tup (n := 2) h p
theorem ix_tup3 {ds : List PyData} {d : PyData} (h : ds[3]? = some d) (p : P d) : ∃ i d', PyData.int 3 = .int i ∧ atD (.tuple ds) i = some d' ∧ (∀ s, PyData.tuple ds = .str s → s.length ≤ 100000) ∧ P d' := ix_tup (n := 3) h p
theorem ix_lst {ds : List PyData} {n : Nat} {d : PyData} (h : ds[n]? = some d) (p : P d) : ∃ i d', PyData.int (n : Int) = .int i ∧ atD (.list ds) i = some d' ∧ (∀ s, PyData.list ds = .str s → s.length ≤ 100000) ∧ P d' :=
  ⟨n, d, rfl, atI_nat h, (fun s e => nomatch e), p⟩
theorem shp_e {x : PyData} (f : fine 5 x = true) : SeqAt.shaped x = true ∧ SeqAt.shaped (.str (Str.ofString "")) = true := ⟨fine_shaped f, by decide +kernel⟩
end
end K61
end

section
set_option Elab.async false
set_option linter.all false
set_option maxRecDepth 100000
set_option maxHeartbeats 4000000
/-! what the readings of the pure defs do, by data: validity -/
namespace K61
open PySem PySem.Spec L2
theorem ex_is_integer {x : PyData} {P : PyData → Prop} (h : P (.bool (isI x))) : ∃ d, C_is_integer [x] d ∧ P d := ⟨_, ⟨x, rfl, rfl⟩, h⟩
theorem ex_is_count {x : PyData} {P : PyData → Prop} (h : P (.bool (isC x))) : ∃ d, C_is_count [x] d ∧ P d := ⟨_, ⟨x, rfl, rfl⟩, h⟩
theorem ex_is_row_looks {x : PyData} {n : Int} {P : PyData → Prop} (f : fine 5 x = true) (h : P (.bool (isTupN n x))) : ∃ d, C_is_row_looks [x, .int n] d ∧ P d := ⟨_, ⟨x, n, rfl, f, rfl⟩, h⟩
theorem ex_is_one_of {x : PyData} {ws : List Str} {P : PyData → Prop} (h : P (.bool (strIn ws x))) : ∃ d, C_is_one_of [x, .tuple (ws.map PyData.str)] d ∧ P d := ⟨_, ⟨x, ws, rfl, rfl⟩, h⟩
theorem ex_is_rising {l : List Str} {P : PyData → Prop} (f : l.length ≤ 600) (h : P (.bool (risS l))) : ∃ d, C_is_rising [.list (l.map .str)] d ∧ P d := ⟨_, ⟨l, rfl, f, rfl⟩, h⟩
theorem ex_is_key {x : PyData} {P : PyData → Prop} (f : fine 5 x = true) (h : P (.bool (keyD x))) : ∃ d, C_is_key [x] d ∧ P d := ⟨_, ⟨x, rfl, f, rfl⟩, h⟩
theorem ex_is_operation_value {x : PyData} {P : PyData → Prop} (f : fine 5 x = true) (h : P (.bool (opD x))) : ∃ d, C_is_operation_value [x] d ∧ P d := ⟨_, ⟨x, rfl, f, rfl⟩, h⟩
theorem ex_is_content_value {x : PyData} {P : PyData → Prop} (f : fine 5 x = true) (h : P (.bool (contD x))) : ∃ d, C_is_content_value [x] d ∧ P d := ⟨_, ⟨x, rfl, f, rfl⟩, h⟩
theorem ex_is_row_value {x : PyData} {P : PyData → Prop} (f : fine 5 x = true) (h : P (.bool (rowD x))) : ∃ d, C_is_row_value [x] d ∧ P d := ⟨_, ⟨x, rfl, f, rfl⟩, h⟩
section
variable {K : PySem.W.Frag}
theorem se_is_integer : SemD K C_is_integer (t_is_integer K) 1 1 := fun ds d ⟨x, e, hd⟩ => ⟨by rw [e] <;> rfl, by
  subst e hd
  show Sd K W0 (t_is_integer K) [.val x] _ _
  unfold t_is_integer
  cases x <;>
  repeat' first
    | rfl
    | assumption
    | with_reducible refine sd_ret ?_
    | with_reducible refine sd_seq ?_
    | with_reducible refine sd_if ?_
    | with_reducible refine sd_next ?_
    | with_reducible refine sd_asg ?_
    | with_reducible refine sd_par ?_
    | with_reducible apply ed_var
    | with_reducible refine ed_non ?_
    | with_reducible refine ed_bl ?_
    | with_reducible refine ed_int ?_
    | with_reducible refine ed_str ?_
    | with_reducible refine et_tB ?_
    | with_reducible refine et_tTest ?_
    | with_reducible refine et_and ?_
    | with_reducible refine et_or ?_
    | with_reducible refine et_not ?_
    | with_reducible refine ed_and ?_
    | with_reducible refine ed_or ?_
    | with_reducible refine ed_not ?_
    | with_reducible refine ed_if ?_
    | with_reducible refine ed_isi (by decide) ?_
    | with_reducible refine ed_len ?_
    | with_reducible refine ed_ix ?_
    | with_reducible refine ed_call ?_
    | with_reducible refine ea_cons ?_
    | with_reducible refine ea_nil ?_
    | with_reducible refine ed_eq ?_
    | with_reducible refine ed_ne ?_
    | with_reducible refine ed_eqD ?_
    | with_reducible refine ed_lt ?_
    | with_reducible refine ed_le ?_
    | with_reducible refine ed_gt ?_
    | with_reducible refine ed_ge ?_
    | with_reducible refine ed_isN ?_
    | with_reducible refine ed_notN ?_
    | with_reducible refine ed_strOf ?_
    | refine ift (by rfl) ?_
    | refine iff' (by rfl) ?_
    | refine ift (by assumption) ?_
    | refine iff' (by assumption) ?_
    | (refine ift ?_ ?_; focus (simp only [*] <;> first | done | rfl))
    | (refine iff' ?_ ?_; focus (simp only [*] <;> first | done | rfl))
    | (refine ift ?_ ?_; focus (simp [*]; done))
    | (refine iff' ?_ ?_; focus (simp [*]; done))
    | refine ex_is_integer ?_
    | refine ex_is_count ?_
    | refine ex_is_row_looks ?_ ?_
    | refine ex_is_key ?_ ?_
    | refine ex_is_operation_value ?_ ?_
    | refine ex_is_content_value ?_ ?_
    | with_reducible refine And.intro (shp_e (by assumption)) ?_
    | with_reducible refine And.intro (by assumption) ?_
    | with_reducible refine And.intro (by intro s h; cases h) ?_
    | refine And.intro (by rfl) ?_
    | refine Exists.intro _ (And.intro rfl ?_)
    | refine ix_tup0 (by rfl) ?_
    | refine ix_tup1 (by rfl) ?_
    | refine ix_tup2 (by rfl) ?_
    | refine ix_tup3 (by rfl) ?_
    | refine Exists.intro _ (Exists.intro _ (And.intro rfl (And.intro rfl ?_)))⟩
theorem se_is_count : SemD K C_is_count (t_is_count K) 1 1 := fun ds d ⟨x, e, hd⟩ => ⟨by rw [e] <;> rfl, by
  subst e hd
  show Sd K W0 (t_is_count K) [.val x] _ _
  unfold t_is_count
  cases x <;>
  repeat' first
    | rfl
    | assumption
    | with_reducible refine sd_ret ?_
    | with_reducible refine sd_seq ?_
    | with_reducible refine sd_if ?_
    | with_reducible refine sd_next ?_
    | with_reducible refine sd_asg ?_
    | with_reducible refine sd_par ?_
    | with_reducible apply ed_var
    | with_reducible refine ed_non ?_
    | with_reducible refine ed_bl ?_
    | with_reducible refine ed_int ?_
    | with_reducible refine ed_str ?_
    | with_reducible refine et_tB ?_
    | with_reducible refine et_tTest ?_
    | with_reducible refine et_and ?_
    | with_reducible refine et_or ?_
    | with_reducible refine et_not ?_
    | with_reducible refine ed_and ?_
    | with_reducible refine ed_or ?_
    | with_reducible refine ed_not ?_
    | with_reducible refine ed_if ?_
    | with_reducible refine ed_isi (by decide) ?_
    | with_reducible refine ed_len ?_
    | with_reducible refine ed_ix ?_
    | with_reducible refine ed_call ?_
    | with_reducible refine ea_cons ?_
    | with_reducible refine ea_nil ?_
    | with_reducible refine ed_eq ?_
    | with_reducible refine ed_ne ?_
    | with_reducible refine ed_eqD ?_
    | with_reducible refine ed_lt ?_
    | with_reducible refine ed_le ?_
    | with_reducible refine ed_gt ?_
    | with_reducible refine ed_ge ?_
    | with_reducible refine ed_isN ?_
    | with_reducible refine ed_notN ?_
    | with_reducible refine ed_strOf ?_
    | refine ift (by rfl) ?_
    | refine iff' (by rfl) ?_
    | refine ift (by assumption) ?_
    | refine iff' (by assumption) ?_
    | (refine ift ?_ ?_; focus (simp only [*] <;> first | done | rfl))
    | (refine iff' ?_ ?_; focus (simp only [*] <;> first | done | rfl))
    | (refine ift ?_ ?_; focus (simp [*]; done))
    | (refine iff' ?_ ?_; focus (simp [*]; done))
    | refine ex_is_integer ?_
    | refine ex_is_count ?_
    | refine ex_is_row_looks ?_ ?_
    | refine ex_is_key ?_ ?_
    | refine ex_is_operation_value ?_ ?_
    | refine ex_is_content_value ?_ ?_
    | with_reducible refine And.intro (shp_e (by assumption)) ?_
    | with_reducible refine And.intro (by assumption) ?_
    | with_reducible refine And.intro (by intro s h; cases h) ?_
    | refine And.intro (by rfl) ?_
    | refine Exists.intro _ (And.intro rfl ?_)
    | refine ix_tup0 (by rfl) ?_
    | refine ix_tup1 (by rfl) ?_
    | refine ix_tup2 (by rfl) ?_
    | refine ix_tup3 (by rfl) ?_
    | refine Exists.intro _ (Exists.intro _ (And.intro rfl (And.intro rfl ?_)))⟩
theorem se_is_row_looks : SemD K C_is_row_looks (t_is_row_looks K) 2 2 := fun ds d ⟨x, n, e, f, hd⟩ => ⟨by rw [e] <;> rfl, by
  subst e hd
  show Sd K W0 (t_is_row_looks K) [.val x, .val (.int n)] _ _
  unfold t_is_row_looks
  have hl : ∀ xs, x = .tuple xs → xs.length ≤ sizeLine := fun xs e => by rw [e] at f; exact Nat.le_trans (fine_tup f).1 (by decide)
  cases x with
  | tuple xs =>
    have hl := hl xs rfl
    refine sd_ret (ed_and (ed_isi (by decide) (ed_var rfl ⟨_, rfl, ift rfl (ed_eq (ed_len (ed_var rfl ⟨_, rfl, hl, ed_var rfl ⟨rfl, ?_⟩⟩)))⟩)))
    show PyData.bool (((xs.length : Nat) : Int) == n) = .bool (decide (((xs.length : Nat) : Int) = n))
    rw [Bool.beq_eq_decide_eq] <;> rfl
  | _ =>
    repeat' first
      | rfl
      | assumption
      | with_reducible refine sd_ret ?_
      | with_reducible refine sd_seq ?_
      | with_reducible refine sd_if ?_
      | with_reducible refine sd_next ?_
      | with_reducible refine sd_asg ?_
      | with_reducible refine sd_par ?_
      | with_reducible apply ed_var
      | with_reducible refine ed_non ?_
      | with_reducible refine ed_bl ?_
      | with_reducible refine ed_int ?_
      | with_reducible refine ed_str ?_
      | with_reducible refine et_tB ?_
      | with_reducible refine et_tTest ?_
      | with_reducible refine et_and ?_
      | with_reducible refine et_or ?_
      | with_reducible refine et_not ?_
      | with_reducible refine ed_and ?_
      | with_reducible refine ed_or ?_
      | with_reducible refine ed_not ?_
      | with_reducible refine ed_if ?_
      | with_reducible refine ed_isi (by decide) ?_
      | with_reducible refine ed_len ?_
      | with_reducible refine ed_ix ?_
      | with_reducible refine ed_call ?_
      | with_reducible refine ea_cons ?_
      | with_reducible refine ea_nil ?_
      | with_reducible refine ed_eq ?_
      | with_reducible refine ed_ne ?_
      | with_reducible refine ed_eqD ?_
      | with_reducible refine ed_lt ?_
      | with_reducible refine ed_le ?_
      | with_reducible refine ed_gt ?_
      | with_reducible refine ed_ge ?_
      | with_reducible refine ed_isN ?_
      | with_reducible refine ed_notN ?_
      | with_reducible refine ed_strOf ?_
      | refine ift (by rfl) ?_
      | refine iff' (by rfl) ?_
      | refine ift (by assumption) ?_
      | refine iff' (by assumption) ?_
      | (refine ift ?_ ?_; focus (simp only [*] <;> first | done | rfl))
      | (refine iff' ?_ ?_; focus (simp only [*] <;> first | done | rfl))
      | (refine ift ?_ ?_; focus (simp [*]; done))
      | (refine iff' ?_ ?_; focus (simp [*]; done))
      | refine ex_is_integer ?_
      | refine ex_is_count ?_
      | refine ex_is_row_looks ?_ ?_
      | refine ex_is_key ?_ ?_
      | refine ex_is_operation_value ?_ ?_
      | refine ex_is_content_value ?_ ?_
      | with_reducible refine And.intro (shp_e (by assumption)) ?_
      | with_reducible refine And.intro (by assumption) ?_
      | with_reducible refine And.intro (by intro s h; cases h) ?_
      | refine And.intro (by rfl) ?_
      | refine Exists.intro _ (And.intro rfl ?_)
      | refine ix_tup0 (by rfl) ?_
      | refine ix_tup1 (by rfl) ?_
      | refine ix_tup2 (by rfl) ?_
      | refine ix_tup3 (by rfl) ?_
      | refine Exists.intro _ (Exists.intro _ (And.intro rfl (And.intro rfl ?_)))⟩
theorem se_is_one_of : SemD K C_is_one_of (t_is_one_of K) 2 2 := fun ds d ⟨x, ws, e, hd⟩ => ⟨by rw [e] <;> rfl, by
  subst e hd
  show Sd K W0 (t_is_one_of K) [.val x, .val (.tuple (ws.map .str))] _ _
  unfold t_is_one_of
  cases x with
  | str s => exact sd_ret (ed_and (ed_isi (by decide) (ed_var rfl ⟨_, rfl, ift rfl (ed_inT (ed_var rfl (ed_var rfl ⟨s, ws, rfl, rfl, rfl⟩)))⟩)))
  | _ =>
    repeat' first
      | rfl
      | assumption
      | with_reducible refine sd_ret ?_
      | with_reducible refine sd_seq ?_
      | with_reducible refine sd_if ?_
      | with_reducible refine sd_next ?_
      | with_reducible refine sd_asg ?_
      | with_reducible refine sd_par ?_
      | with_reducible apply ed_var
      | with_reducible refine ed_non ?_
      | with_reducible refine ed_bl ?_
      | with_reducible refine ed_int ?_
      | with_reducible refine ed_str ?_
      | with_reducible refine et_tB ?_
      | with_reducible refine et_tTest ?_
      | with_reducible refine et_and ?_
      | with_reducible refine et_or ?_
      | with_reducible refine et_not ?_
      | with_reducible refine ed_and ?_
      | with_reducible refine ed_or ?_
      | with_reducible refine ed_not ?_
      | with_reducible refine ed_if ?_
      | with_reducible refine ed_isi (by decide) ?_
      | with_reducible refine ed_len ?_
      | with_reducible refine ed_ix ?_
      | with_reducible refine ed_call ?_
      | with_reducible refine ea_cons ?_
      | with_reducible refine ea_nil ?_
      | with_reducible refine ed_eq ?_
      | with_reducible refine ed_ne ?_
      | with_reducible refine ed_eqD ?_
      | with_reducible refine ed_lt ?_
      | with_reducible refine ed_le ?_
      | with_reducible refine ed_gt ?_
      | with_reducible refine ed_ge ?_
      | with_reducible refine ed_isN ?_
      | with_reducible refine ed_notN ?_
      | with_reducible refine ed_strOf ?_
      | refine ift (by rfl) ?_
      | refine iff' (by rfl) ?_
      | refine ift (by assumption) ?_
      | refine iff' (by assumption) ?_
      | (refine ift ?_ ?_; focus (simp only [*] <;> first | done | rfl))
      | (refine iff' ?_ ?_; focus (simp only [*] <;> first | done | rfl))
      | (refine ift ?_ ?_; focus (simp [*]; done))
      | (refine iff' ?_ ?_; focus (simp [*]; done))
      | refine ex_is_integer ?_
      | refine ex_is_count ?_
      | refine ex_is_row_looks ?_ ?_
      | refine ex_is_key ?_ ?_
      | refine ex_is_operation_value ?_ ?_
      | refine ex_is_content_value ?_ ?_
      | with_reducible refine And.intro (shp_e (by assumption)) ?_
      | with_reducible refine And.intro (by assumption) ?_
      | with_reducible refine And.intro (by intro s h; cases h) ?_
      | refine And.intro (by rfl) ?_
      | refine Exists.intro _ (And.intro rfl ?_)
      | refine ix_tup0 (by rfl) ?_
      | refine ix_tup1 (by rfl) ?_
      | refine ix_tup2 (by rfl) ?_
      | refine ix_tup3 (by rfl) ?_
      | refine Exists.intro _ (Exists.intro _ (And.intro rfl (And.intro rfl ?_)))⟩
theorem zip_at {l : List Str} {x : PyData} (h : x ∈ pairsD (l.map .str) ((l.map .str).drop 1)) : ∃ a b : Str, x = .tuple [.str a, .str b] := by
  unfold pairsD at h
  obtain ⟨p, hp, rfl⟩ := List.mem_map.mp h
  obtain ⟨h1, h2⟩ := List.of_mem_zip hp
  obtain ⟨a, _, ea⟩ := List.mem_map.mp h1
  obtain ⟨b, _, eb⟩ := List.mem_map.mp (List.mem_of_mem_drop h2)
  exact ⟨a, b, by rw [← ea, ← eb]⟩
def ltP : PyData → Bool
  | .tuple [.str a, .str b] => ltS a b
  | _ => false
theorem ris_zip : ∀ l : List Str, (pairsD (l.map .str) ((l.map .str).drop 1)).all ltP = risS l
  | [] => rfl
  | [_] => rfl
  | a :: b :: r => by
    show (ltS a b && (pairsD ((b :: r).map .str) (((b :: r).map .str).drop 1)).all ltP) = (ltS a b && risS (b :: r))
    rw [ris_zip (b :: r)]
theorem pairs_small {l m : List PyData} (h : l.length ≤ 600) : (pairsD l m).length ≤ 100000 := by
  rw [pairs_len]; omega
theorem se_is_rising : SemD K C_is_rising (t_is_rising K) 1 3 := fun ds d ⟨l, e, f, hd⟩ => ⟨by rw [e] <;> rfl, by
  subst e hd
  show Sd K W0 (t_is_rising K) [.val (.list (l.map .str)), .any, .any] _ _
  unfold t_is_rising
  refine sd_ret (ed_allLc (gs := [1, 2]) (by decide) (ei_zip (ed_var rfl ⟨_, rfl, ed_slL (ed_var rfl ⟨_, rfl, eo_some (ed_int ⟨1, rfl, eo_none ?_⟩)⟩)⟩)))
  rw [show (some (1 : Int)) = some ((1 : Nat) : Int) from rfl, cut_from]
  refine ⟨_, rfl, pairs_small (by rw [List.length_map]; exact f), ltP, fun x hx => ?_, by rw [ris_zip]⟩
  obtain ⟨a, b, rfl⟩ := zip_at hx
  exact eg_tup2 (ed_ltS (ed_var rfl (ed_var rfl ⟨a, b, rfl, rfl, rfl⟩)))⟩
def inLet : PyData → Bool
  | .str s => match s.cps.toList with
    | [c] => decide (c ∈ LET.cps.toList)
    | _ => false
  | _ => false
theorem sign_at {s : Str} {x : PyData} (h : x ∈ signs s) : ∃ c, x = .str ⟨#[c]⟩ := by
  obtain ⟨c, _, rfl⟩ := List.mem_map.mp h
  exact ⟨c, rfl⟩
theorem signs_len (s : Str) : (signs s).length = s.length := by
  unfold signs
  rw [List.length_map]
  exact Array.length_toList
theorem se_is_key : SemD K C_is_key (t_is_key K) 1 2 := fun ds d ⟨x, e, f, hd⟩ => ⟨by rw [e] <;> rfl, by
  subst e hd
  show Sd K W0 (t_is_key K) [.val x, .any] _ _
  unfold t_is_key
  cases x with
  | str s =>
    have hl := (fine_str f).1
    refine sd_ret (ed_and (ed_isi (by decide) (ed_var rfl ⟨_, rfl, ift rfl ?_⟩)))
    show Ed K W0 _ _ (fun r => r = .bool (keyS s))
    have last : ∀ b : Bool, b = true → Ed K W0 (tCB (rAll K) (tCons (tLc (iStr (tVar 0)) (gName 1) tYes (tOp qInC (tVar 1) (tC (.str "abcdefghijklmnopqrstuvwxyz"))) [1]) tNil)) [.val (.str s), .any] (fun r => r = .bool (b && s.cps.toList.all fun c => decide (c ∈ LET.cps.toList))) := fun b hb => by
      refine ed_allLc (gs := [1]) (by decide) (ei_str (ed_var rfl ⟨s, rfl, ?_⟩))
      refine ⟨by rw [signs_len]; omega, inLet, fun x hx => ?_, by rw [hb, Bool.true_and, signs_all s (fun c => decide (c ∈ LET.cps.toList)) inLet fun c => rfl]⟩
      obtain ⟨c, rfl⟩ := sign_at hx
      exact eg_name (ed_inC (ed_var rfl (ed_str ⟨c, _, rfl, rfl, rfl⟩)))
    refine ed_and (ed_chain o2_le o2_le (ed_int (ed_len (ed_var rfl ⟨_, rfl, Nat.le_trans hl (by decide), ⟨1, _, rfl, rfl⟩, _, rfl, ?_⟩))))
    unfold keyS
    refine ifc (fun h1 => ed_int ⟨⟨_, _, rfl, rfl⟩, _, rfl, ?_⟩) fun h1 => ⟨_, rfl, iff' rfl ?_⟩
    · have h1' : (1 : Int) ≤ (s.length : Nat) := of_decide_eq_true h1
      have e1 : decide (1 ≤ s.length) = true := decide_eq_true (by omega)
      rw [e1, Bool.true_and]
      refine ifc (fun h2 => ?_) fun h2 => ?_
      · have h2' : ((s.length : Nat) : Int) ≤ 9 := of_decide_eq_true h2
        have e2 : decide (s.length ≤ 9) = true := decide_eq_true (by omega)
        rw [e2]
        exact last true rfl
      · have h2' : ¬ ((s.length : Nat) : Int) ≤ 9 := of_decide_eq_false h2
        have e2 : decide (s.length ≤ 9) = false := decide_eq_false (by omega)
        rw [e2, Bool.false_and]
    · have h1' : ¬ (1 : Int) ≤ (s.length : Nat) := of_decide_eq_false h1
      have e1 : decide (1 ≤ s.length) = false := decide_eq_false (by omega)
      rw [e1, Bool.false_and, Bool.false_and]
  | _ =>
    repeat' first
      | rfl
      | assumption
      | with_reducible refine sd_ret ?_
      | with_reducible refine sd_seq ?_
      | with_reducible refine sd_if ?_
      | with_reducible refine sd_next ?_
      | with_reducible refine sd_asg ?_
      | with_reducible refine sd_par ?_
      | with_reducible apply ed_var
      | with_reducible refine ed_non ?_
      | with_reducible refine ed_bl ?_
      | with_reducible refine ed_int ?_
      | with_reducible refine ed_str ?_
      | with_reducible refine et_tB ?_
      | with_reducible refine et_tTest ?_
      | with_reducible refine et_and ?_
      | with_reducible refine et_or ?_
      | with_reducible refine et_not ?_
      | with_reducible refine ed_and ?_
      | with_reducible refine ed_or ?_
      | with_reducible refine ed_not ?_
      | with_reducible refine ed_if ?_
      | with_reducible refine ed_isi (by decide) ?_
      | with_reducible refine ed_len ?_
      | with_reducible refine ed_ix ?_
      | with_reducible refine ed_call ?_
      | with_reducible refine ea_cons ?_
      | with_reducible refine ea_nil ?_
      | with_reducible refine ed_eq ?_
      | with_reducible refine ed_ne ?_
      | with_reducible refine ed_eqD ?_
      | with_reducible refine ed_lt ?_
      | with_reducible refine ed_le ?_
      | with_reducible refine ed_gt ?_
      | with_reducible refine ed_ge ?_
      | with_reducible refine ed_isN ?_
      | with_reducible refine ed_notN ?_
      | with_reducible refine ed_strOf ?_
      | refine ift (by rfl) ?_
      | refine iff' (by rfl) ?_
      | refine ift (by assumption) ?_
      | refine iff' (by assumption) ?_
      | (refine ift ?_ ?_; focus (simp only [*] <;> first | done | rfl))
      | (refine iff' ?_ ?_; focus (simp only [*] <;> first | done | rfl))
      | (refine ift ?_ ?_; focus (simp [*]; done))
      | (refine iff' ?_ ?_; focus (simp [*]; done))
      | refine ex_is_integer ?_
      | refine ex_is_count ?_
      | refine ex_is_row_looks ?_ ?_
      | refine ex_is_key ?_ ?_
      | refine ex_is_operation_value ?_ ?_
      | refine ex_is_content_value ?_ ?_
      | with_reducible refine And.intro (shp_e (by assumption)) ?_
      | with_reducible refine And.intro (by assumption) ?_
      | with_reducible refine And.intro (by intro s h; cases h) ?_
      | refine And.intro (by rfl) ?_
      | refine Exists.intro _ (And.intro rfl ?_)
      | refine ix_tup0 (by rfl) ?_
      | refine ix_tup1 (by rfl) ?_
      | refine ix_tup2 (by rfl) ?_
      | refine ix_tup3 (by rfl) ?_
      | refine Exists.intro _ (Exists.intro _ (And.intro rfl (And.intro rfl ?_)))⟩
theorem look_many (h : Str) : ∀ H : Hp, Dq K H ((lookD [("read", .int 2), ("set", .int 4), ("add", .int 3)] h).getD .non) (match manyOf h with | some n => .int n | none => .none) := fun H => by
  unfold lookD mergeK keyd manyOf
  simp only [List.map, List.foldl, valV_put, Sum.inr.injEq]
  by_cases h1 : h = "read"
  · subst h1
    rw [if_neg (by decide), if_neg (by decide), if_pos rfl, if_pos rfl]
    exact .int 2
  · rw [if_neg h1]
    by_cases h2 : h = "set"
    · subst h2
      rw [if_neg (by decide), if_pos rfl, if_pos rfl]
      exact .int 4
    · rw [if_neg h2]
      by_cases h3 : h = "add"
      · subst h3
        rw [if_pos rfl, if_pos rfl]
        exact .int 3
      · rw [if_neg h3, if_neg h3, if_neg h2, if_neg h1]
        exact .non
theorem se_is_operation_value : SemD K C_is_operation_value (t_is_operation_value K) 1 3 := fun ds d ⟨x, e, f, hd⟩ => ⟨by rw [e] <;> rfl, by
  subst e hd
  show Sd K W0 (t_is_operation_value K) [.val x, .any, .any] _ _
  unfold t_is_operation_value
  cases x with
  | tuple xs =>
    obtain ⟨hl0, hf⟩ := fine_tup f
    have hl : xs.length ≤ sizeLine := Nat.le_trans hl0 (by decide)
    cases xs with
    | nil =>
      repeat' first
        | rfl
        | assumption
        | with_reducible refine sd_ret ?_
        | with_reducible refine sd_seq ?_
        | with_reducible refine sd_if ?_
        | with_reducible refine sd_next ?_
        | with_reducible refine sd_asg ?_
        | with_reducible refine sd_par ?_
        | with_reducible apply ed_var
        | with_reducible refine ed_non ?_
        | with_reducible refine ed_bl ?_
        | with_reducible refine ed_int ?_
        | with_reducible refine ed_str ?_
        | with_reducible refine et_tB ?_
        | with_reducible refine et_tTest ?_
        | with_reducible refine et_and ?_
        | with_reducible refine et_or ?_
        | with_reducible refine et_not ?_
        | with_reducible refine ed_and ?_
        | with_reducible refine ed_or ?_
        | with_reducible refine ed_not ?_
        | with_reducible refine ed_if ?_
        | with_reducible refine ed_isi (by decide) ?_
        | with_reducible refine ed_len ?_
        | with_reducible refine ed_ix ?_
        | with_reducible refine ed_call ?_
        | with_reducible refine ea_cons ?_
        | with_reducible refine ea_nil ?_
        | with_reducible refine ed_eq ?_
        | with_reducible refine ed_ne ?_
        | with_reducible refine ed_eqD ?_
        | with_reducible refine ed_lt ?_
        | with_reducible refine ed_le ?_
        | with_reducible refine ed_gt ?_
        | with_reducible refine ed_ge ?_
        | with_reducible refine ed_isN ?_
        | with_reducible refine ed_notN ?_
        | with_reducible refine ed_strOf ?_
        | refine ift (by rfl) ?_
        | refine iff' (by rfl) ?_
        | refine ift (by assumption) ?_
        | refine iff' (by assumption) ?_
        | (refine ift ?_ ?_; focus (simp only [*] <;> first | done | rfl))
        | (refine iff' ?_ ?_; focus (simp only [*] <;> first | done | rfl))
        | (refine ift ?_ ?_; focus (simp [*]; done))
        | (refine iff' ?_ ?_; focus (simp [*]; done))
        | refine ex_is_integer ?_
        | refine ex_is_count ?_
        | refine ex_is_row_looks ?_ ?_
        | refine ex_is_key ?_ ?_
        | refine ex_is_operation_value ?_ ?_
        | refine ex_is_content_value ?_ ?_
        | with_reducible refine And.intro (shp_e (by assumption)) ?_
        | with_reducible refine And.intro (by assumption) ?_
        | with_reducible refine And.intro (by intro s h; cases h) ?_
        | refine And.intro (by rfl) ?_
        | refine Exists.intro _ (And.intro rfl ?_)
        | refine ix_tup0 (by rfl) ?_
        | refine ix_tup1 (by rfl) ?_
        | refine ix_tup2 (by rfl) ?_
        | refine ix_tup3 (by rfl) ?_
        | refine Exists.intro _ (Exists.intro _ (And.intro rfl (And.intro rfl ?_)))
    | cons a xs =>
      cases xs with
      | nil =>
        have ho : opD (.tuple [a]) = false := by cases a <;> rfl
        rw [ho]
        repeat' first
          | rfl
          | assumption
          | with_reducible refine sd_ret ?_
          | with_reducible refine sd_seq ?_
          | with_reducible refine sd_if ?_
          | with_reducible refine sd_next ?_
          | with_reducible refine sd_asg ?_
          | with_reducible refine sd_par ?_
          | with_reducible apply ed_var
          | with_reducible refine ed_non ?_
          | with_reducible refine ed_bl ?_
          | with_reducible refine ed_int ?_
          | with_reducible refine ed_str ?_
          | with_reducible refine et_tB ?_
          | with_reducible refine et_tTest ?_
          | with_reducible refine et_and ?_
          | with_reducible refine et_or ?_
          | with_reducible refine et_not ?_
          | with_reducible refine ed_and ?_
          | with_reducible refine ed_or ?_
          | with_reducible refine ed_not ?_
          | with_reducible refine ed_if ?_
          | with_reducible refine ed_isi (by decide) ?_
          | with_reducible refine ed_len ?_
          | with_reducible refine ed_ix ?_
          | with_reducible refine ed_call ?_
          | with_reducible refine ea_cons ?_
          | with_reducible refine ea_nil ?_
          | with_reducible refine ed_eq ?_
          | with_reducible refine ed_ne ?_
          | with_reducible refine ed_eqD ?_
          | with_reducible refine ed_lt ?_
          | with_reducible refine ed_le ?_
          | with_reducible refine ed_gt ?_
          | with_reducible refine ed_ge ?_
          | with_reducible refine ed_isN ?_
          | with_reducible refine ed_notN ?_
          | with_reducible refine ed_strOf ?_
          | refine ift (by rfl) ?_
          | refine iff' (by rfl) ?_
          | refine ift (by assumption) ?_
          | refine iff' (by assumption) ?_
          | (refine ift ?_ ?_; focus (simp only [*] <;> first | done | rfl))
          | (refine iff' ?_ ?_; focus (simp only [*] <;> first | done | rfl))
          | (refine ift ?_ ?_; focus (simp [*]; done))
          | (refine iff' ?_ ?_; focus (simp [*]; done))
          | refine ex_is_integer ?_
          | refine ex_is_count ?_
          | refine ex_is_row_looks ?_ ?_
          | refine ex_is_key ?_ ?_
          | refine ex_is_operation_value ?_ ?_
          | refine ex_is_content_value ?_ ?_
          | with_reducible refine And.intro (shp_e (by assumption)) ?_
          | with_reducible refine And.intro (by assumption) ?_
          | with_reducible refine And.intro (by intro s h; cases h) ?_
          | refine And.intro (by rfl) ?_
          | refine Exists.intro _ (And.intro rfl ?_)
          | refine ix_tup0 (by rfl) ?_
          | refine ix_tup1 (by rfl) ?_
          | refine ix_tup2 (by rfl) ?_
          | refine ix_tup3 (by rfl) ?_
          | refine Exists.intro _ (Exists.intro _ (And.intro rfl (And.intro rfl ?_)))
      | cons k rest =>
        have hk5 : fine 5 k = true := fine_up _ _ (hf k (by simp))
        have hc1 : decide ((((a :: k :: rest).length : Nat) : Int) < 2) = false := decide_eq_false (by simp only [List.length_cons]; omega)
        cases a with
        | str h =>
          cases hk : keyD k with
          | false =>
            have ho : opD (.tuple (.str h :: k :: rest)) = false := by simp [opD, hk]
            rw [ho]
            repeat' first
              | rfl
              | assumption
              | with_reducible refine sd_ret ?_
              | with_reducible refine sd_seq ?_
              | with_reducible refine sd_if ?_
              | with_reducible refine sd_next ?_
              | with_reducible refine sd_asg ?_
              | with_reducible refine sd_par ?_
              | with_reducible apply ed_var
              | with_reducible refine ed_non ?_
              | with_reducible refine ed_bl ?_
              | with_reducible refine ed_int ?_
              | with_reducible refine ed_str ?_
              | with_reducible refine et_tB ?_
              | with_reducible refine et_tTest ?_
              | with_reducible refine et_and ?_
              | with_reducible refine et_or ?_
              | with_reducible refine et_not ?_
              | with_reducible refine ed_and ?_
              | with_reducible refine ed_or ?_
              | with_reducible refine ed_not ?_
              | with_reducible refine ed_if ?_
              | with_reducible refine ed_isi (by decide) ?_
              | with_reducible refine ed_len ?_
              | with_reducible refine ed_ix ?_
              | with_reducible refine ed_call ?_
              | with_reducible refine ea_cons ?_
              | with_reducible refine ea_nil ?_
              | with_reducible refine ed_eq ?_
              | with_reducible refine ed_ne ?_
              | with_reducible refine ed_eqD ?_
              | with_reducible refine ed_lt ?_
              | with_reducible refine ed_le ?_
              | with_reducible refine ed_gt ?_
              | with_reducible refine ed_ge ?_
              | with_reducible refine ed_isN ?_
              | with_reducible refine ed_notN ?_
              | with_reducible refine ed_strOf ?_
              | refine ift (by rfl) ?_
              | refine iff' (by rfl) ?_
              | refine ift (by assumption) ?_
              | refine iff' (by assumption) ?_
              | (refine ift ?_ ?_; focus (simp only [*] <;> first | done | rfl))
              | (refine iff' ?_ ?_; focus (simp only [*] <;> first | done | rfl))
              | (refine ift ?_ ?_; focus (simp [*]; done))
              | (refine iff' ?_ ?_; focus (simp [*]; done))
              | refine ex_is_integer ?_
              | refine ex_is_count ?_
              | refine ex_is_row_looks ?_ ?_
              | refine ex_is_key ?_ ?_
              | refine ex_is_operation_value ?_ ?_
              | refine ex_is_content_value ?_ ?_
              | with_reducible refine And.intro (shp_e (by assumption)) ?_
              | with_reducible refine And.intro (by assumption) ?_
              | with_reducible refine And.intro (by intro s h; cases h) ?_
              | refine And.intro (by rfl) ?_
              | refine Exists.intro _ (And.intro rfl ?_)
              | refine ix_tup0 (by rfl) ?_
              | refine ix_tup1 (by rfl) ?_
              | refine ix_tup2 (by rfl) ?_
              | refine ix_tup3 (by rfl) ?_
              | refine Exists.intro _ (Exists.intro _ (And.intro rfl (And.intro rfl ?_)))
          | true =>
            have ho : opD (.tuple (.str h :: k :: rest)) = (decide (manyOf h = some (rest.length + 2)) && rest.all isI) := by simp [opD, hk]
            rw [ho]
            have go : Sd K W0 (tSeq (tAsg (tDGet1 (tDisp (litT [("read", .int 2), ("set", .int 4), ("add", .int 3)])) (tOp (rIx K) (tVar 0) (tC (.int 0)))) (gName 1)) (tRet (tAndV (tOp rEq (tCB (qLen K) (tCons (tVar 0) tNil)) (tVar 1)) (tCB (rAll K) (tCons (tLc (iTup K (tSl (rSlA K) (tVar 0) (tPart (tC (.int 2))) tNoPart)) (gName 2) tYes (tCall (sp_is_integer K) [] E0 (tCons (tVar 2) tNil)) [2]) tNil)))))
                [.val (.tuple (.str h :: k :: rest)), .any, .any] (fun _ => PyData.bool (decide (manyOf h = some (rest.length + 2)) && rest.all isI) = .none) (fun r => r = .bool (decide (manyOf h = some (rest.length + 2)) && rest.all isI)) := by
              refine sd_seq (sd_asg (ed_get1 (by decide) (ed_ix (ed_var rfl (ed_int (ix_tup0 rfl ⟨h, _, rfl, look_many h, ?_⟩))))))
              refine sd_ret (ed_and (ed_eq (ed_len (ed_var rfl ⟨_, rfl, hl, ed_var rfl ⟨?_, _, rfl, ?_⟩⟩))))
              · cases manyOf h <;> rfl
              · have e1 : PyData.eqv (.int (((.str h :: k :: rest : List PyData).length : Nat) : Int)) (match manyOf h with | some n => .int n | none => .none) = decide (manyOf h = some (rest.length + 2)) := by
                  cases hm : manyOf h with
                  | none => rfl
                  | some n =>
                    show ((((.str h :: k :: rest : List PyData).length : Nat) : Int) == (n : Int)) = decide (some n = some (rest.length + 2))
                    rw [Bool.eq_iff_iff]
                    simp only [List.length_cons, beq_iff_eq, decide_eq_true_eq, Option.some.injEq]
                    omega
                rw [e1]
                refine ifc (fun h1 => ?_) fun h1 => by rw [h1, Bool.false_and]
                rw [h1, Bool.true_and]
                refine ed_allLc (gs := [2]) (by decide) (ei_tup (ed_slT (ed_var rfl ⟨_, rfl, eo_some (ed_int ⟨2, rfl, eo_none ⟨_, rfl, ?_⟩⟩)⟩)))
                rw [show (some (2 : Int)) = some ((2 : Nat) : Int) from rfl, cut_from]
                exact ⟨by simp only [List.length_cons] at hl0; simp only [List.drop_succ_cons, List.drop_zero]; omega, isI, fun x hx => eg_name (ed_call (ea_cons (ed_var rfl (ea_nil (ex_is_integer rfl))))), rfl⟩
            skip
            repeat' first
              | rfl
              | assumption
              | with_reducible refine sd_ret ?_
              | with_reducible refine sd_seq ?_
              | with_reducible refine sd_if ?_
              | with_reducible refine sd_next ?_
              | with_reducible refine sd_asg ?_
              | with_reducible refine sd_par ?_
              | with_reducible apply ed_var
              | with_reducible refine ed_non ?_
              | with_reducible refine ed_bl ?_
              | with_reducible refine ed_int ?_
              | with_reducible refine ed_str ?_
              | with_reducible refine et_tB ?_
              | with_reducible refine et_tTest ?_
              | with_reducible refine et_and ?_
              | with_reducible refine et_or ?_
              | with_reducible refine et_not ?_
              | with_reducible refine ed_and ?_
              | with_reducible refine ed_or ?_
              | with_reducible refine ed_not ?_
              | with_reducible refine ed_if ?_
              | with_reducible refine ed_isi (by decide) ?_
              | with_reducible refine ed_len ?_
              | with_reducible refine ed_ix ?_
              | with_reducible refine ed_call ?_
              | with_reducible refine ea_cons ?_
              | with_reducible refine ea_nil ?_
              | with_reducible refine ed_eq ?_
              | with_reducible refine ed_ne ?_
              | with_reducible refine ed_eqD ?_
              | with_reducible refine ed_lt ?_
              | with_reducible refine ed_le ?_
              | with_reducible refine ed_gt ?_
              | with_reducible refine ed_ge ?_
              | with_reducible refine ed_isN ?_
              | with_reducible refine ed_notN ?_
              | with_reducible refine ed_strOf ?_
              | refine ift (by rfl) ?_
              | refine iff' (by rfl) ?_
              | refine ift (by assumption) ?_
              | refine iff' (by assumption) ?_
              | (refine ift ?_ ?_; focus (simp only [*] <;> first | done | rfl))
              | (refine iff' ?_ ?_; focus (simp only [*] <;> first | done | rfl))
              | (refine ift ?_ ?_; focus (simp [*]; done))
              | (refine iff' ?_ ?_; focus (simp [*]; done))
              | refine ex_is_integer ?_
              | refine ex_is_count ?_
              | refine ex_is_row_looks ?_ ?_
              | refine ex_is_key ?_ ?_
              | refine ex_is_operation_value ?_ ?_
              | refine ex_is_content_value ?_ ?_
              | with_reducible refine And.intro (shp_e (by assumption)) ?_
              | with_reducible refine And.intro (by assumption) ?_
              | with_reducible refine And.intro (by intro s h; cases h) ?_
              | refine And.intro (by rfl) ?_
              | refine Exists.intro _ (And.intro rfl ?_)
              | refine ix_tup0 (by rfl) ?_
              | refine ix_tup1 (by rfl) ?_
              | refine ix_tup2 (by rfl) ?_
              | refine ix_tup3 (by rfl) ?_
              | refine Exists.intro _ (Exists.intro _ (And.intro rfl (And.intro rfl ?_)))
        | _ =>
          repeat' first
            | rfl
            | assumption
            | with_reducible refine sd_ret ?_
            | with_reducible refine sd_seq ?_
            | with_reducible refine sd_if ?_
            | with_reducible refine sd_next ?_
            | with_reducible refine sd_asg ?_
            | with_reducible refine sd_par ?_
            | with_reducible apply ed_var
            | with_reducible refine ed_non ?_
            | with_reducible refine ed_bl ?_
            | with_reducible refine ed_int ?_
            | with_reducible refine ed_str ?_
            | with_reducible refine et_tB ?_
            | with_reducible refine et_tTest ?_
            | with_reducible refine et_and ?_
            | with_reducible refine et_or ?_
            | with_reducible refine et_not ?_
            | with_reducible refine ed_and ?_
            | with_reducible refine ed_or ?_
            | with_reducible refine ed_not ?_
            | with_reducible refine ed_if ?_
            | with_reducible refine ed_isi (by decide) ?_
            | with_reducible refine ed_len ?_
            | with_reducible refine ed_ix ?_
            | with_reducible refine ed_call ?_
            | with_reducible refine ea_cons ?_
            | with_reducible refine ea_nil ?_
            | with_reducible refine ed_eq ?_
            | with_reducible refine ed_ne ?_
            | with_reducible refine ed_eqD ?_
            | with_reducible refine ed_lt ?_
            | with_reducible refine ed_le ?_
            | with_reducible refine ed_gt ?_
            | with_reducible refine ed_ge ?_
            | with_reducible refine ed_isN ?_
            | with_reducible refine ed_notN ?_
            | with_reducible refine ed_strOf ?_
            | refine ift (by rfl) ?_
            | refine iff' (by rfl) ?_
            | refine ift (by assumption) ?_
            | refine iff' (by assumption) ?_
            | (refine ift ?_ ?_; focus (simp only [*] <;> first | done | rfl))
            | (refine iff' ?_ ?_; focus (simp only [*] <;> first | done | rfl))
            | (refine ift ?_ ?_; focus (simp [*]; done))
            | (refine iff' ?_ ?_; focus (simp [*]; done))
            | refine ex_is_integer ?_
            | refine ex_is_count ?_
            | refine ex_is_row_looks ?_ ?_
            | refine ex_is_key ?_ ?_
            | refine ex_is_operation_value ?_ ?_
            | refine ex_is_content_value ?_ ?_
            | with_reducible refine And.intro (shp_e (by assumption)) ?_
            | with_reducible refine And.intro (by assumption) ?_
            | with_reducible refine And.intro (by intro s h; cases h) ?_
            | refine And.intro (by rfl) ?_
            | refine Exists.intro _ (And.intro rfl ?_)
            | refine ix_tup0 (by rfl) ?_
            | refine ix_tup1 (by rfl) ?_
            | refine ix_tup2 (by rfl) ?_
            | refine ix_tup3 (by rfl) ?_
            | refine Exists.intro _ (Exists.intro _ (And.intro rfl (And.intro rfl ?_)))
  | _ =>
    repeat' first
      | rfl
      | assumption
      | with_reducible refine sd_ret ?_
      | with_reducible refine sd_seq ?_
      | with_reducible refine sd_if ?_
      | with_reducible refine sd_next ?_
      | with_reducible refine sd_asg ?_
      | with_reducible refine sd_par ?_
      | with_reducible apply ed_var
      | with_reducible refine ed_non ?_
      | with_reducible refine ed_bl ?_
      | with_reducible refine ed_int ?_
      | with_reducible refine ed_str ?_
      | with_reducible refine et_tB ?_
      | with_reducible refine et_tTest ?_
      | with_reducible refine et_and ?_
      | with_reducible refine et_or ?_
      | with_reducible refine et_not ?_
      | with_reducible refine ed_and ?_
      | with_reducible refine ed_or ?_
      | with_reducible refine ed_not ?_
      | with_reducible refine ed_if ?_
      | with_reducible refine ed_isi (by decide) ?_
      | with_reducible refine ed_len ?_
      | with_reducible refine ed_ix ?_
      | with_reducible refine ed_call ?_
      | with_reducible refine ea_cons ?_
      | with_reducible refine ea_nil ?_
      | with_reducible refine ed_eq ?_
      | with_reducible refine ed_ne ?_
      | with_reducible refine ed_eqD ?_
      | with_reducible refine ed_lt ?_
      | with_reducible refine ed_le ?_
      | with_reducible refine ed_gt ?_
      | with_reducible refine ed_ge ?_
      | with_reducible refine ed_isN ?_
      | with_reducible refine ed_notN ?_
      | with_reducible refine ed_strOf ?_
      | refine ift (by rfl) ?_
      | refine iff' (by rfl) ?_
      | refine ift (by assumption) ?_
      | refine iff' (by assumption) ?_
      | (refine ift ?_ ?_; focus (simp only [*] <;> first | done | rfl))
      | (refine iff' ?_ ?_; focus (simp only [*] <;> first | done | rfl))
      | (refine ift ?_ ?_; focus (simp [*]; done))
      | (refine iff' ?_ ?_; focus (simp [*]; done))
      | refine ex_is_integer ?_
      | refine ex_is_count ?_
      | refine ex_is_row_looks ?_ ?_
      | refine ex_is_key ?_ ?_
      | refine ex_is_operation_value ?_ ?_
      | refine ex_is_content_value ?_ ?_
      | with_reducible refine And.intro (shp_e (by assumption)) ?_
      | with_reducible refine And.intro (by assumption) ?_
      | with_reducible refine And.intro (by intro s h; cases h) ?_
      | refine And.intro (by rfl) ?_
      | refine Exists.intro _ (And.intro rfl ?_)
      | refine ix_tup0 (by rfl) ?_
      | refine ix_tup1 (by rfl) ?_
      | refine ix_tup2 (by rfl) ?_
      | refine ix_tup3 (by rfl) ?_
      | refine Exists.intro _ (Exists.intro _ (And.intro rfl (And.intro rfl ?_)))⟩
end
end K61
end

section
set_option Elab.async false
set_option linter.all false
set_option maxRecDepth 100000
set_option maxHeartbeats 4000000
namespace K61
open PySem PySem.Spec L2
section
variable {K : PySem.W.Frag}
theorem str_beq_empty (low : Str) : PyData.eqv (.str low) (.str "") = decide (low = Str.empty) := by
  show (low == Str.ofString "") = decide (low = Str.empty)
  rw [Bool.beq_eq_decide_eq]
  rfl
theorem not_three {xs : List PyData} (h : ¬ ∃ a b c, xs = [a, b, c]) : contD (.tuple xs) = false ∧ isTupN 3 (.tuple xs) = false := by
  match xs, h with
  | [], _ => exact ⟨rfl, rfl⟩
  | [a], _ => exact ⟨by cases a <;> rfl, rfl⟩
  | [a, b], _ => exact ⟨by cases a <;> first | rfl | (cases b <;> rfl), rfl⟩
  | [a, b, c], h => exact absurd ⟨a, b, c, rfl⟩ h
  | a :: b :: c :: d :: r, _ => exact ⟨by cases a <;> first | rfl | (cases b <;> rfl), by
    show decide ((((a :: b :: c :: d :: r).length : Nat) : Int) = 3) = false
    exact decide_eq_false (by simp only [List.length_cons]; omega)⟩
theorem ent_pair {low : Str} {x : PyData} (h : isTupN 2 x = false) : entD low x = false := by
  match x, h with
  | .tuple [a, b], h => cases h
  | .tuple [], _ => rfl
  | .tuple [a], _ => cases a <;> rfl
  | .tuple (a :: b :: c :: r), _ => cases a <;> first | rfl | (cases b <;> rfl)
  | .none, _ => rfl
  | .bool _, _ => rfl
  | .int _, _ => rfl
  | .str _, _ => rfl
  | .list _, _ => rfl
  | .dict _, _ => rfl
theorem ent_all {low : Str} {es : List PyData} (h : es.all (isTupN 2) = false) : es.all (entD low) = false := by
  rw [List.all_eq_false] at h ⊢
  obtain ⟨x, hx, hn⟩ := h
  exact ⟨x, hx, by rw [ent_pair (by cases q : isTupN 2 x with | true => exact absurd q hn | false => rfl)]; exact Bool.false_ne_true⟩
theorem pair_of {x : PyData} (h : isTupN 2 x = true) : ∃ k w, x = .tuple [k, w] := by
  match x, h with
  | .tuple [a, b], _ => exact ⟨a, b, rfl⟩
  | .tuple (a :: b :: c :: r), h =>
    have h' : decide ((((a :: b :: c :: r).length : Nat) : Int) = 2) = true := h
    exact absurd (of_decide_eq_true h') (by simp only [List.length_cons]; omega)
theorem se_is_content_value : SemD K C_is_content_value (t_is_content_value K) 1 7 := fun ds d ⟨x, e, f, hd⟩ => ⟨by rw [e] <;> rfl, by
  subst e hd
  show Sd K W0 (t_is_content_value K) [.val x, .any, .any, .any, .any, .any, .any] _ _
  unfold t_is_content_value
  cases x with
  | none =>
    repeat' first
      | rfl
      | assumption
      | with_reducible refine sd_ret ?_
      | with_reducible refine sd_seq ?_
      | with_reducible refine sd_if ?_
      | with_reducible refine sd_next ?_
      | with_reducible refine sd_asg ?_
      | with_reducible refine sd_par ?_
      | with_reducible apply ed_var
      | with_reducible refine ed_non ?_
      | with_reducible refine ed_bl ?_
      | with_reducible refine ed_int ?_
      | with_reducible refine ed_str ?_
      | with_reducible refine et_tB ?_
      | with_reducible refine et_tTest ?_
      | with_reducible refine et_and ?_
      | with_reducible refine et_or ?_
      | with_reducible refine et_not ?_
      | with_reducible refine ed_and ?_
      | with_reducible refine ed_or ?_
      | with_reducible refine ed_not ?_
      | with_reducible refine ed_if ?_
      | with_reducible refine ed_isi (by decide) ?_
      | with_reducible refine ed_len ?_
      | with_reducible refine ed_ix ?_
      | with_reducible refine ed_call ?_
      | with_reducible refine ea_cons ?_
      | with_reducible refine ea_nil ?_
      | with_reducible refine ed_eq ?_
      | with_reducible refine ed_ne ?_
      | with_reducible refine ed_eqD ?_
      | with_reducible refine ed_lt ?_
      | with_reducible refine ed_le ?_
      | with_reducible refine ed_gt ?_
      | with_reducible refine ed_ge ?_
      | with_reducible refine ed_isN ?_
      | with_reducible refine ed_notN ?_
      | with_reducible refine ed_strOf ?_
      | refine ift (by rfl) ?_
      | refine iff' (by rfl) ?_
      | refine ift (by assumption) ?_
      | refine iff' (by assumption) ?_
      | (refine ift ?_ ?_; focus (simp only [*] <;> first | done | rfl))
      | (refine iff' ?_ ?_; focus (simp only [*] <;> first | done | rfl))
      | (refine ift ?_ ?_; focus (simp [*]; done))
      | (refine iff' ?_ ?_; focus (simp [*]; done))
      | refine ex_is_integer ?_
      | refine ex_is_count ?_
      | refine ex_is_row_looks ?_ ?_
      | refine ex_is_key ?_ ?_
      | refine ex_is_operation_value ?_ ?_
      | refine ex_is_content_value ?_ ?_
      | with_reducible refine And.intro (shp_e (by assumption)) ?_
      | with_reducible refine And.intro (by assumption) ?_
      | with_reducible refine And.intro (by intro s h; cases h) ?_
      | refine And.intro (by rfl) ?_
      | refine Exists.intro _ (And.intro rfl ?_)
      | refine ix_tup0 (by rfl) ?_
      | refine ix_tup1 (by rfl) ?_
      | refine ix_tup2 (by rfl) ?_
      | refine ix_tup3 (by rfl) ?_
      | refine Exists.intro _ (Exists.intro _ (And.intro rfl (And.intro rfl ?_)))
  | tuple xs =>
    by_cases h3 : ∃ a b c, xs = [a, b, c]
    · obtain ⟨a, b, c, rfl⟩ := h3
      have hf := (fine_tup f).2
      have fa : fine 5 a = true := fine_up _ _ (hf a (by simp))
      have fb : fine 5 b = true := fine_up _ _ (hf b (by simp))
      have fc : fine 5 c = true := fine_up _ _ (hf c (by simp))
      have isr : isTupN 3 (.tuple [a, b, c]) = true := rfl
      cases a with
      | str low =>
        refine sd_seq (sd_if (et_tTest (ed_isN (ed_var rfl ⟨_, rfl, iff' rfl (sd_next (sd_seq (sd_if (Et.mono (P := fun b => b = !(decide (low = Str.empty) || keyS low)) ?t2 ?_))))⟩))))
        case t2 =>
          have hb := str_beq_empty low
          cases hl : decide (low = Str.empty) with
          | true =>
            rw [hl] at hb
            repeat' first
              | rfl
              | assumption
              | with_reducible refine sd_ret ?_
              | with_reducible refine sd_seq ?_
              | with_reducible refine sd_if ?_
              | with_reducible refine sd_next ?_
              | with_reducible refine sd_asg ?_
              | with_reducible refine sd_par ?_
              | with_reducible apply ed_var
              | with_reducible refine ed_non ?_
              | with_reducible refine ed_bl ?_
              | with_reducible refine ed_int ?_
              | with_reducible refine ed_str ?_
              | with_reducible refine et_tB ?_
              | with_reducible refine et_tTest ?_
              | with_reducible refine et_and ?_
              | with_reducible refine et_or ?_
              | with_reducible refine et_not ?_
              | with_reducible refine ed_and ?_
              | with_reducible refine ed_or ?_
              | with_reducible refine ed_not ?_
              | with_reducible refine ed_if ?_
              | with_reducible refine ed_isi (by decide) ?_
              | with_reducible refine ed_len ?_
              | with_reducible refine ed_ix ?_
              | with_reducible refine ed_call ?_
              | with_reducible refine ea_cons ?_
              | with_reducible refine ea_nil ?_
              | with_reducible refine ed_eq ?_
              | with_reducible refine ed_ne ?_
              | with_reducible refine ed_eqD ?_
              | with_reducible refine ed_lt ?_
              | with_reducible refine ed_le ?_
              | with_reducible refine ed_gt ?_
              | with_reducible refine ed_ge ?_
              | with_reducible refine ed_isN ?_
              | with_reducible refine ed_notN ?_
              | with_reducible refine ed_strOf ?_
              | refine ift (by rfl) ?_
              | refine iff' (by rfl) ?_
              | refine ift (by assumption) ?_
              | refine iff' (by assumption) ?_
              | (refine ift ?_ ?_; focus (simp only [*] <;> first | done | rfl))
              | (refine iff' ?_ ?_; focus (simp only [*] <;> first | done | rfl))
              | (refine ift ?_ ?_; focus (simp [*]; done))
              | (refine iff' ?_ ?_; focus (simp [*]; done))
              | refine ex_is_integer ?_
              | refine ex_is_count ?_
              | refine ex_is_row_looks ?_ ?_
              | refine ex_is_key ?_ ?_
              | refine ex_is_operation_value ?_ ?_
              | refine ex_is_content_value ?_ ?_
              | with_reducible refine And.intro (shp_e (by assumption)) ?_
              | with_reducible refine And.intro (by assumption) ?_
              | with_reducible refine And.intro (by intro s h; cases h) ?_
              | refine And.intro (by rfl) ?_
              | refine Exists.intro _ (And.intro rfl ?_)
              | refine ix_tup0 (by rfl) ?_
              | refine ix_tup1 (by rfl) ?_
              | refine ix_tup2 (by rfl) ?_
              | refine ix_tup3 (by rfl) ?_
              | refine Exists.intro _ (Exists.intro _ (And.intro rfl (And.intro rfl ?_)))
          | false =>
            rw [hl] at hb
            cases hk : keyD (.str low) with
            | true =>
              have hk' : keyS low = true := hk
              repeat' first
                | rfl
                | assumption
                | with_reducible refine sd_ret ?_
                | with_reducible refine sd_seq ?_
                | with_reducible refine sd_if ?_
                | with_reducible refine sd_next ?_
                | with_reducible refine sd_asg ?_
                | with_reducible refine sd_par ?_
                | with_reducible apply ed_var
                | with_reducible refine ed_non ?_
                | with_reducible refine ed_bl ?_
                | with_reducible refine ed_int ?_
                | with_reducible refine ed_str ?_
                | with_reducible refine et_tB ?_
                | with_reducible refine et_tTest ?_
                | with_reducible refine et_and ?_
                | with_reducible refine et_or ?_
                | with_reducible refine et_not ?_
                | with_reducible refine ed_and ?_
                | with_reducible refine ed_or ?_
                | with_reducible refine ed_not ?_
                | with_reducible refine ed_if ?_
                | with_reducible refine ed_isi (by decide) ?_
                | with_reducible refine ed_len ?_
                | with_reducible refine ed_ix ?_
                | with_reducible refine ed_call ?_
                | with_reducible refine ea_cons ?_
                | with_reducible refine ea_nil ?_
                | with_reducible refine ed_eq ?_
                | with_reducible refine ed_ne ?_
                | with_reducible refine ed_eqD ?_
                | with_reducible refine ed_lt ?_
                | with_reducible refine ed_le ?_
                | with_reducible refine ed_gt ?_
                | with_reducible refine ed_ge ?_
                | with_reducible refine ed_isN ?_
                | with_reducible refine ed_notN ?_
                | with_reducible refine ed_strOf ?_
                | refine ift (by rfl) ?_
                | refine iff' (by rfl) ?_
                | refine ift (by assumption) ?_
                | refine iff' (by assumption) ?_
                | (refine ift ?_ ?_; focus (simp only [*] <;> first | done | rfl))
                | (refine iff' ?_ ?_; focus (simp only [*] <;> first | done | rfl))
                | (refine ift ?_ ?_; focus (simp [*]; done))
                | (refine iff' ?_ ?_; focus (simp [*]; done))
                | refine ex_is_integer ?_
                | refine ex_is_count ?_
                | refine ex_is_row_looks ?_ ?_
                | refine ex_is_key ?_ ?_
                | refine ex_is_operation_value ?_ ?_
                | refine ex_is_content_value ?_ ?_
                | with_reducible refine And.intro (shp_e (by assumption)) ?_
                | with_reducible refine And.intro (by assumption) ?_
                | with_reducible refine And.intro (by intro s h; cases h) ?_
                | refine And.intro (by rfl) ?_
                | refine Exists.intro _ (And.intro rfl ?_)
                | refine ix_tup0 (by rfl) ?_
                | refine ix_tup1 (by rfl) ?_
                | refine ix_tup2 (by rfl) ?_
                | refine ix_tup3 (by rfl) ?_
                | refine Exists.intro _ (Exists.intro _ (And.intro rfl (And.intro rfl ?_)))
            | false =>
              have hk' : keyS low = false := hk
              repeat' first
                | rfl
                | assumption
                | with_reducible refine sd_ret ?_
                | with_reducible refine sd_seq ?_
                | with_reducible refine sd_if ?_
                | with_reducible refine sd_next ?_
                | with_reducible refine sd_asg ?_
                | with_reducible refine sd_par ?_
                | with_reducible apply ed_var
                | with_reducible refine ed_non ?_
                | with_reducible refine ed_bl ?_
                | with_reducible refine ed_int ?_
                | with_reducible refine ed_str ?_
                | with_reducible refine et_tB ?_
                | with_reducible refine et_tTest ?_
                | with_reducible refine et_and ?_
                | with_reducible refine et_or ?_
                | with_reducible refine et_not ?_
                | with_reducible refine ed_and ?_
                | with_reducible refine ed_or ?_
                | with_reducible refine ed_not ?_
                | with_reducible refine ed_if ?_
                | with_reducible refine ed_isi (by decide) ?_
                | with_reducible refine ed_len ?_
                | with_reducible refine ed_ix ?_
                | with_reducible refine ed_call ?_
                | with_reducible refine ea_cons ?_
                | with_reducible refine ea_nil ?_
                | with_reducible refine ed_eq ?_
                | with_reducible refine ed_ne ?_
                | with_reducible refine ed_eqD ?_
                | with_reducible refine ed_lt ?_
                | with_reducible refine ed_le ?_
                | with_reducible refine ed_gt ?_
                | with_reducible refine ed_ge ?_
                | with_reducible refine ed_isN ?_
                | with_reducible refine ed_notN ?_
                | with_reducible refine ed_strOf ?_
                | refine ift (by rfl) ?_
                | refine iff' (by rfl) ?_
                | refine ift (by assumption) ?_
                | refine iff' (by assumption) ?_
                | (refine ift ?_ ?_; focus (simp only [*] <;> first | done | rfl))
                | (refine iff' ?_ ?_; focus (simp only [*] <;> first | done | rfl))
                | (refine ift ?_ ?_; focus (simp [*]; done))
                | (refine iff' ?_ ?_; focus (simp [*]; done))
                | refine ex_is_integer ?_
                | refine ex_is_count ?_
                | refine ex_is_row_looks ?_ ?_
                | refine ex_is_key ?_ ?_
                | refine ex_is_operation_value ?_ ?_
                | refine ex_is_content_value ?_ ?_
                | with_reducible refine And.intro (shp_e (by assumption)) ?_
                | with_reducible refine And.intro (by assumption) ?_
                | with_reducible refine And.intro (by intro s h; cases h) ?_
                | refine And.intro (by rfl) ?_
                | refine Exists.intro _ (And.intro rfl ?_)
                | refine ix_tup0 (by rfl) ?_
                | refine ix_tup1 (by rfl) ?_
                | refine ix_tup2 (by rfl) ?_
                | refine ix_tup3 (by rfl) ?_
                | refine Exists.intro _ (Exists.intro _ (And.intro rfl (And.intro rfl ?_)))
        rintro b0 rfl
        cases hlow : (decide (low = Str.empty) || keyS low) with
        | false =>
          have ho : contD (.tuple [.str low, b, c]) = false := by
            cases b <;> first | rfl | (show ((decide (low = Str.empty) || keyS low) && _) = false; rw [hlow, Bool.false_and])
          rw [ho]
          repeat' first
            | rfl
            | assumption
            | with_reducible refine sd_ret ?_
            | with_reducible refine sd_seq ?_
            | with_reducible refine sd_if ?_
            | with_reducible refine sd_next ?_
            | with_reducible refine sd_asg ?_
            | with_reducible refine sd_par ?_
            | with_reducible apply ed_var
            | with_reducible refine ed_non ?_
            | with_reducible refine ed_bl ?_
            | with_reducible refine ed_int ?_
            | with_reducible refine ed_str ?_
            | with_reducible refine et_tB ?_
            | with_reducible refine et_tTest ?_
            | with_reducible refine et_and ?_
            | with_reducible refine et_or ?_
            | with_reducible refine et_not ?_
            | with_reducible refine ed_and ?_
            | with_reducible refine ed_or ?_
            | with_reducible refine ed_not ?_
            | with_reducible refine ed_if ?_
            | with_reducible refine ed_isi (by decide) ?_
            | with_reducible refine ed_len ?_
            | with_reducible refine ed_ix ?_
            | with_reducible refine ed_call ?_
            | with_reducible refine ea_cons ?_
            | with_reducible refine ea_nil ?_
            | with_reducible refine ed_eq ?_
            | with_reducible refine ed_ne ?_
            | with_reducible refine ed_eqD ?_
            | with_reducible refine ed_lt ?_
            | with_reducible refine ed_le ?_
            | with_reducible refine ed_gt ?_
            | with_reducible refine ed_ge ?_
            | with_reducible refine ed_isN ?_
            | with_reducible refine ed_notN ?_
            | with_reducible refine ed_strOf ?_
            | refine ift (by rfl) ?_
            | refine iff' (by rfl) ?_
            | refine ift (by assumption) ?_
            | refine iff' (by assumption) ?_
            | (refine ift ?_ ?_; focus (simp only [*] <;> first | done | rfl))
            | (refine iff' ?_ ?_; focus (simp only [*] <;> first | done | rfl))
            | (refine ift ?_ ?_; focus (simp [*]; done))
            | (refine iff' ?_ ?_; focus (simp [*]; done))
            | refine ex_is_integer ?_
            | refine ex_is_count ?_
            | refine ex_is_row_looks ?_ ?_
            | refine ex_is_key ?_ ?_
            | refine ex_is_operation_value ?_ ?_
            | refine ex_is_content_value ?_ ?_
            | with_reducible refine And.intro (shp_e (by assumption)) ?_
            | with_reducible refine And.intro (by assumption) ?_
            | with_reducible refine And.intro (by intro s h; cases h) ?_
            | refine And.intro (by rfl) ?_
            | refine Exists.intro _ (And.intro rfl ?_)
            | refine ix_tup0 (by rfl) ?_
            | refine ix_tup1 (by rfl) ?_
            | refine ix_tup2 (by rfl) ?_
            | refine ix_tup3 (by rfl) ?_
            | refine Exists.intro _ (Exists.intro _ (And.intro rfl (And.intro rfl ?_)))
        | true =>
          refine iff' rfl (sd_next (sd_seq (sd_asgG (gs := [1, 2, 3]) (ed_var rfl (eg_tup3 (sd_seq (sd_if ?_)))))))
          cases b with
          | tuple es =>
            obtain ⟨hel, hef⟩ := fine_tup fb
            have hel' : es.length ≤ sizeLine := Nat.le_trans hel (by decide)
            have ho : contD (.tuple [.str low, .tuple es, c]) = (decide (es.length ≤ 3) && (es.all (entD low) && (risS (es.map keyOf) && (isN c || isC c)))) := by
              show ((decide (low = Str.empty) || keyS low) && _) = _
              rw [hlow, Bool.true_and]
            rw [ho]
            refine et_or (et_not (et_tB (ed_isi (by decide) (ed_var rfl ⟨_, rfl, iff' rfl (et_or (et_tTest (ed_gt (ed_len (ed_var rfl ⟨_, rfl, hel', ed_int ⟨_, _, rfl, rfl, _, rfl, ?_⟩⟩)))))⟩))))
            refine ifc (fun h1 => ift rfl (sd_ret (ed_bl ?_))) fun h1 => et_not (et_tB (ed_allLc (gs := [4]) (by decide) (ei_tup (ed_var rfl ⟨_, rfl, by omega, isTupN 2, fun x hx => eg_name (ed_call (ea_cons (ed_var rfl (ea_cons (ed_int (ea_nil (ex_is_row_looks (fine_up _ _ (hef x hx)) rfl))))))), _, rfl, ?_⟩))))
            · have h1' : (3 : Int) < (es.length : Nat) := of_decide_eq_true h1
              rw [decide_eq_false (by omega), Bool.false_and]
            · have h1' : ¬ (3 : Int) < (es.length : Nat) := of_decide_eq_false h1
              rw [decide_eq_true (p := es.length ≤ 3) (by omega), Bool.true_and]
              cases hp : es.all (isTupN 2) with
              | false =>
                rw [ent_all hp, Bool.false_and]
                exact ift rfl (sd_ret (ed_bl rfl))
              | true =>
                have hpx : ∀ x ∈ es, ∃ k w, x = .tuple [k, w] := fun x hx => pair_of (List.all_eq_true.mp hp x hx)
                refine iff' rfl (sd_next (sd_seq (sd_if (et_not (et_tB (ed_allLc (gs := [5, 6]) (by decide) (ei_tup (ed_var rfl ⟨es, rfl, by omega, entD low, fun x hx => ?_, _, rfl, ?_⟩))))))))
                · obtain ⟨k, w, rfl⟩ := hpx x hx
                  have hkw := (fine_tup (hef _ hx)).2
                  have fk : fine 5 k = true := fine_up _ _ (fine_up _ _ (hkw k (by simp)))
                  refine eg_tup2 ?_
                  cases hk : keyD k with
                  | false =>
                    have he : entD low (.tuple [k, w]) = false := by
                      cases k with
                      | str ks =>
                        have hk' : keyS ks = false := hk
                        cases w <;> first | rfl | (show (keyS ks && _) = false; rw [hk', Bool.false_and])
                      | _ => rfl
                    rw [he]
                    repeat' first
                      | rfl
                      | assumption
                      | with_reducible refine sd_ret ?_
                      | with_reducible refine sd_seq ?_
                      | with_reducible refine sd_if ?_
                      | with_reducible refine sd_next ?_
                      | with_reducible refine sd_asg ?_
                      | with_reducible refine sd_par ?_
                      | with_reducible apply ed_var
                      | with_reducible refine ed_non ?_
                      | with_reducible refine ed_bl ?_
                      | with_reducible refine ed_int ?_
                      | with_reducible refine ed_str ?_
                      | with_reducible refine et_tB ?_
                      | with_reducible refine et_tTest ?_
                      | with_reducible refine et_and ?_
                      | with_reducible refine et_or ?_
                      | with_reducible refine et_not ?_
                      | with_reducible refine ed_and ?_
                      | with_reducible refine ed_or ?_
                      | with_reducible refine ed_not ?_
                      | with_reducible refine ed_if ?_
                      | with_reducible refine ed_isi (by decide) ?_
                      | with_reducible refine ed_len ?_
                      | with_reducible refine ed_ix ?_
                      | with_reducible refine ed_call ?_
                      | with_reducible refine ea_cons ?_
                      | with_reducible refine ea_nil ?_
                      | with_reducible refine ed_eq ?_
                      | with_reducible refine ed_ne ?_
                      | with_reducible refine ed_eqD ?_
                      | with_reducible refine ed_lt ?_
                      | with_reducible refine ed_le ?_
                      | with_reducible refine ed_gt ?_
                      | with_reducible refine ed_ge ?_
                      | with_reducible refine ed_isN ?_
                      | with_reducible refine ed_notN ?_
                      | with_reducible refine ed_strOf ?_
                      | refine ift (by rfl) ?_
                      | refine iff' (by rfl) ?_
                      | refine ift (by assumption) ?_
                      | refine iff' (by assumption) ?_
                      | (refine ift ?_ ?_; focus (simp only [*] <;> first | done | rfl))
                      | (refine iff' ?_ ?_; focus (simp only [*] <;> first | done | rfl))
                      | (refine ift ?_ ?_; focus (simp [*]; done))
                      | (refine iff' ?_ ?_; focus (simp [*]; done))
                      | refine ex_is_integer ?_
                      | refine ex_is_count ?_
                      | refine ex_is_row_looks ?_ ?_
                      | refine ex_is_key ?_ ?_
                      | refine ex_is_operation_value ?_ ?_
                      | refine ex_is_content_value ?_ ?_
                      | with_reducible refine And.intro (shp_e (by assumption)) ?_
                      | with_reducible refine And.intro (by assumption) ?_
                      | with_reducible refine And.intro (by intro s h; cases h) ?_
                      | refine And.intro (by rfl) ?_
                      | refine Exists.intro _ (And.intro rfl ?_)
                      | refine ix_tup0 (by rfl) ?_
                      | refine ix_tup1 (by rfl) ?_
                      | refine ix_tup2 (by rfl) ?_
                      | refine ix_tup3 (by rfl) ?_
                      | refine Exists.intro _ (Exists.intro _ (And.intro rfl (And.intro rfl ?_)))
                  | true =>
                    cases k with
                    | str ks =>
                      have hk' : keyS ks = true := hk
                      cases w with
                      | int i =>
                        have he : entD low (.tuple [.str ks, .int i]) = (decide (i ≠ 0) && !ltS ks low) := by
                          show (keyS ks && _) = _
                          rw [hk', Bool.true_and]
                        rw [he]
                        refine ed_and (ed_call (ea_cons (ed_var rfl (ea_nil (ex_is_key fk ⟨_, rfl, ift hk (ed_and (ed_call (ea_cons (ed_var rfl (ea_nil (ex_is_integer ⟨_, rfl, ift rfl (ed_and (ed_ne (ed_var rfl (ed_int ⟨rfl, _, rfl, ?_⟩))))⟩))))))⟩)))))
                        have e0 : (!PyData.eqv (.int i) (.int 0)) = decide (i ≠ 0) := by
                          show (!(i == 0)) = decide (i ≠ 0)
                          rw [Bool.beq_eq_decide_eq, decide_not]
                        rw [e0]
                        refine ifc (fun h1 => ?_) fun h1 => by rw [h1, Bool.false_and]
                        rw [h1, Bool.true_and]
                        exact ed_leS (ed_var rfl (ed_var rfl ⟨low, ks, rfl, rfl, rfl⟩))
                      | _ =>
                        repeat' first
                          | rfl
                          | assumption
                          | with_reducible refine sd_ret ?_
                          | with_reducible refine sd_seq ?_
                          | with_reducible refine sd_if ?_
                          | with_reducible refine sd_next ?_
                          | with_reducible refine sd_asg ?_
                          | with_reducible refine sd_par ?_
                          | with_reducible apply ed_var
                          | with_reducible refine ed_non ?_
                          | with_reducible refine ed_bl ?_
                          | with_reducible refine ed_int ?_
                          | with_reducible refine ed_str ?_
                          | with_reducible refine et_tB ?_
                          | with_reducible refine et_tTest ?_
                          | with_reducible refine et_and ?_
                          | with_reducible refine et_or ?_
                          | with_reducible refine et_not ?_
                          | with_reducible refine ed_and ?_
                          | with_reducible refine ed_or ?_
                          | with_reducible refine ed_not ?_
                          | with_reducible refine ed_if ?_
                          | with_reducible refine ed_isi (by decide) ?_
                          | with_reducible refine ed_len ?_
                          | with_reducible refine ed_ix ?_
                          | with_reducible refine ed_call ?_
                          | with_reducible refine ea_cons ?_
                          | with_reducible refine ea_nil ?_
                          | with_reducible refine ed_eq ?_
                          | with_reducible refine ed_ne ?_
                          | with_reducible refine ed_eqD ?_
                          | with_reducible refine ed_lt ?_
                          | with_reducible refine ed_le ?_
                          | with_reducible refine ed_gt ?_
                          | with_reducible refine ed_ge ?_
                          | with_reducible refine ed_isN ?_
                          | with_reducible refine ed_notN ?_
                          | with_reducible refine ed_strOf ?_
                          | refine ift (by rfl) ?_
                          | refine iff' (by rfl) ?_
                          | refine ift (by assumption) ?_
                          | refine iff' (by assumption) ?_
                          | (refine ift ?_ ?_; focus (simp only [*] <;> first | done | rfl))
                          | (refine iff' ?_ ?_; focus (simp only [*] <;> first | done | rfl))
                          | (refine ift ?_ ?_; focus (simp [*]; done))
                          | (refine iff' ?_ ?_; focus (simp [*]; done))
                          | refine ex_is_integer ?_
                          | refine ex_is_count ?_
                          | refine ex_is_row_looks ?_ ?_
                          | refine ex_is_key ?_ ?_
                          | refine ex_is_operation_value ?_ ?_
                          | refine ex_is_content_value ?_ ?_
                          | with_reducible refine And.intro (shp_e (by assumption)) ?_
                          | with_reducible refine And.intro (by assumption) ?_
                          | with_reducible refine And.intro (by intro s h; cases h) ?_
                          | refine And.intro (by rfl) ?_
                          | refine Exists.intro _ (And.intro rfl ?_)
                          | refine ix_tup0 (by rfl) ?_
                          | refine ix_tup1 (by rfl) ?_
                          | refine ix_tup2 (by rfl) ?_
                          | refine ix_tup3 (by rfl) ?_
                          | refine Exists.intro _ (Exists.intro _ (And.intro rfl (And.intro rfl ?_)))
                    | _ => cases hk
                · refine ifc (fun h2 => sd_ret (ed_bl ?_)) fun h2 => sd_next (sd_ret ?_)
                  · have h2' : es.all (entD low) = false := by simpa using h2
                    rw [h2', Bool.false_and]
                  · have h2' : es.all (entD low) = true := by simpa using h2
                    rw [h2', Bool.true_and]
                    refine ed_and (ed_call (ea_cons (ed_map (gs := [5, 6]) (by decide) (ei_tup (ed_var rfl ⟨es, rfl, by omega, fun x => .str (keyOf x), fun x hx => ?_, ea_nil ?_⟩)))))
                    · have hx2 := List.all_eq_true.mp h2' x hx
                      obtain ⟨k, w, rfl⟩ := hpx x hx
                      refine eg_tup2 (ed_var rfl ?_)
                      cases k with
                      | str ks => rfl
                      | _ => cases hx2
                    · have em : es.map (fun x => PyData.str (keyOf x)) = (es.map keyOf).map PyData.str := by rw [List.map_map] <;> rfl
                      rw [em]
                      refine ex_is_rising (by rw [List.length_map]; exact hel) ⟨_, rfl, ifc (fun h3 => ?_) fun h3 => by rw [h3, Bool.false_and]⟩
                      rw [h3, Bool.true_and]
                      cases c with
                      | bool _ => cases fc
                      | list _ => cases fc
                      | dict _ => cases fc
                      | _ =>
                        repeat' first
                          | rfl
                          | assumption
                          | with_reducible refine sd_ret ?_
                          | with_reducible refine sd_seq ?_
                          | with_reducible refine sd_if ?_
                          | with_reducible refine sd_next ?_
                          | with_reducible refine sd_asg ?_
                          | with_reducible refine sd_par ?_
                          | with_reducible apply ed_var
                          | with_reducible refine ed_non ?_
                          | with_reducible refine ed_bl ?_
                          | with_reducible refine ed_int ?_
                          | with_reducible refine ed_str ?_
                          | with_reducible refine et_tB ?_
                          | with_reducible refine et_tTest ?_
                          | with_reducible refine et_and ?_
                          | with_reducible refine et_or ?_
                          | with_reducible refine et_not ?_
                          | with_reducible refine ed_and ?_
                          | with_reducible refine ed_or ?_
                          | with_reducible refine ed_not ?_
                          | with_reducible refine ed_if ?_
                          | with_reducible refine ed_isi (by decide) ?_
                          | with_reducible refine ed_len ?_
                          | with_reducible refine ed_ix ?_
                          | with_reducible refine ed_call ?_
                          | with_reducible refine ea_cons ?_
                          | with_reducible refine ea_nil ?_
                          | with_reducible refine ed_eq ?_
                          | with_reducible refine ed_ne ?_
                          | with_reducible refine ed_eqD ?_
                          | with_reducible refine ed_lt ?_
                          | with_reducible refine ed_le ?_
                          | with_reducible refine ed_gt ?_
                          | with_reducible refine ed_ge ?_
                          | with_reducible refine ed_isN ?_
                          | with_reducible refine ed_notN ?_
                          | with_reducible refine ed_strOf ?_
                          | refine ift (by rfl) ?_
                          | refine iff' (by rfl) ?_
                          | refine ift (by assumption) ?_
                          | refine iff' (by assumption) ?_
                          | (refine ift ?_ ?_; focus (simp only [*] <;> first | done | rfl))
                          | (refine iff' ?_ ?_; focus (simp only [*] <;> first | done | rfl))
                          | (refine ift ?_ ?_; focus (simp [*]; done))
                          | (refine iff' ?_ ?_; focus (simp [*]; done))
                          | refine ex_is_integer ?_
                          | refine ex_is_count ?_
                          | refine ex_is_row_looks ?_ ?_
                          | refine ex_is_key ?_ ?_
                          | refine ex_is_operation_value ?_ ?_
                          | refine ex_is_content_value ?_ ?_
                          | with_reducible refine And.intro (shp_e (by assumption)) ?_
                          | with_reducible refine And.intro (by assumption) ?_
                          | with_reducible refine And.intro (by intro s h; cases h) ?_
                          | refine And.intro (by rfl) ?_
                          | refine Exists.intro _ (And.intro rfl ?_)
                          | refine ix_tup0 (by rfl) ?_
                          | refine ix_tup1 (by rfl) ?_
                          | refine ix_tup2 (by rfl) ?_
                          | refine ix_tup3 (by rfl) ?_
                          | refine Exists.intro _ (Exists.intro _ (And.intro rfl (And.intro rfl ?_)))
          | _ =>
            repeat' first
              | rfl
              | assumption
              | with_reducible refine sd_ret ?_
              | with_reducible refine sd_seq ?_
              | with_reducible refine sd_if ?_
              | with_reducible refine sd_next ?_
              | with_reducible refine sd_asg ?_
              | with_reducible refine sd_par ?_
              | with_reducible apply ed_var
              | with_reducible refine ed_non ?_
              | with_reducible refine ed_bl ?_
              | with_reducible refine ed_int ?_
              | with_reducible refine ed_str ?_
              | with_reducible refine et_tB ?_
              | with_reducible refine et_tTest ?_
              | with_reducible refine et_and ?_
              | with_reducible refine et_or ?_
              | with_reducible refine et_not ?_
              | with_reducible refine ed_and ?_
              | with_reducible refine ed_or ?_
              | with_reducible refine ed_not ?_
              | with_reducible refine ed_if ?_
              | with_reducible refine ed_isi (by decide) ?_
              | with_reducible refine ed_len ?_
              | with_reducible refine ed_ix ?_
              | with_reducible refine ed_call ?_
              | with_reducible refine ea_cons ?_
              | with_reducible refine ea_nil ?_
              | with_reducible refine ed_eq ?_
              | with_reducible refine ed_ne ?_
              | with_reducible refine ed_eqD ?_
              | with_reducible refine ed_lt ?_
              | with_reducible refine ed_le ?_
              | with_reducible refine ed_gt ?_
              | with_reducible refine ed_ge ?_
              | with_reducible refine ed_isN ?_
              | with_reducible refine ed_notN ?_
              | with_reducible refine ed_strOf ?_
              | refine ift (by rfl) ?_
              | refine iff' (by rfl) ?_
              | refine ift (by assumption) ?_
              | refine iff' (by assumption) ?_
              | (refine ift ?_ ?_; focus (simp only [*] <;> first | done | rfl))
              | (refine iff' ?_ ?_; focus (simp only [*] <;> first | done | rfl))
              | (refine ift ?_ ?_; focus (simp [*]; done))
              | (refine iff' ?_ ?_; focus (simp [*]; done))
              | refine ex_is_integer ?_
              | refine ex_is_count ?_
              | refine ex_is_row_looks ?_ ?_
              | refine ex_is_key ?_ ?_
              | refine ex_is_operation_value ?_ ?_
              | refine ex_is_content_value ?_ ?_
              | with_reducible refine And.intro (shp_e (by assumption)) ?_
              | with_reducible refine And.intro (by assumption) ?_
              | with_reducible refine And.intro (by intro s h; cases h) ?_
              | refine And.intro (by rfl) ?_
              | refine Exists.intro _ (And.intro rfl ?_)
              | refine ix_tup0 (by rfl) ?_
              | refine ix_tup1 (by rfl) ?_
              | refine ix_tup2 (by rfl) ?_
              | refine ix_tup3 (by rfl) ?_
              | refine Exists.intro _ (Exists.intro _ (And.intro rfl (And.intro rfl ?_)))
      | bool _ => cases fa
      | list _ => cases fa
      | dict _ => cases fa
      | _ =>
        repeat' first
          | rfl
          | assumption
          | with_reducible refine sd_ret ?_
          | with_reducible refine sd_seq ?_
          | with_reducible refine sd_if ?_
          | with_reducible refine sd_next ?_
          | with_reducible refine sd_asg ?_
          | with_reducible refine sd_par ?_
          | with_reducible apply ed_var
          | with_reducible refine ed_non ?_
          | with_reducible refine ed_bl ?_
          | with_reducible refine ed_int ?_
          | with_reducible refine ed_str ?_
          | with_reducible refine et_tB ?_
          | with_reducible refine et_tTest ?_
          | with_reducible refine et_and ?_
          | with_reducible refine et_or ?_
          | with_reducible refine et_not ?_
          | with_reducible refine ed_and ?_
          | with_reducible refine ed_or ?_
          | with_reducible refine ed_not ?_
          | with_reducible refine ed_if ?_
          | with_reducible refine ed_isi (by decide) ?_
          | with_reducible refine ed_len ?_
          | with_reducible refine ed_ix ?_
          | with_reducible refine ed_call ?_
          | with_reducible refine ea_cons ?_
          | with_reducible refine ea_nil ?_
          | with_reducible refine ed_eq ?_
          | with_reducible refine ed_ne ?_
          | with_reducible refine ed_eqD ?_
          | with_reducible refine ed_lt ?_
          | with_reducible refine ed_le ?_
          | with_reducible refine ed_gt ?_
          | with_reducible refine ed_ge ?_
          | with_reducible refine ed_isN ?_
          | with_reducible refine ed_notN ?_
          | with_reducible refine ed_strOf ?_
          | refine ift (by rfl) ?_
          | refine iff' (by rfl) ?_
          | refine ift (by assumption) ?_
          | refine iff' (by assumption) ?_
          | (refine ift ?_ ?_; focus (simp only [*] <;> first | done | rfl))
          | (refine iff' ?_ ?_; focus (simp only [*] <;> first | done | rfl))
          | (refine ift ?_ ?_; focus (simp [*]; done))
          | (refine iff' ?_ ?_; focus (simp [*]; done))
          | refine ex_is_integer ?_
          | refine ex_is_count ?_
          | refine ex_is_row_looks ?_ ?_
          | refine ex_is_key ?_ ?_
          | refine ex_is_operation_value ?_ ?_
          | refine ex_is_content_value ?_ ?_
          | with_reducible refine And.intro (shp_e (by assumption)) ?_
          | with_reducible refine And.intro (by assumption) ?_
          | with_reducible refine And.intro (by intro s h; cases h) ?_
          | refine And.intro (by rfl) ?_
          | refine Exists.intro _ (And.intro rfl ?_)
          | refine ix_tup0 (by rfl) ?_
          | refine ix_tup1 (by rfl) ?_
          | refine ix_tup2 (by rfl) ?_
          | refine ix_tup3 (by rfl) ?_
          | refine Exists.intro _ (Exists.intro _ (And.intro rfl (And.intro rfl ?_)))
    · obtain ⟨h4, h5⟩ := not_three h3
      rw [h4]
      repeat' first
        | rfl
        | assumption
        | with_reducible refine sd_ret ?_
        | with_reducible refine sd_seq ?_
        | with_reducible refine sd_if ?_
        | with_reducible refine sd_next ?_
        | with_reducible refine sd_asg ?_
        | with_reducible refine sd_par ?_
        | with_reducible apply ed_var
        | with_reducible refine ed_non ?_
        | with_reducible refine ed_bl ?_
        | with_reducible refine ed_int ?_
        | with_reducible refine ed_str ?_
        | with_reducible refine et_tB ?_
        | with_reducible refine et_tTest ?_
        | with_reducible refine et_and ?_
        | with_reducible refine et_or ?_
        | with_reducible refine et_not ?_
        | with_reducible refine ed_and ?_
        | with_reducible refine ed_or ?_
        | with_reducible refine ed_not ?_
        | with_reducible refine ed_if ?_
        | with_reducible refine ed_isi (by decide) ?_
        | with_reducible refine ed_len ?_
        | with_reducible refine ed_ix ?_
        | with_reducible refine ed_call ?_
        | with_reducible refine ea_cons ?_
        | with_reducible refine ea_nil ?_
        | with_reducible refine ed_eq ?_
        | with_reducible refine ed_ne ?_
        | with_reducible refine ed_eqD ?_
        | with_reducible refine ed_lt ?_
        | with_reducible refine ed_le ?_
        | with_reducible refine ed_gt ?_
        | with_reducible refine ed_ge ?_
        | with_reducible refine ed_isN ?_
        | with_reducible refine ed_notN ?_
        | with_reducible refine ed_strOf ?_
        | refine ift (by rfl) ?_
        | refine iff' (by rfl) ?_
        | refine ift (by assumption) ?_
        | refine iff' (by assumption) ?_
        | (refine ift ?_ ?_; focus (simp only [*] <;> first | done | rfl))
        | (refine iff' ?_ ?_; focus (simp only [*] <;> first | done | rfl))
        | (refine ift ?_ ?_; focus (simp [*]; done))
        | (refine iff' ?_ ?_; focus (simp [*]; done))
        | refine ex_is_integer ?_
        | refine ex_is_count ?_
        | refine ex_is_row_looks ?_ ?_
        | refine ex_is_key ?_ ?_
        | refine ex_is_operation_value ?_ ?_
        | refine ex_is_content_value ?_ ?_
        | with_reducible refine And.intro (shp_e (by assumption)) ?_
        | with_reducible refine And.intro (by assumption) ?_
        | with_reducible refine And.intro (by intro s h; cases h) ?_
        | refine And.intro (by rfl) ?_
        | refine Exists.intro _ (And.intro rfl ?_)
        | refine ix_tup0 (by rfl) ?_
        | refine ix_tup1 (by rfl) ?_
        | refine ix_tup2 (by rfl) ?_
        | refine ix_tup3 (by rfl) ?_
        | refine Exists.intro _ (Exists.intro _ (And.intro rfl (And.intro rfl ?_)))
  | bool _ => cases f
  | list _ => cases f
  | dict _ => cases f
  | _ =>
    repeat' first
      | rfl
      | assumption
      | with_reducible refine sd_ret ?_
      | with_reducible refine sd_seq ?_
      | with_reducible refine sd_if ?_
      | with_reducible refine sd_next ?_
      | with_reducible refine sd_asg ?_
      | with_reducible refine sd_par ?_
      | with_reducible apply ed_var
      | with_reducible refine ed_non ?_
      | with_reducible refine ed_bl ?_
      | with_reducible refine ed_int ?_
      | with_reducible refine ed_str ?_
      | with_reducible refine et_tB ?_
      | with_reducible refine et_tTest ?_
      | with_reducible refine et_and ?_
      | with_reducible refine et_or ?_
      | with_reducible refine et_not ?_
      | with_reducible refine ed_and ?_
      | with_reducible refine ed_or ?_
      | with_reducible refine ed_not ?_
      | with_reducible refine ed_if ?_
      | with_reducible refine ed_isi (by decide) ?_
      | with_reducible refine ed_len ?_
      | with_reducible refine ed_ix ?_
      | with_reducible refine ed_call ?_
      | with_reducible refine ea_cons ?_
      | with_reducible refine ea_nil ?_
      | with_reducible refine ed_eq ?_
      | with_reducible refine ed_ne ?_
      | with_reducible refine ed_eqD ?_
      | with_reducible refine ed_lt ?_
      | with_reducible refine ed_le ?_
      | with_reducible refine ed_gt ?_
      | with_reducible refine ed_ge ?_
      | with_reducible refine ed_isN ?_
      | with_reducible refine ed_notN ?_
      | with_reducible refine ed_strOf ?_
      | refine ift (by rfl) ?_
      | refine iff' (by rfl) ?_
      | refine ift (by assumption) ?_
      | refine iff' (by assumption) ?_
      | (refine ift ?_ ?_; focus (simp only [*] <;> first | done | rfl))
      | (refine iff' ?_ ?_; focus (simp only [*] <;> first | done | rfl))
      | (refine ift ?_ ?_; focus (simp [*]; done))
      | (refine iff' ?_ ?_; focus (simp [*]; done))
      | refine ex_is_integer ?_
      | refine ex_is_count ?_
      | refine ex_is_row_looks ?_ ?_
      | refine ex_is_key ?_ ?_
      | refine ex_is_operation_value ?_ ?_
      | refine ex_is_content_value ?_ ?_
      | with_reducible refine And.intro (shp_e (by assumption)) ?_
      | with_reducible refine And.intro (by assumption) ?_
      | with_reducible refine And.intro (by intro s h; cases h) ?_
      | refine And.intro (by rfl) ?_
      | refine Exists.intro _ (And.intro rfl ?_)
      | refine ix_tup0 (by rfl) ?_
      | refine ix_tup1 (by rfl) ?_
      | refine ix_tup2 (by rfl) ?_
      | refine ix_tup3 (by rfl) ?_
      | refine Exists.intro _ (Exists.intro _ (And.intro rfl (And.intro rfl ?_)))⟩
end
end K61
end

section
set_option Elab.async false
set_option linter.all false
set_option maxRecDepth 100000
set_option maxHeartbeats 4000000
namespace K61
open PySem PySem.Spec L2
section
variable {K : PySem.W.Frag}
theorem str_eqv (a b : Str) : PyData.eqv (.str a) (.str b) = decide (a = b) := by
  show (a == b) = decide (a = b)
  rw [Bool.beq_eq_decide_eq]
theorem lits : ("page" : Str) ≠ "start" ∧ ("unpage" : Str) ≠ "start" ∧ ("end" : Str) ≠ "start" ∧ ("op" : Str) ≠ "start" ∧ ("comp" : Str) ≠ "start" ∧ ("unpage" : Str) ≠ "page" ∧ ("end" : Str) ≠ "page" ∧ ("op" : Str) ≠ "page" ∧ ("comp" : Str) ≠ "page" ∧
    ("end" : Str) ≠ "unpage" ∧ ("op" : Str) ≠ "unpage" ∧ ("comp" : Str) ≠ "unpage" ∧ ("op" : Str) ≠ "end" ∧ ("comp" : Str) ≠ "end" ∧ ("comp" : Str) ≠ "op" := by decide +kernel
def NUMS : List Str := ["page", "unpage"]
theorem ed_NUM (tN : ∀ H : Hp, SqT K H (He.ga K "NUMBERED") [.str "page", .str "unpage"]) {ρ : List En} {W : Wd} {P : PyData → Prop} (p : P (.tuple (NUMS.map .str))) : Ed K W (tC (.ref (He.ga K "NUMBERED"))) ρ P :=
  ed_kt tN (fun H => .cons (.str _) (.cons (.str _) .nil)) p
theorem ed_ENDS (tN : ∀ H : Hp, SqT K H (He.ga K "ENDS") [.str "kept", .str "dropped"]) {ρ : List En} {W : Wd} {P : PyData → Prop} (p : P (.tuple ((["kept", "dropped"] : List Str).map .str))) : Ed K W (tC (.ref (He.ga K "ENDS"))) ρ P :=
  ed_kt tN (fun H => .cons (.str _) (.cons (.str _) .nil)) p
theorem num_in (h : Str) : NUMS.contains h = decide (h = "page" ∨ h = "unpage") := by
  unfold NUMS
  rw [Bool.eq_iff_iff]
  simp
theorem len_eqv (n m : Nat) : PyData.eqv (.int (n : Int)) (.int (m : Int)) = decide (n = m) := by
  show ((n : Int) == (m : Int)) = decide (n = m)
  rw [Bool.eq_iff_iff, beq_iff_eq, decide_eq_true_eq]
  omega
theorem row_def (h : Str) (a : PyData) (rest : List PyData) : rowD (.tuple (.str h :: a :: rest)) = (isC a &&
     (if h = "start" then rStart rest else if h = "page" then rPage rest else if h = "unpage" then rUn rest else if h = "end" then rEnd rest else if h = "op" then rOp rest else if h = "comp" then rComp rest else false)) := rfl
theorem eqv_unit (l : List PyData) : PyData.eqv (.tuple l) (.tuple []) = rStart l := by cases l <;> rfl
theorem ixT0 {x : PyData} {r : List PyData} {P : PyData → Prop} (p : P x) : ∃ i d', PyData.int 0 = .int i ∧ atD (.tuple (x :: r)) i = some d' ∧ (∀ s, PyData.tuple (x :: r) = .str s → s.length ≤ 100000) ∧ P d' := ix_tup0 rfl p
theorem se_is_row_value (tN : ∀ H : Hp, SqT K H (He.ga K "NUMBERED") [.str "page", .str "unpage"]) (tE : ∀ H : Hp, SqT K H (He.ga K "ENDS") [.str "kept", .str "dropped"]) : SemD K C_is_row_value (t_is_row_value K) 1 4 := fun ds d ⟨x, e, f, hd⟩ => ⟨by rw [e] <;> rfl, by
  subst e hd
  show Sd K W0 (t_is_row_value K) [.val x, .any, .any, .any] _ _
  unfold t_is_row_value
  cases x with
  | tuple xs =>
    obtain ⟨hl0, hf⟩ := fine_tup f
    have hl : xs.length ≤ sizeLine := Nat.le_trans hl0 (by decide)
    cases xs with
    | nil =>
      repeat' first
        | rfl
        | assumption
        | with_reducible refine sd_ret ?_
        | with_reducible refine sd_seq ?_
        | with_reducible refine sd_if ?_
        | with_reducible refine sd_next ?_
        | with_reducible refine sd_asg ?_
        | with_reducible refine sd_par ?_
        | with_reducible apply ed_var
        | with_reducible refine ed_non ?_
        | with_reducible refine ed_bl ?_
        | with_reducible refine ed_int ?_
        | with_reducible refine ed_str ?_
        | with_reducible refine et_tB ?_
        | with_reducible refine et_tTest ?_
        | with_reducible refine et_and ?_
        | with_reducible refine et_or ?_
        | with_reducible refine et_not ?_
        | with_reducible refine ed_and ?_
        | with_reducible refine ed_or ?_
        | with_reducible refine ed_not ?_
        | with_reducible refine ed_if ?_
        | with_reducible refine ed_isi (by decide) ?_
        | with_reducible refine ed_len ?_
        | with_reducible refine ed_ix ?_
        | with_reducible refine ed_call ?_
        | with_reducible refine ea_cons ?_
        | with_reducible refine ea_nil ?_
        | with_reducible refine ed_eq ?_
        | with_reducible refine ed_ne ?_
        | with_reducible refine ed_eqD ?_
        | with_reducible refine ed_lt ?_
        | with_reducible refine ed_le ?_
        | with_reducible refine ed_gt ?_
        | with_reducible refine ed_ge ?_
        | with_reducible refine ed_isN ?_
        | with_reducible refine ed_notN ?_
        | with_reducible refine ed_strOf ?_
        | refine ift (by rfl) ?_
        | refine iff' (by rfl) ?_
        | refine ift (by assumption) ?_
        | refine iff' (by assumption) ?_
        | (refine ift ?_ ?_; focus (simp only [*] <;> first | done | rfl))
        | (refine iff' ?_ ?_; focus (simp only [*] <;> first | done | rfl))
        | (refine ift ?_ ?_; focus (simp [*]; done))
        | (refine iff' ?_ ?_; focus (simp [*]; done))
        | refine ex_is_integer ?_
        | refine ex_is_count ?_
        | refine ex_is_row_looks ?_ ?_
        | refine ex_is_key ?_ ?_
        | refine ex_is_operation_value ?_ ?_
        | refine ex_is_content_value ?_ ?_
        | with_reducible refine And.intro (shp_e (by assumption)) ?_
        | with_reducible refine And.intro (by assumption) ?_
        | with_reducible refine And.intro (by intro s h; cases h) ?_
        | refine And.intro (by rfl) ?_
        | refine Exists.intro _ (And.intro rfl ?_)
        | refine ix_tup0 (by rfl) ?_
        | refine ix_tup1 (by rfl) ?_
        | refine ix_tup2 (by rfl) ?_
        | refine ix_tup3 (by rfl) ?_
        | refine Exists.intro _ (Exists.intro _ (And.intro rfl (And.intro rfl ?_)))
    | cons a xs =>
      cases xs with
      | nil =>
        have ho : rowD (.tuple [a]) = false := by cases a <;> rfl
        rw [ho]
        repeat' first
          | rfl
          | assumption
          | with_reducible refine sd_ret ?_
          | with_reducible refine sd_seq ?_
          | with_reducible refine sd_if ?_
          | with_reducible refine sd_next ?_
          | with_reducible refine sd_asg ?_
          | with_reducible refine sd_par ?_
          | with_reducible apply ed_var
          | with_reducible refine ed_non ?_
          | with_reducible refine ed_bl ?_
          | with_reducible refine ed_int ?_
          | with_reducible refine ed_str ?_
          | with_reducible refine et_tB ?_
          | with_reducible refine et_tTest ?_
          | with_reducible refine et_and ?_
          | with_reducible refine et_or ?_
          | with_reducible refine et_not ?_
          | with_reducible refine ed_and ?_
          | with_reducible refine ed_or ?_
          | with_reducible refine ed_not ?_
          | with_reducible refine ed_if ?_
          | with_reducible refine ed_isi (by decide) ?_
          | with_reducible refine ed_len ?_
          | with_reducible refine ed_ix ?_
          | with_reducible refine ed_call ?_
          | with_reducible refine ea_cons ?_
          | with_reducible refine ea_nil ?_
          | with_reducible refine ed_eq ?_
          | with_reducible refine ed_ne ?_
          | with_reducible refine ed_eqD ?_
          | with_reducible refine ed_lt ?_
          | with_reducible refine ed_le ?_
          | with_reducible refine ed_gt ?_
          | with_reducible refine ed_ge ?_
          | with_reducible refine ed_isN ?_
          | with_reducible refine ed_notN ?_
          | with_reducible refine ed_strOf ?_
          | refine ift (by rfl) ?_
          | refine iff' (by rfl) ?_
          | refine ift (by assumption) ?_
          | refine iff' (by assumption) ?_
          | (refine ift ?_ ?_; focus (simp only [*] <;> first | done | rfl))
          | (refine iff' ?_ ?_; focus (simp only [*] <;> first | done | rfl))
          | (refine ift ?_ ?_; focus (simp [*]; done))
          | (refine iff' ?_ ?_; focus (simp [*]; done))
          | refine ex_is_integer ?_
          | refine ex_is_count ?_
          | refine ex_is_row_looks ?_ ?_
          | refine ex_is_key ?_ ?_
          | refine ex_is_operation_value ?_ ?_
          | refine ex_is_content_value ?_ ?_
          | with_reducible refine And.intro (shp_e (by assumption)) ?_
          | with_reducible refine And.intro (by assumption) ?_
          | with_reducible refine And.intro (by intro s h; cases h) ?_
          | refine And.intro (by rfl) ?_
          | refine Exists.intro _ (And.intro rfl ?_)
          | refine ix_tup0 (by rfl) ?_
          | refine ix_tup1 (by rfl) ?_
          | refine ix_tup2 (by rfl) ?_
          | refine ix_tup3 (by rfl) ?_
          | refine Exists.intro _ (Exists.intro _ (And.intro rfl (And.intro rfl ?_)))
      | cons k rest =>
        have hc1 : decide ((((a :: k :: rest).length : Nat) : Int) < 2) = false := decide_eq_false (by simp only [List.length_cons]; omega)
        cases a with
        | str h =>
          cases hk : isC k with
          | false =>
            have ho : rowD (.tuple (.str h :: k :: rest)) = false := by rw [row_def, hk, Bool.false_and]
            rw [ho]
            repeat' first
              | rfl
              | assumption
              | with_reducible refine sd_ret ?_
              | with_reducible refine sd_seq ?_
              | with_reducible refine sd_if ?_
              | with_reducible refine sd_next ?_
              | with_reducible refine sd_asg ?_
              | with_reducible refine sd_par ?_
              | with_reducible apply ed_var
              | with_reducible refine ed_non ?_
              | with_reducible refine ed_bl ?_
              | with_reducible refine ed_int ?_
              | with_reducible refine ed_str ?_
              | with_reducible refine et_tB ?_
              | with_reducible refine et_tTest ?_
              | with_reducible refine et_and ?_
              | with_reducible refine et_or ?_
              | with_reducible refine et_not ?_
              | with_reducible refine ed_and ?_
              | with_reducible refine ed_or ?_
              | with_reducible refine ed_not ?_
              | with_reducible refine ed_if ?_
              | with_reducible refine ed_isi (by decide) ?_
              | with_reducible refine ed_len ?_
              | with_reducible refine ed_ix ?_
              | with_reducible refine ed_call ?_
              | with_reducible refine ea_cons ?_
              | with_reducible refine ea_nil ?_
              | with_reducible refine ed_eq ?_
              | with_reducible refine ed_ne ?_
              | with_reducible refine ed_eqD ?_
              | with_reducible refine ed_lt ?_
              | with_reducible refine ed_le ?_
              | with_reducible refine ed_gt ?_
              | with_reducible refine ed_ge ?_
              | with_reducible refine ed_isN ?_
              | with_reducible refine ed_notN ?_
              | with_reducible refine ed_strOf ?_
              | refine ift (by rfl) ?_
              | refine iff' (by rfl) ?_
              | refine ift (by assumption) ?_
              | refine iff' (by assumption) ?_
              | (refine ift ?_ ?_; focus (simp only [*] <;> first | done | rfl))
              | (refine iff' ?_ ?_; focus (simp only [*] <;> first | done | rfl))
              | (refine ift ?_ ?_; focus (simp [*]; done))
              | (refine iff' ?_ ?_; focus (simp [*]; done))
              | refine ex_is_integer ?_
              | refine ex_is_count ?_
              | refine ex_is_row_looks ?_ ?_
              | refine ex_is_key ?_ ?_
              | refine ex_is_operation_value ?_ ?_
              | refine ex_is_content_value ?_ ?_
              | with_reducible refine And.intro (shp_e (by assumption)) ?_
              | with_reducible refine And.intro (by assumption) ?_
              | with_reducible refine And.intro (by intro s h; cases h) ?_
              | refine And.intro (by rfl) ?_
              | refine Exists.intro _ (And.intro rfl ?_)
              | refine ix_tup0 (by rfl) ?_
              | refine ix_tup1 (by rfl) ?_
              | refine ix_tup2 (by rfl) ?_
              | refine ix_tup3 (by rfl) ?_
              | refine Exists.intro _ (Exists.intro _ (And.intro rfl (And.intro rfl ?_)))
          | true =>
            have hrl : rest.length ≤ 600 := by simp only [List.length_cons] at hl0; omega
            have hrl' : rest.length ≤ sizeLine := Nat.le_trans hrl (by decide)
            have frest : fine 5 (.tuple rest) = true := tup_fine hrl fun x hx => hf x (by simp [hx])
            refine sd_seq (sd_if (Et.mono (P := fun b => b = false) ?t1 ?_))
            case t1 =>
              repeat' first
                | rfl
                | assumption
                | with_reducible refine sd_ret ?_
                | with_reducible refine sd_seq ?_
                | with_reducible refine sd_if ?_
                | with_reducible refine sd_next ?_
                | with_reducible refine sd_asg ?_
                | with_reducible refine sd_par ?_
                | with_reducible apply ed_var
                | with_reducible refine ed_non ?_
                | with_reducible refine ed_bl ?_
                | with_reducible refine ed_int ?_
                | with_reducible refine ed_str ?_
                | with_reducible refine et_tB ?_
                | with_reducible refine et_tTest ?_
                | with_reducible refine et_and ?_
                | with_reducible refine et_or ?_
                | with_reducible refine et_not ?_
                | with_reducible refine ed_and ?_
                | with_reducible refine ed_or ?_
                | with_reducible refine ed_not ?_
                | with_reducible refine ed_if ?_
                | with_reducible refine ed_isi (by decide) ?_
                | with_reducible refine ed_len ?_
                | with_reducible refine ed_ix ?_
                | with_reducible refine ed_call ?_
                | with_reducible refine ea_cons ?_
                | with_reducible refine ea_nil ?_
                | with_reducible refine ed_eq ?_
                | with_reducible refine ed_ne ?_
                | with_reducible refine ed_eqD ?_
                | with_reducible refine ed_lt ?_
                | with_reducible refine ed_le ?_
                | with_reducible refine ed_gt ?_
                | with_reducible refine ed_ge ?_
                | with_reducible refine ed_isN ?_
                | with_reducible refine ed_notN ?_
                | with_reducible refine ed_strOf ?_
                | refine ift (by rfl) ?_
                | refine iff' (by rfl) ?_
                | refine ift (by assumption) ?_
                | refine iff' (by assumption) ?_
                | (refine ift ?_ ?_; focus (simp only [*] <;> first | done | rfl))
                | (refine iff' ?_ ?_; focus (simp only [*] <;> first | done | rfl))
                | (refine ift ?_ ?_; focus (simp [*]; done))
                | (refine iff' ?_ ?_; focus (simp [*]; done))
                | refine ex_is_integer ?_
                | refine ex_is_count ?_
                | refine ex_is_row_looks ?_ ?_
                | refine ex_is_key ?_ ?_
                | refine ex_is_operation_value ?_ ?_
                | refine ex_is_content_value ?_ ?_
                | with_reducible refine And.intro (shp_e (by assumption)) ?_
                | with_reducible refine And.intro (by assumption) ?_
                | with_reducible refine And.intro (by intro s h; cases h) ?_
                | refine And.intro (by rfl) ?_
                | refine Exists.intro _ (And.intro rfl ?_)
                | refine ix_tup0 (by rfl) ?_
                | refine ix_tup1 (by rfl) ?_
                | refine ix_tup2 (by rfl) ?_
                | refine ix_tup3 (by rfl) ?_
                | refine Exists.intro _ (Exists.intro _ (And.intro rfl (And.intro rfl ?_)))
              rw [hk]
              rfl
            rintro _ rfl
            refine iff' rfl (sd_next (sd_seq (sd_par (ed_ix (ed_var rfl (ed_int (ix_tup0 rfl (ed_slT (ed_var rfl ⟨_, rfl, eo_some (ed_int ⟨2, rfl, eo_none ?_⟩)⟩)))))))))
            rw [show (some (2 : Int)) = some ((2 : Nat) : Int) from rfl, cut_from]
            show Sd K W0 _ [.val (.tuple (.str h :: k :: rest)), .val (.str h), .val (.tuple rest), .any] _ _
            have e1 := str_eqv h "start"
            have e2 := num_in h
            have e3 := str_eqv h "page"
            have e4 := str_eqv h "end"
            have e5 := str_eqv h "op"
            have e6 := str_eqv h "comp"
            obtain ⟨n1, n2, n3, n4, n5, n6, n7, n8, n9, n10, n11, n12, n13, n14, n15⟩ := lits
            refine sd_seq (sd_if (et_tTest (ed_eq (ed_var rfl (ed_str ⟨rfl, _, rfl, ?_⟩)))))
            by_cases h1 : h = "start"
            · subst h1
              have ho : rowD (.tuple (.str "start" :: k :: rest)) = rStart rest := by rw [row_def, hk, Bool.true_and, if_pos rfl]
              rw [ho]
              exact ift (by rw [e1]; exact decide_eq_true rfl) (sd_ret (ed_eqD (ed_var rfl (ed_tup (ea_nil ⟨by decide, ⟨fine_shaped frest, by decide +kernel⟩, by rw [eqv_unit]⟩)))))
            refine iff' (by rw [e1]; exact decide_eq_false h1) (sd_next (sd_seq (sd_if (et_tTest (ed_inT (ed_var rfl (ed_NUM tN ⟨h, NUMS, rfl, rfl, _, rfl, ?_⟩)))))))
            by_cases h2 : h = "page"
            · subst h2
              have ho : rowD (.tuple (.str "page" :: k :: rest)) = rPage rest := by rw [row_def, hk, Bool.true_and, if_neg n1, if_pos rfl]
              rw [ho]
              refine ift (by rw [e2]; exact decide_eq_true (.inl rfl)) (sd_seq (sd_if ?_))
              refine et_or (et_tTest (ed_ne (ed_len (ed_var rfl ⟨_, rfl, hrl', ed_if (et_tTest (ed_eq (ed_var rfl (ed_str ⟨rfl, _, rfl, ift (by rw [e3]; exact decide_eq_true rfl) (ed_int ⟨rfl, _, rfl, ?_⟩)⟩))))⟩))))
              rw [show (PyData.eqv (.int ((rest.length : Nat) : Int)) (.int 3)) = decide (rest.length = 3) from len_eqv rest.length 3]
              by_cases hn : rest.length = 3
              · match rest, hn with
                | [b, c, d], _ =>
                  refine iff' rfl (et_not (et_tB (ed_call (ea_cons (ed_ix (ed_var rfl (ed_int (ix_tup0 rfl (ea_nil (ex_is_count ⟨_, rfl, ?_⟩))))))))))
                  show (if (!isC b) = true then _ else _)
                  cases hb : isC b with
                  | false => exact ift rfl (sd_ret (ed_bl (by simp [rPage, rUn, hb])))
                  | true =>
                    refine iff' rfl (sd_next (sd_ret (ed_allLc (gs := [3]) (by decide) (ei_tup (ed_slT (ed_var rfl ⟨_, rfl, eo_some (ed_int ⟨1, rfl, eo_none ⟨_, rfl, ?_⟩⟩)⟩))))))
                    rw [show (some (1 : Int)) = some ((1 : Nat) : Int) from rfl, cut_from]
                    refine ⟨by simp, contD, fun x hx => eg_name (ed_call (ea_cons (ed_var rfl (ea_nil (ex_is_content_value (fine_up _ _ (hf x ?_)) rfl))))), ?_⟩
                    · have hx' : x ∈ [c, d] := hx
                      simp only [List.mem_cons, List.not_mem_nil, or_false] at hx' ⊢
                      rcases hx' with z | z <;> simp [z]
                    · show PyData.bool ([c, d].all contD) = .bool (isC b && (contD c && contD d))
                      rw [hb]
                      simp [List.all]
              · have hz : rPage rest = false := by
                  match rest, hn with
                  | [], _ => rfl
                  | [_], _ => rfl
                  | [_, _], _ => rfl
                  | [_, _, _], hn => exact absurd rfl hn
                  | _ :: _ :: _ :: _ :: _, _ => rfl
                rw [hz]
                exact ift (by rw [decide_eq_false hn]; rfl) (ift rfl (sd_ret (ed_bl rfl)))
            by_cases h3 : h = "unpage"
            · subst h3
              have ho : rowD (.tuple (.str "unpage" :: k :: rest)) = rUn rest := by rw [row_def, hk, Bool.true_and, if_neg n2, if_neg n6, if_pos rfl]
              rw [ho]
              refine ift (by rw [e2]; exact decide_eq_true (.inr rfl)) (sd_seq (sd_if ?_))
              refine et_or (et_tTest (ed_ne (ed_len (ed_var rfl ⟨_, rfl, hrl', ed_if (et_tTest (ed_eq (ed_var rfl (ed_str ⟨rfl, _, rfl, iff' (by rw [e3]; exact decide_eq_false n6) (ed_int ⟨rfl, _, rfl, ?_⟩)⟩))))⟩))))
              rw [show (PyData.eqv (.int ((rest.length : Nat) : Int)) (.int 2)) = decide (rest.length = 2) from len_eqv rest.length 2]
              by_cases hn : rest.length = 2
              · match rest, hn with
                | [b, c], _ =>
                  refine iff' rfl (et_not (et_tB (ed_call (ea_cons (ed_ix (ed_var rfl (ed_int (ix_tup0 rfl (ea_nil (ex_is_count ⟨_, rfl, ?_⟩))))))))))
                  show (if (!isC b) = true then _ else _)
                  cases hb : isC b with
                  | false => exact ift rfl (sd_ret (ed_bl (by simp [rPage, rUn, hb])))
                  | true =>
                    refine iff' rfl (sd_next (sd_ret (ed_allLc (gs := [3]) (by decide) (ei_tup (ed_slT (ed_var rfl ⟨_, rfl, eo_some (ed_int ⟨1, rfl, eo_none ⟨_, rfl, ?_⟩⟩)⟩))))))
                    rw [show (some (1 : Int)) = some ((1 : Nat) : Int) from rfl, cut_from]
                    refine ⟨by simp, contD, fun x hx => eg_name (ed_call (ea_cons (ed_var rfl (ea_nil (ex_is_content_value (fine_up _ _ (hf x ?_)) rfl))))), ?_⟩
                    · have hx' : x ∈ [c] := hx
                      simp only [List.mem_cons, List.not_mem_nil, or_false] at hx' ⊢
                      simp [hx']
                    · show PyData.bool ([c].all contD) = .bool (isC b && contD c)
                      rw [hb]
                      simp [List.all]
              · have hz : rUn rest = false := by
                  match rest, hn with
                  | [], _ => rfl
                  | [_], _ => rfl
                  | [_, _], hn => exact absurd rfl hn
                  | _ :: _ :: _ :: _, _ => rfl
                rw [hz]
                exact ift (by rw [decide_eq_false hn]; rfl) (ift rfl (sd_ret (ed_bl rfl)))
            refine iff' (by rw [e2]; exact decide_eq_false fun z => z.elim h2 h3) (sd_next (sd_seq (sd_if (et_tTest (ed_eq (ed_var rfl (ed_str ⟨rfl, _, rfl, ?_⟩)))))))
            by_cases h4 : h = "end"
            · subst h4
              have ho : rowD (.tuple (.str "end" :: k :: rest)) = rEnd rest := by rw [row_def, hk, Bool.true_and, if_neg n3, if_neg n7, if_neg n10, if_pos rfl]
              rw [ho]
              refine ift (by rw [e4]; exact decide_eq_true rfl) (sd_ret (ed_and (ed_eq (ed_len (ed_var rfl ⟨_, rfl, hrl', ed_int ⟨rfl, _, rfl, ?_⟩⟩)))))
              rw [show (PyData.eqv (.int ((rest.length : Nat) : Int)) (.int 1)) = decide (rest.length = 1) from len_eqv rest.length 1]
              by_cases hn : rest.length = 1
              · match rest, hn with
                | [b], _ =>
                  refine ift (decide_eq_true rfl) (ed_call (ea_cons (ed_ix (ed_var rfl (ed_int (ix_tup0 rfl (ea_cons (ed_ENDS tE (ea_nil (ex_is_one_of ?_))))))))))
                  cases b with
                  | str w =>
                    show PyData.bool ((["kept", "dropped"] : List Str).contains w) = .bool (decide (w = "kept" ∨ w = "dropped"))
                    congr 1
                    rw [Bool.eq_iff_iff]
                    simp
                  | _ => rfl
              · have hz : rEnd rest = false := by
                  match rest, hn with
                  | [], _ => rfl
                  | [_], hn => exact absurd rfl hn
                  | a :: _ :: _, _ => cases a <;> rfl
                rw [hz]
                exact iff' (decide_eq_false hn) rfl
            refine iff' (by rw [e4]; exact decide_eq_false h4) (sd_next (sd_seq (sd_if ?_)))
            refine et_or (et_tTest (ed_ne (ed_len (ed_var rfl ⟨_, rfl, hrl', ed_int ⟨rfl, _, rfl, ?_⟩⟩))))
            rw [show (PyData.eqv (.int ((rest.length : Nat) : Int)) (.int 2)) = decide (rest.length = 2) from len_eqv rest.length 2]
            have ho : rowD (.tuple (.str h :: k :: rest)) = (if h = "op" then rOp rest else if h = "comp" then rComp rest else false) := by rw [row_def, hk, Bool.true_and, if_neg h1, if_neg h2, if_neg h3, if_neg h4]
            rw [ho]
            by_cases hn : rest.length = 2
            · match rest, hn with
              | [b, o], _ =>
                refine iff' rfl (et_not (et_tB (ed_call (ea_cons (ed_ix (ed_var rfl (ed_int (ix_tup0 rfl (ea_nil (ex_is_count ⟨_, rfl, ?_⟩))))))))))
                show (if (!isC b) = true then _ else _)
                have fo : fine 5 o = true := fine_up _ _ (hf o (by simp))
                cases hb : isC b with
                | false =>
                  refine ift rfl (sd_ret (ed_bl ?_))
                  have q1 : rOp [b, o] = false := by show (isC b && opD o) = false; rw [hb, Bool.false_and]
                  have q2 : rComp [b, o] = false := by show (isC b && isC o) = false; rw [hb, Bool.false_and]
                  rw [q1, q2]
                  split <;> (try split) <;> rfl
                | true =>
                  have q1 : rOp [b, o] = opD o := by show (isC b && opD o) = opD o; rw [hb, Bool.true_and]
                  have q2 : rComp [b, o] = isC o := by show (isC b && isC o) = isC o; rw [hb, Bool.true_and]
                  rw [q1, q2]
                  refine iff' rfl (sd_next (sd_ret (ed_or (ed_and (ed_eq (ed_var rfl (ed_str ⟨rfl, _, rfl, ?_⟩)))))))
                  by_cases h5 : h = "op"
                  · refine ift (by rw [e5]; exact decide_eq_true h5) (ed_call (ea_cons (ed_ix (ed_var rfl (ed_int (ix_tup1 rfl (ea_nil (ex_is_operation_value fo ⟨_, rfl, ?_⟩))))))))
                    rw [if_pos h5]
                    subst h5
                    cases hop : opD o with
                    | true => exact ift rfl rfl
                    | false => exact iff' rfl (ed_and (ed_eq (ed_var rfl (ed_str ⟨rfl, _, rfl, iff' (by rw [e6]; exact decide_eq_false fun z => n15 z.symm) rfl⟩))))
                  · refine iff' (by rw [e5]; exact decide_eq_false h5) ⟨_, rfl, iff' rfl (ed_and (ed_eq (ed_var rfl (ed_str ⟨rfl, _, rfl, ?_⟩))))⟩
                    rw [if_neg h5]
                    by_cases h6 : h = "comp"
                    · rw [if_pos h6]
                      exact ift (by rw [e6]; exact decide_eq_true h6) (ed_call (ea_cons (ed_ix (ed_var rfl (ed_int (ix_tup1 rfl (ea_nil (ex_is_count rfl))))))))
                    · rw [if_neg h6]
                      exact iff' (by rw [e6]; exact decide_eq_false h6) rfl
            · have hz : (if h = "op" then rOp rest else if h = "comp" then rComp rest else false) = false := by
                match rest, hn with
                | [], _ => simp [rOp, rComp]
                | [_], _ => simp [rOp, rComp]
                | [_, _], hn => exact absurd rfl hn
                | _ :: _ :: _ :: _, _ => simp [rOp, rComp]
              rw [hz]
              exact ift (by rw [decide_eq_false hn]; rfl) (ift rfl (sd_ret (ed_bl rfl)))
        | _ =>
          repeat' first
            | rfl
            | assumption
            | with_reducible refine sd_ret ?_
            | with_reducible refine sd_seq ?_
            | with_reducible refine sd_if ?_
            | with_reducible refine sd_next ?_
            | with_reducible refine sd_asg ?_
            | with_reducible refine sd_par ?_
            | with_reducible apply ed_var
            | with_reducible refine ed_non ?_
            | with_reducible refine ed_bl ?_
            | with_reducible refine ed_int ?_
            | with_reducible refine ed_str ?_
            | with_reducible refine et_tB ?_
            | with_reducible refine et_tTest ?_
            | with_reducible refine et_and ?_
            | with_reducible refine et_or ?_
            | with_reducible refine et_not ?_
            | with_reducible refine ed_and ?_
            | with_reducible refine ed_or ?_
            | with_reducible refine ed_not ?_
            | with_reducible refine ed_if ?_
            | with_reducible refine ed_isi (by decide) ?_
            | with_reducible refine ed_len ?_
            | with_reducible refine ed_ix ?_
            | with_reducible refine ed_call ?_
            | with_reducible refine ea_cons ?_
            | with_reducible refine ea_nil ?_
            | with_reducible refine ed_eq ?_
            | with_reducible refine ed_ne ?_
            | with_reducible refine ed_eqD ?_
            | with_reducible refine ed_lt ?_
            | with_reducible refine ed_le ?_
            | with_reducible refine ed_gt ?_
            | with_reducible refine ed_ge ?_
            | with_reducible refine ed_isN ?_
            | with_reducible refine ed_notN ?_
            | with_reducible refine ed_strOf ?_
            | refine ift (by rfl) ?_
            | refine iff' (by rfl) ?_
            | refine ift (by assumption) ?_
            | refine iff' (by assumption) ?_
            | (refine ift ?_ ?_; focus (simp only [*] <;> first | done | rfl))
            | (refine iff' ?_ ?_; focus (simp only [*] <;> first | done | rfl))
            | (refine ift ?_ ?_; focus (simp [*]; done))
            | (refine iff' ?_ ?_; focus (simp [*]; done))
            | refine ex_is_integer ?_
            | refine ex_is_count ?_
            | refine ex_is_row_looks ?_ ?_
            | refine ex_is_key ?_ ?_
            | refine ex_is_operation_value ?_ ?_
            | refine ex_is_content_value ?_ ?_
            | with_reducible refine And.intro (shp_e (by assumption)) ?_
            | with_reducible refine And.intro (by assumption) ?_
            | with_reducible refine And.intro (by intro s h; cases h) ?_
            | refine And.intro (by rfl) ?_
            | refine Exists.intro _ (And.intro rfl ?_)
            | refine ix_tup0 (by rfl) ?_
            | refine ix_tup1 (by rfl) ?_
            | refine ix_tup2 (by rfl) ?_
            | refine ix_tup3 (by rfl) ?_
            | refine Exists.intro _ (Exists.intro _ (And.intro rfl (And.intro rfl ?_)))
  | bool _ => cases f
  | list _ => cases f
  | dict _ => cases f
  | _ =>
    repeat' first
      | rfl
      | assumption
      | with_reducible refine sd_ret ?_
      | with_reducible refine sd_seq ?_
      | with_reducible refine sd_if ?_
      | with_reducible refine sd_next ?_
      | with_reducible refine sd_asg ?_
      | with_reducible refine sd_par ?_
      | with_reducible apply ed_var
      | with_reducible refine ed_non ?_
      | with_reducible refine ed_bl ?_
      | with_reducible refine ed_int ?_
      | with_reducible refine ed_str ?_
      | with_reducible refine et_tB ?_
      | with_reducible refine et_tTest ?_
      | with_reducible refine et_and ?_
      | with_reducible refine et_or ?_
      | with_reducible refine et_not ?_
      | with_reducible refine ed_and ?_
      | with_reducible refine ed_or ?_
      | with_reducible refine ed_not ?_
      | with_reducible refine ed_if ?_
      | with_reducible refine ed_isi (by decide) ?_
      | with_reducible refine ed_len ?_
      | with_reducible refine ed_ix ?_
      | with_reducible refine ed_call ?_
      | with_reducible refine ea_cons ?_
      | with_reducible refine ea_nil ?_
      | with_reducible refine ed_eq ?_
      | with_reducible refine ed_ne ?_
      | with_reducible refine ed_eqD ?_
      | with_reducible refine ed_lt ?_
      | with_reducible refine ed_le ?_
      | with_reducible refine ed_gt ?_
      | with_reducible refine ed_ge ?_
      | with_reducible refine ed_isN ?_
      | with_reducible refine ed_notN ?_
      | with_reducible refine ed_strOf ?_
      | refine ift (by rfl) ?_
      | refine iff' (by rfl) ?_
      | refine ift (by assumption) ?_
      | refine iff' (by assumption) ?_
      | (refine ift ?_ ?_; focus (simp only [*] <;> first | done | rfl))
      | (refine iff' ?_ ?_; focus (simp only [*] <;> first | done | rfl))
      | (refine ift ?_ ?_; focus (simp [*]; done))
      | (refine iff' ?_ ?_; focus (simp [*]; done))
      | refine ex_is_integer ?_
      | refine ex_is_count ?_
      | refine ex_is_row_looks ?_ ?_
      | refine ex_is_key ?_ ?_
      | refine ex_is_operation_value ?_ ?_
      | refine ex_is_content_value ?_ ?_
      | with_reducible refine And.intro (shp_e (by assumption)) ?_
      | with_reducible refine And.intro (by assumption) ?_
      | with_reducible refine And.intro (by intro s h; cases h) ?_
      | refine And.intro (by rfl) ?_
      | refine Exists.intro _ (And.intro rfl ?_)
      | refine ix_tup0 (by rfl) ?_
      | refine ix_tup1 (by rfl) ?_
      | refine ix_tup2 (by rfl) ?_
      | refine ix_tup3 (by rfl) ?_
      | refine Exists.intro _ (Exists.intro _ (And.intro rfl (And.intro rfl ?_)))⟩
end
end K61
end

section
set_option Elab.async false
set_option linter.all false
set_option maxRecDepth 100000
set_option maxHeartbeats 4000000
/-! what the readings of the law's own validity defs do -/
namespace K61
open PySem PySem.Spec L2
section
def isF (x : PyData) (i : Int) : Bool := match x with
  | .int j => decide (i ≤ j)
  | _ => false
theorem ex_law_is_int {x : PyData} {P : PyData → Prop} (h : P (.bool (isI x))) : ∃ d, C_law_is_int [x] d ∧ P d := ⟨_, ⟨x, rfl, rfl⟩, h⟩
theorem ex_law_is_from {x : PyData} {P : PyData → Prop} (h : P (.bool (isC x))) : ∃ d, C_law_is_from [x, .int 0] d ∧ P d := ⟨_, ⟨x, 0, rfl, rfl⟩, by cases x <;> exact h⟩
theorem ex_law_is_key {x : PyData} {P : PyData → Prop} (f : fine 5 x = true) (h : P (.bool (keyD x))) : ∃ d, C_law_is_key [x] d ∧ P d := ⟨_, ⟨x, rfl, f, rfl⟩, h⟩
theorem ex_law_is_operation {x : PyData} {P : PyData → Prop} (f : fine 5 x = true) (h : P (.bool (opD x))) : ∃ d, C_law_is_operation [x] d ∧ P d := ⟨_, ⟨x, rfl, f, rfl⟩, h⟩
theorem ex_law_is_content {x : PyData} {P : PyData → Prop} (f : fine 5 x = true) (h : P (.bool (contD x))) : ∃ d, C_law_is_content [x] d ∧ P d := ⟨_, ⟨x, rfl, f, rfl⟩, h⟩
theorem ex_law_is_row {x : PyData} {P : PyData → Prop} (f : fine 5 x = true) (h : P (.bool (rowD x))) : ∃ d, C_law_is_row [x] d ∧ P d := ⟨_, ⟨x, rfl, f, rfl⟩, h⟩
end
section
variable {K : PySem.W.Frag}
theorem se_law_is_int : SemD K C_law_is_int (t_law_is_int K) 1 1 := fun ds d ⟨x, e, hd⟩ => ⟨by rw [e] <;> rfl, by
  subst e hd
  show Sd K W0 (t_law_is_int K) [.val x] _ _
  unfold t_law_is_int
  cases x <;>
  repeat' first
    | rfl
    | assumption
    | with_reducible refine sd_ret ?_
    | with_reducible refine sd_seq ?_
    | with_reducible refine sd_if ?_
    | with_reducible refine sd_next ?_
    | with_reducible refine sd_asg ?_
    | with_reducible refine sd_par ?_
    | with_reducible apply ed_var
    | with_reducible refine ed_non ?_
    | with_reducible refine ed_bl ?_
    | with_reducible refine ed_int ?_
    | with_reducible refine ed_str ?_
    | with_reducible refine et_tB ?_
    | with_reducible refine et_tTest ?_
    | with_reducible refine et_and ?_
    | with_reducible refine et_or ?_
    | with_reducible refine et_not ?_
    | with_reducible refine ed_and ?_
    | with_reducible refine ed_or ?_
    | with_reducible refine ed_not ?_
    | with_reducible refine ed_if ?_
    | with_reducible refine ed_isi (by decide) ?_
    | with_reducible refine ed_len ?_
    | with_reducible refine ed_ix ?_
    | with_reducible refine ed_call ?_
    | with_reducible refine ea_cons ?_
    | with_reducible refine ea_nil ?_
    | with_reducible refine ed_eq ?_
    | with_reducible refine ed_ne ?_
    | with_reducible refine ed_eqD ?_
    | with_reducible refine ed_lt ?_
    | with_reducible refine ed_le ?_
    | with_reducible refine ed_gt ?_
    | with_reducible refine ed_ge ?_
    | with_reducible refine ed_isN ?_
    | with_reducible refine ed_notN ?_
    | with_reducible refine ed_strOf ?_
    | refine ift (by rfl) ?_
    | refine iff' (by rfl) ?_
    | refine ift (by assumption) ?_
    | refine iff' (by assumption) ?_
    | (refine ift ?_ ?_; focus (simp only [*] <;> first | done | rfl))
    | (refine iff' ?_ ?_; focus (simp only [*] <;> first | done | rfl))
    | (refine ift ?_ ?_; focus (simp [*]; done))
    | (refine iff' ?_ ?_; focus (simp [*]; done))
    | refine ex_is_integer ?_
    | refine ex_law_is_int ?_
    | refine ex_law_is_from ?_
    | refine ex_law_is_key ?_ ?_
    | refine ex_law_is_operation ?_ ?_
    | refine ex_law_is_content ?_ ?_
    | refine ex_is_count ?_
    | refine ex_is_row_looks ?_ ?_
    | refine ex_is_key ?_ ?_
    | refine ex_is_operation_value ?_ ?_
    | refine ex_is_content_value ?_ ?_
    | with_reducible refine And.intro (shp_e (by assumption)) ?_
    | with_reducible refine And.intro (by assumption) ?_
    | with_reducible refine And.intro (by intro s h; cases h) ?_
    | refine And.intro (by rfl) ?_
    | refine Exists.intro _ (And.intro rfl ?_)
    | refine ix_tup0 (by rfl) ?_
    | refine ix_tup1 (by rfl) ?_
    | refine ix_tup2 (by rfl) ?_
    | refine ix_tup3 (by rfl) ?_
    | refine Exists.intro _ (Exists.intro _ (And.intro rfl (And.intro rfl ?_)))⟩
theorem se_law_is_from : SemD K C_law_is_from (t_law_is_from K) 2 2 := fun ds d ⟨x, i, e, hd⟩ => ⟨by rw [e] <;> rfl, by
  subst e hd
  show Sd K W0 (t_law_is_from K) [.val x, .val (.int i)] _ _
  unfold t_law_is_from
  cases x <;>
  repeat' first
    | rfl
    | assumption
    | with_reducible refine sd_ret ?_
    | with_reducible refine sd_seq ?_
    | with_reducible refine sd_if ?_
    | with_reducible refine sd_next ?_
    | with_reducible refine sd_asg ?_
    | with_reducible refine sd_par ?_
    | with_reducible apply ed_var
    | with_reducible refine ed_non ?_
    | with_reducible refine ed_bl ?_
    | with_reducible refine ed_int ?_
    | with_reducible refine ed_str ?_
    | with_reducible refine et_tB ?_
    | with_reducible refine et_tTest ?_
    | with_reducible refine et_and ?_
    | with_reducible refine et_or ?_
    | with_reducible refine et_not ?_
    | with_reducible refine ed_and ?_
    | with_reducible refine ed_or ?_
    | with_reducible refine ed_not ?_
    | with_reducible refine ed_if ?_
    | with_reducible refine ed_isi (by decide) ?_
    | with_reducible refine ed_len ?_
    | with_reducible refine ed_ix ?_
    | with_reducible refine ed_call ?_
    | with_reducible refine ea_cons ?_
    | with_reducible refine ea_nil ?_
    | with_reducible refine ed_eq ?_
    | with_reducible refine ed_ne ?_
    | with_reducible refine ed_eqD ?_
    | with_reducible refine ed_lt ?_
    | with_reducible refine ed_le ?_
    | with_reducible refine ed_gt ?_
    | with_reducible refine ed_ge ?_
    | with_reducible refine ed_isN ?_
    | with_reducible refine ed_notN ?_
    | with_reducible refine ed_strOf ?_
    | refine ift (by rfl) ?_
    | refine iff' (by rfl) ?_
    | refine ift (by assumption) ?_
    | refine iff' (by assumption) ?_
    | (refine ift ?_ ?_; focus (simp only [*] <;> first | done | rfl))
    | (refine iff' ?_ ?_; focus (simp only [*] <;> first | done | rfl))
    | (refine ift ?_ ?_; focus (simp [*]; done))
    | (refine iff' ?_ ?_; focus (simp [*]; done))
    | refine ex_is_integer ?_
    | refine ex_law_is_int ?_
    | refine ex_law_is_from ?_
    | refine ex_law_is_key ?_ ?_
    | refine ex_law_is_operation ?_ ?_
    | refine ex_law_is_content ?_ ?_
    | refine ex_is_count ?_
    | refine ex_is_row_looks ?_ ?_
    | refine ex_is_key ?_ ?_
    | refine ex_is_operation_value ?_ ?_
    | refine ex_is_content_value ?_ ?_
    | with_reducible refine And.intro (shp_e (by assumption)) ?_
    | with_reducible refine And.intro (by assumption) ?_
    | with_reducible refine And.intro (by intro s h; cases h) ?_
    | refine And.intro (by rfl) ?_
    | refine Exists.intro _ (And.intro rfl ?_)
    | refine ix_tup0 (by rfl) ?_
    | refine ix_tup1 (by rfl) ?_
    | refine ix_tup2 (by rfl) ?_
    | refine ix_tup3 (by rfl) ?_
    | refine Exists.intro _ (Exists.intro _ (And.intro rfl (And.intro rfl ?_)))⟩
theorem se_law_is_key : SemD K C_law_is_key (t_law_is_key K) 1 2 := fun ds d ⟨x, e, f, hd⟩ => ⟨by rw [e] <;> rfl, by
  subst e hd
  show Sd K W0 (t_law_is_key K) [.val x, .any] _ _
  unfold t_law_is_key
  cases x with
  | str s =>
    have hl := (fine_str f).1
    show Sd K W0 _ _ _ (fun r => r = .bool (keyS s))
    refine sd_seq (sd_if (et_or (et_not (et_tB (ed_isi (by decide) (ed_var rfl ⟨_, rfl, iff' rfl (et_not (et_tTest (ed_chain o2_le o2_le (ed_int (ed_len (ed_var rfl ⟨_, rfl, Nat.le_trans hl (by decide), ⟨1, _, rfl, rfl⟩, _, rfl, ?_⟩))))))⟩))))))
    have last : ∀ b : Bool, b = true → Sd K W0 (tRet (tOp (rEqD K) (tLc (iStr (tVar 0)) (gName 1) (tTest (tOp qNotInC (tVar 1) (tC (.str "abcdefghijklmnopqrstuvwxyz")))) (tC (.int 1)) [1]) (tLst tNil))) [.val (.str s), .any] (fun _ => PyData.bool (keyS s) = .none) (fun r => r = .bool (b && s.cps.toList.all fun c => decide (c ∈ LET.cps.toList))) := fun b hb => by
      refine sd_ret (ed_noneLc (gs := [1]) (by decide) (ei_str (ed_var rfl ⟨s, rfl, ?_⟩)))
      refine ⟨by rw [signs_len]; omega, fun x => !inLet x, fun x hx => ?_, ?_⟩
      · obtain ⟨c, rfl⟩ := sign_at hx
        exact eg_name (et_tTest (ed_notInC (ed_var rfl (ed_str ⟨c, _, rfl, rfl, _, rfl, rfl⟩))))
      · rw [hb, Bool.true_and, signs_all s (fun c => decide (c ∈ LET.cps.toList)) (fun x => !!inLet x) fun c => Bool.not_not _]
    unfold keyS
    refine ifc (fun h1 => ed_int ⟨⟨_, _, rfl, rfl⟩, _, rfl, ?_⟩) fun h1 => ⟨_, rfl, ift rfl (sd_ret (ed_bl ?_))⟩
    · have h1' : (1 : Int) ≤ (s.length : Nat) := of_decide_eq_true h1
      have e1 : decide (1 ≤ s.length) = true := decide_eq_true (by omega)
      rw [e1, Bool.true_and]
      cases h2 : decide (((s.length : Nat) : Int) ≤ 9) with
      | true =>
        have h2' : ((s.length : Nat) : Int) ≤ 9 := of_decide_eq_true h2
        have e2 : decide (s.length ≤ 9) = true := decide_eq_true (by omega)
        rw [e2]
        refine iff' rfl (sd_next ?_)
        exact (last true rfl).mono (fun _ z => nomatch z) fun _ z => z
      | false =>
        have h2' : ¬ ((s.length : Nat) : Int) ≤ 9 := of_decide_eq_false h2
        have e2 : decide (s.length ≤ 9) = false := decide_eq_false (by omega)
        rw [e2, Bool.false_and]
        exact ift rfl (sd_ret (ed_bl rfl))
    · have h1' : ¬ (1 : Int) ≤ (s.length : Nat) := of_decide_eq_false h1
      have e1 : decide (1 ≤ s.length) = false := decide_eq_false (by omega)
      rw [e1, Bool.false_and, Bool.false_and]
  | bool _ => cases f
  | list _ => cases f
  | dict _ => cases f
  | _ =>
    repeat' first
      | rfl
      | assumption
      | with_reducible refine sd_ret ?_
      | with_reducible refine sd_seq ?_
      | with_reducible refine sd_if ?_
      | with_reducible refine sd_next ?_
      | with_reducible refine sd_asg ?_
      | with_reducible refine sd_par ?_
      | with_reducible apply ed_var
      | with_reducible refine ed_non ?_
      | with_reducible refine ed_bl ?_
      | with_reducible refine ed_int ?_
      | with_reducible refine ed_str ?_
      | with_reducible refine et_tB ?_
      | with_reducible refine et_tTest ?_
      | with_reducible refine et_and ?_
      | with_reducible refine et_or ?_
      | with_reducible refine et_not ?_
      | with_reducible refine ed_and ?_
      | with_reducible refine ed_or ?_
      | with_reducible refine ed_not ?_
      | with_reducible refine ed_if ?_
      | with_reducible refine ed_isi (by decide) ?_
      | with_reducible refine ed_len ?_
      | with_reducible refine ed_ix ?_
      | with_reducible refine ed_call ?_
      | with_reducible refine ea_cons ?_
      | with_reducible refine ea_nil ?_
      | with_reducible refine ed_eq ?_
      | with_reducible refine ed_ne ?_
      | with_reducible refine ed_eqD ?_
      | with_reducible refine ed_lt ?_
      | with_reducible refine ed_le ?_
      | with_reducible refine ed_gt ?_
      | with_reducible refine ed_ge ?_
      | with_reducible refine ed_isN ?_
      | with_reducible refine ed_notN ?_
      | with_reducible refine ed_strOf ?_
      | refine ift (by rfl) ?_
      | refine iff' (by rfl) ?_
      | refine ift (by assumption) ?_
      | refine iff' (by assumption) ?_
      | (refine ift ?_ ?_; focus (simp only [*] <;> first | done | rfl))
      | (refine iff' ?_ ?_; focus (simp only [*] <;> first | done | rfl))
      | (refine ift ?_ ?_; focus (simp [*]; done))
      | (refine iff' ?_ ?_; focus (simp [*]; done))
      | refine ex_is_integer ?_
      | refine ex_law_is_int ?_
      | refine ex_law_is_from ?_
      | refine ex_law_is_key ?_ ?_
      | refine ex_law_is_operation ?_ ?_
      | refine ex_law_is_content ?_ ?_
      | refine ex_is_count ?_
      | refine ex_is_row_looks ?_ ?_
      | refine ex_is_key ?_ ?_
      | refine ex_is_operation_value ?_ ?_
      | refine ex_is_content_value ?_ ?_
      | with_reducible refine And.intro (shp_e (by assumption)) ?_
      | with_reducible refine And.intro (by assumption) ?_
      | with_reducible refine And.intro (by intro s h; cases h) ?_
      | refine And.intro (by rfl) ?_
      | refine Exists.intro _ (And.intro rfl ?_)
      | refine ix_tup0 (by rfl) ?_
      | refine ix_tup1 (by rfl) ?_
      | refine ix_tup2 (by rfl) ?_
      | refine ix_tup3 (by rfl) ?_
      | refine Exists.intro _ (Exists.intro _ (And.intro rfl (And.intro rfl ?_)))⟩
def many2 (h : Str) : Int := match manyOf h with
  | some n => n
  | none => 0
theorem look_many2 (h : Str) : ∀ (H : Hp) (vy : V), Dq K H vy (.int 0) → Dq K H ((lookD [("read", .int 2), ("add", .int 3), ("set", .int 4)] h).getD vy) (.int (many2 h)) := fun H vy r => by
  unfold lookD mergeK keyd many2 manyOf
  simp only [List.map, List.foldl, valV_put, Sum.inr.injEq]
  have n1 : ("read" : Str) ≠ "set" := by decide +kernel
  have n2 : ("read" : Str) ≠ "add" := by decide +kernel
  have n3 : ("set" : Str) ≠ "add" := by decide +kernel
  by_cases h1 : h = "read"
  · subst h1
    simp only [n1, n2, ↓reduceIte, valV_nil]
    exact .int 2
  · by_cases h2 : h = "set"
    · subst h2
      simp only [h1, n3, ↓reduceIte, valV_nil]
      exact .int 4
    · by_cases h3 : h = "add"
      · subst h3
        simp only [h1, h2, ↓reduceIte, valV_nil]
        exact .int 3
      · simp only [h1, h2, h3, ↓reduceIte, valV_nil]
        exact r
theorem many_eq (h : Str) (n : Nat) : decide (((n + 2 : Nat) : Int) = many2 h) = decide (manyOf h = some (n + 2)) := by
  unfold many2
  cases hm : manyOf h with
  | none => exact (decide_eq_false (by show ¬ (((n + 2 : Nat) : Int) = 0); omega)).trans (decide_eq_false (fun z => nomatch z)).symm
  | some m =>
    show decide (((n + 2 : Nat) : Int) = (m : Int)) = decide (some m = some (n + 2))
    rw [Bool.eq_iff_iff, decide_eq_true_eq, decide_eq_true_eq, Option.some.injEq]
    omega
theorem all_not {l : List PyData} {f : PyData → Bool} : (l.all fun x => !!f x) = l.all f := by
  congr 1
  funext x
  exact Bool.not_not _
theorem se_law_is_operation : SemD K C_law_is_operation (t_law_is_operation K) 1 3 := fun ds d ⟨x, e, f, hd⟩ => ⟨by rw [e] <;> rfl, by
  subst e hd
  show Sd K W0 (t_law_is_operation K) [.val x, .any, .any] _ _
  unfold t_law_is_operation
  cases x with
  | tuple xs =>
    obtain ⟨hl0, hf⟩ := fine_tup f
    have hl : xs.length ≤ sizeLine := Nat.le_trans hl0 (by decide)
    cases xs with
    | nil =>
      repeat' first
        | rfl
        | assumption
        | with_reducible refine sd_ret ?_
        | with_reducible refine sd_seq ?_
        | with_reducible refine sd_if ?_
        | with_reducible refine sd_next ?_
        | with_reducible refine sd_asg ?_
        | with_reducible refine sd_par ?_
        | with_reducible apply ed_var
        | with_reducible refine ed_non ?_
        | with_reducible refine ed_bl ?_
        | with_reducible refine ed_int ?_
        | with_reducible refine ed_str ?_
        | with_reducible refine et_tB ?_
        | with_reducible refine et_tTest ?_
        | with_reducible refine et_and ?_
        | with_reducible refine et_or ?_
        | with_reducible refine et_not ?_
        | with_reducible refine ed_and ?_
        | with_reducible refine ed_or ?_
        | with_reducible refine ed_not ?_
        | with_reducible refine ed_if ?_
        | with_reducible refine ed_isi (by decide) ?_
        | with_reducible refine ed_len ?_
        | with_reducible refine ed_ix ?_
        | with_reducible refine ed_call ?_
        | with_reducible refine ea_cons ?_
        | with_reducible refine ea_nil ?_
        | with_reducible refine ed_eq ?_
        | with_reducible refine ed_ne ?_
        | with_reducible refine ed_eqD ?_
        | with_reducible refine ed_lt ?_
        | with_reducible refine ed_le ?_
        | with_reducible refine ed_gt ?_
        | with_reducible refine ed_ge ?_
        | with_reducible refine ed_isN ?_
        | with_reducible refine ed_notN ?_
        | with_reducible refine ed_strOf ?_
        | refine ift (by rfl) ?_
        | refine iff' (by rfl) ?_
        | refine ift (by assumption) ?_
        | refine iff' (by assumption) ?_
        | (refine ift ?_ ?_; focus (simp only [*] <;> first | done | rfl))
        | (refine iff' ?_ ?_; focus (simp only [*] <;> first | done | rfl))
        | (refine ift ?_ ?_; focus (simp [*]; done))
        | (refine iff' ?_ ?_; focus (simp [*]; done))
        | refine ex_is_integer ?_
        | refine ex_law_is_int ?_
        | refine ex_law_is_from ?_
        | refine ex_law_is_key ?_ ?_
        | refine ex_law_is_operation ?_ ?_
        | refine ex_law_is_content ?_ ?_
        | refine ex_is_count ?_
        | refine ex_is_row_looks ?_ ?_
        | refine ex_is_key ?_ ?_
        | refine ex_is_operation_value ?_ ?_
        | refine ex_is_content_value ?_ ?_
        | with_reducible refine And.intro (shp_e (by assumption)) ?_
        | with_reducible refine And.intro (by assumption) ?_
        | with_reducible refine And.intro (by intro s h; cases h) ?_
        | refine And.intro (by rfl) ?_
        | refine Exists.intro _ (And.intro rfl ?_)
        | refine ix_tup0 (by rfl) ?_
        | refine ix_tup1 (by rfl) ?_
        | refine ix_tup2 (by rfl) ?_
        | refine ix_tup3 (by rfl) ?_
        | refine Exists.intro _ (Exists.intro _ (And.intro rfl (And.intro rfl ?_)))
    | cons a xs =>
      cases xs with
      | nil =>
        have ho : opD (.tuple [a]) = false := by cases a <;> rfl
        rw [ho]
        repeat' first
          | rfl
          | assumption
          | with_reducible refine sd_ret ?_
          | with_reducible refine sd_seq ?_
          | with_reducible refine sd_if ?_
          | with_reducible refine sd_next ?_
          | with_reducible refine sd_asg ?_
          | with_reducible refine sd_par ?_
          | with_reducible apply ed_var
          | with_reducible refine ed_non ?_
          | with_reducible refine ed_bl ?_
          | with_reducible refine ed_int ?_
          | with_reducible refine ed_str ?_
          | with_reducible refine et_tB ?_
          | with_reducible refine et_tTest ?_
          | with_reducible refine et_and ?_
          | with_reducible refine et_or ?_
          | with_reducible refine et_not ?_
          | with_reducible refine ed_and ?_
          | with_reducible refine ed_or ?_
          | with_reducible refine ed_not ?_
          | with_reducible refine ed_if ?_
          | with_reducible refine ed_isi (by decide) ?_
          | with_reducible refine ed_len ?_
          | with_reducible refine ed_ix ?_
          | with_reducible refine ed_call ?_
          | with_reducible refine ea_cons ?_
          | with_reducible refine ea_nil ?_
          | with_reducible refine ed_eq ?_
          | with_reducible refine ed_ne ?_
          | with_reducible refine ed_eqD ?_
          | with_reducible refine ed_lt ?_
          | with_reducible refine ed_le ?_
          | with_reducible refine ed_gt ?_
          | with_reducible refine ed_ge ?_
          | with_reducible refine ed_isN ?_
          | with_reducible refine ed_notN ?_
          | with_reducible refine ed_strOf ?_
          | refine ift (by rfl) ?_
          | refine iff' (by rfl) ?_
          | refine ift (by assumption) ?_
          | refine iff' (by assumption) ?_
          | (refine ift ?_ ?_; focus (simp only [*] <;> first | done | rfl))
          | (refine iff' ?_ ?_; focus (simp only [*] <;> first | done | rfl))
          | (refine ift ?_ ?_; focus (simp [*]; done))
          | (refine iff' ?_ ?_; focus (simp [*]; done))
          | refine ex_is_integer ?_
          | refine ex_law_is_int ?_
          | refine ex_law_is_from ?_
          | refine ex_law_is_key ?_ ?_
          | refine ex_law_is_operation ?_ ?_
          | refine ex_law_is_content ?_ ?_
          | refine ex_is_count ?_
          | refine ex_is_row_looks ?_ ?_
          | refine ex_is_key ?_ ?_
          | refine ex_is_operation_value ?_ ?_
          | refine ex_is_content_value ?_ ?_
          | with_reducible refine And.intro (shp_e (by assumption)) ?_
          | with_reducible refine And.intro (by assumption) ?_
          | with_reducible refine And.intro (by intro s h; cases h) ?_
          | refine And.intro (by rfl) ?_
          | refine Exists.intro _ (And.intro rfl ?_)
          | refine ix_tup0 (by rfl) ?_
          | refine ix_tup1 (by rfl) ?_
          | refine ix_tup2 (by rfl) ?_
          | refine ix_tup3 (by rfl) ?_
          | refine Exists.intro _ (Exists.intro _ (And.intro rfl (And.intro rfl ?_)))
      | cons k rest =>
        have hk5 : fine 5 k = true := fine_up _ _ (hf k (by simp))
        have hc1 : decide ((((a :: k :: rest).length : Nat) : Int) < 2) = false := decide_eq_false (by simp only [List.length_cons]; omega)
        cases a with
        | str h =>
          have hrl : rest.length ≤ 600 := by simp only [List.length_cons] at hl0; omega
          have frest : fine 5 (.tuple rest) = true := tup_fine hrl fun x hx => hf x (by simp [hx])
          cases hk : keyD k with
          | false =>
            have ho : opD (.tuple (.str h :: k :: rest)) = false := by show (keyD k && _) = false; rw [hk, Bool.false_and]
            rw [ho]
            repeat' first
              | rfl
              | assumption
              | with_reducible refine sd_ret ?_
              | with_reducible refine sd_seq ?_
              | with_reducible refine sd_if ?_
              | with_reducible refine sd_next ?_
              | with_reducible refine sd_asg ?_
              | with_reducible refine sd_par ?_
              | with_reducible apply ed_var
              | with_reducible refine ed_non ?_
              | with_reducible refine ed_bl ?_
              | with_reducible refine ed_int ?_
              | with_reducible refine ed_str ?_
              | with_reducible refine et_tB ?_
              | with_reducible refine et_tTest ?_
              | with_reducible refine et_and ?_
              | with_reducible refine et_or ?_
              | with_reducible refine et_not ?_
              | with_reducible refine ed_and ?_
              | with_reducible refine ed_or ?_
              | with_reducible refine ed_not ?_
              | with_reducible refine ed_if ?_
              | with_reducible refine ed_isi (by decide) ?_
              | with_reducible refine ed_len ?_
              | with_reducible refine ed_ix ?_
              | with_reducible refine ed_call ?_
              | with_reducible refine ea_cons ?_
              | with_reducible refine ea_nil ?_
              | with_reducible refine ed_eq ?_
              | with_reducible refine ed_ne ?_
              | with_reducible refine ed_eqD ?_
              | with_reducible refine ed_lt ?_
              | with_reducible refine ed_le ?_
              | with_reducible refine ed_gt ?_
              | with_reducible refine ed_ge ?_
              | with_reducible refine ed_isN ?_
              | with_reducible refine ed_notN ?_
              | with_reducible refine ed_strOf ?_
              | refine ift (by rfl) ?_
              | refine iff' (by rfl) ?_
              | refine ift (by assumption) ?_
              | refine iff' (by assumption) ?_
              | (refine ift ?_ ?_; focus (simp only [*] <;> first | done | rfl))
              | (refine iff' ?_ ?_; focus (simp only [*] <;> first | done | rfl))
              | (refine ift ?_ ?_; focus (simp [*]; done))
              | (refine iff' ?_ ?_; focus (simp [*]; done))
              | refine ex_is_integer ?_
              | refine ex_law_is_int ?_
              | refine ex_law_is_from ?_
              | refine ex_law_is_key ?_ ?_
              | refine ex_law_is_operation ?_ ?_
              | refine ex_law_is_content ?_ ?_
              | refine ex_is_count ?_
              | refine ex_is_row_looks ?_ ?_
              | refine ex_is_key ?_ ?_
              | refine ex_is_operation_value ?_ ?_
              | refine ex_is_content_value ?_ ?_
              | with_reducible refine And.intro (shp_e (by assumption)) ?_
              | with_reducible refine And.intro (by assumption) ?_
              | with_reducible refine And.intro (by intro s h; cases h) ?_
              | refine And.intro (by rfl) ?_
              | refine Exists.intro _ (And.intro rfl ?_)
              | refine ix_tup0 (by rfl) ?_
              | refine ix_tup1 (by rfl) ?_
              | refine ix_tup2 (by rfl) ?_
              | refine ix_tup3 (by rfl) ?_
              | refine Exists.intro _ (Exists.intro _ (And.intro rfl (And.intro rfl ?_)))
          | true =>
            have ho : opD (.tuple (.str h :: k :: rest)) = (decide (manyOf h = some (rest.length + 2)) && rest.all isI) := by show (keyD k && _) = _; rw [hk, Bool.true_and]
            rw [ho]
            refine sd_seq (sd_if (Et.mono (P := fun b => b = false) ?t1 ?_))
            case t1 =>
              repeat' first
                | rfl
                | assumption
                | with_reducible refine sd_ret ?_
                | with_reducible refine sd_seq ?_
                | with_reducible refine sd_if ?_
                | with_reducible refine sd_next ?_
                | with_reducible refine sd_asg ?_
                | with_reducible refine sd_par ?_
                | with_reducible apply ed_var
                | with_reducible refine ed_non ?_
                | with_reducible refine ed_bl ?_
                | with_reducible refine ed_int ?_
                | with_reducible refine ed_str ?_
                | with_reducible refine et_tB ?_
                | with_reducible refine et_tTest ?_
                | with_reducible refine et_and ?_
                | with_reducible refine et_or ?_
                | with_reducible refine et_not ?_
                | with_reducible refine ed_and ?_
                | with_reducible refine ed_or ?_
                | with_reducible refine ed_not ?_
                | with_reducible refine ed_if ?_
                | with_reducible refine ed_isi (by decide) ?_
                | with_reducible refine ed_len ?_
                | with_reducible refine ed_ix ?_
                | with_reducible refine ed_call ?_
                | with_reducible refine ea_cons ?_
                | with_reducible refine ea_nil ?_
                | with_reducible refine ed_eq ?_
                | with_reducible refine ed_ne ?_
                | with_reducible refine ed_eqD ?_
                | with_reducible refine ed_lt ?_
                | with_reducible refine ed_le ?_
                | with_reducible refine ed_gt ?_
                | with_reducible refine ed_ge ?_
                | with_reducible refine ed_isN ?_
                | with_reducible refine ed_notN ?_
                | with_reducible refine ed_strOf ?_
                | refine ift (by rfl) ?_
                | refine iff' (by rfl) ?_
                | refine ift (by assumption) ?_
                | refine iff' (by assumption) ?_
                | (refine ift ?_ ?_; focus (simp only [*] <;> first | done | rfl))
                | (refine iff' ?_ ?_; focus (simp only [*] <;> first | done | rfl))
                | (refine ift ?_ ?_; focus (simp [*]; done))
                | (refine iff' ?_ ?_; focus (simp [*]; done))
                | refine ex_is_integer ?_
                | refine ex_law_is_int ?_
                | refine ex_law_is_from ?_
                | refine ex_law_is_key ?_ ?_
                | refine ex_law_is_operation ?_ ?_
                | refine ex_law_is_content ?_ ?_
                | refine ex_is_count ?_
                | refine ex_is_row_looks ?_ ?_
                | refine ex_is_key ?_ ?_
                | refine ex_is_operation_value ?_ ?_
                | refine ex_is_content_value ?_ ?_
                | with_reducible refine And.intro (shp_e (by assumption)) ?_
                | with_reducible refine And.intro (by assumption) ?_
                | with_reducible refine And.intro (by intro s h; cases h) ?_
                | refine And.intro (by rfl) ?_
                | refine Exists.intro _ (And.intro rfl ?_)
                | refine ix_tup0 (by rfl) ?_
                | refine ix_tup1 (by rfl) ?_
                | refine ix_tup2 (by rfl) ?_
                | refine ix_tup3 (by rfl) ?_
                | refine Exists.intro _ (Exists.intro _ (And.intro rfl (And.intro rfl ?_)))
              rw [hk]
              rfl
            rintro _ rfl
            refine iff' rfl (sd_next (sd_seq (sd_asg (ed_get2 (by decide) (ed_ix (ed_var rfl (ed_int (ix_tup0 rfl (ed_int ⟨h, _, rfl, look_many2 h, ?_⟩)))))))))
            refine sd_ret (ed_and (ed_eq (ed_len (ed_var rfl ⟨_, rfl, hl, ed_var rfl ⟨rfl, _, rfl, ?_⟩⟩))))
            have e1 : PyData.eqv (.int (((.str h :: k :: rest : List PyData).length : Nat) : Int)) (.int (many2 h)) = decide (manyOf h = some (rest.length + 2)) := by
              rw [← many_eq]
              show ((((rest.length + 2 : Nat)) : Int) == many2 h) = decide (((rest.length + 2 : Nat) : Int) = many2 h)
              rw [Bool.beq_eq_decide_eq]
            rw [e1]
            refine ifc (fun h1 => ?_) fun h1 => by rw [h1, Bool.false_and]
            rw [h1, Bool.true_and]
            refine ed_noneLc (gs := [2]) (by decide) (ei_tup (ed_slT (ed_var rfl ⟨_, rfl, eo_some (ed_int ⟨2, rfl, eo_none ⟨_, rfl, ?_⟩⟩)⟩)))
            rw [show (some (2 : Int)) = some ((2 : Nat) : Int) from rfl, cut_from]
            exact ⟨by show rest.length ≤ 100000; omega, fun x => !isI x, fun x hx => eg_name (et_not (et_tB (ed_call (ea_cons (ed_var rfl (ea_nil (ex_law_is_int ⟨_, rfl, rfl⟩))))))), by rw [all_not] <;> rfl⟩
        | _ =>
          repeat' first
            | rfl
            | assumption
            | with_reducible refine sd_ret ?_
            | with_reducible refine sd_seq ?_
            | with_reducible refine sd_if ?_
            | with_reducible refine sd_next ?_
            | with_reducible refine sd_asg ?_
            | with_reducible refine sd_par ?_
            | with_reducible apply ed_var
            | with_reducible refine ed_non ?_
            | with_reducible refine ed_bl ?_
            | with_reducible refine ed_int ?_
            | with_reducible refine ed_str ?_
            | with_reducible refine et_tB ?_
            | with_reducible refine et_tTest ?_
            | with_reducible refine et_and ?_
            | with_reducible refine et_or ?_
            | with_reducible refine et_not ?_
            | with_reducible refine ed_and ?_
            | with_reducible refine ed_or ?_
            | with_reducible refine ed_not ?_
            | with_reducible refine ed_if ?_
            | with_reducible refine ed_isi (by decide) ?_
            | with_reducible refine ed_len ?_
            | with_reducible refine ed_ix ?_
            | with_reducible refine ed_call ?_
            | with_reducible refine ea_cons ?_
            | with_reducible refine ea_nil ?_
            | with_reducible refine ed_eq ?_
            | with_reducible refine ed_ne ?_
            | with_reducible refine ed_eqD ?_
            | with_reducible refine ed_lt ?_
            | with_reducible refine ed_le ?_
            | with_reducible refine ed_gt ?_
            | with_reducible refine ed_ge ?_
            | with_reducible refine ed_isN ?_
            | with_reducible refine ed_notN ?_
            | with_reducible refine ed_strOf ?_
            | refine ift (by rfl) ?_
            | refine iff' (by rfl) ?_
            | refine ift (by assumption) ?_
            | refine iff' (by assumption) ?_
            | (refine ift ?_ ?_; focus (simp only [*] <;> first | done | rfl))
            | (refine iff' ?_ ?_; focus (simp only [*] <;> first | done | rfl))
            | (refine ift ?_ ?_; focus (simp [*]; done))
            | (refine iff' ?_ ?_; focus (simp [*]; done))
            | refine ex_is_integer ?_
            | refine ex_law_is_int ?_
            | refine ex_law_is_from ?_
            | refine ex_law_is_key ?_ ?_
            | refine ex_law_is_operation ?_ ?_
            | refine ex_law_is_content ?_ ?_
            | refine ex_is_count ?_
            | refine ex_is_row_looks ?_ ?_
            | refine ex_is_key ?_ ?_
            | refine ex_is_operation_value ?_ ?_
            | refine ex_is_content_value ?_ ?_
            | with_reducible refine And.intro (shp_e (by assumption)) ?_
            | with_reducible refine And.intro (by assumption) ?_
            | with_reducible refine And.intro (by intro s h; cases h) ?_
            | refine And.intro (by rfl) ?_
            | refine Exists.intro _ (And.intro rfl ?_)
            | refine ix_tup0 (by rfl) ?_
            | refine ix_tup1 (by rfl) ?_
            | refine ix_tup2 (by rfl) ?_
            | refine ix_tup3 (by rfl) ?_
            | refine Exists.intro _ (Exists.intro _ (And.intro rfl (And.intro rfl ?_)))
  | bool _ => cases f
  | list _ => cases f
  | dict _ => cases f
  | _ =>
    repeat' first
      | rfl
      | assumption
      | with_reducible refine sd_ret ?_
      | with_reducible refine sd_seq ?_
      | with_reducible refine sd_if ?_
      | with_reducible refine sd_next ?_
      | with_reducible refine sd_asg ?_
      | with_reducible refine sd_par ?_
      | with_reducible apply ed_var
      | with_reducible refine ed_non ?_
      | with_reducible refine ed_bl ?_
      | with_reducible refine ed_int ?_
      | with_reducible refine ed_str ?_
      | with_reducible refine et_tB ?_
      | with_reducible refine et_tTest ?_
      | with_reducible refine et_and ?_
      | with_reducible refine et_or ?_
      | with_reducible refine et_not ?_
      | with_reducible refine ed_and ?_
      | with_reducible refine ed_or ?_
      | with_reducible refine ed_not ?_
      | with_reducible refine ed_if ?_
      | with_reducible refine ed_isi (by decide) ?_
      | with_reducible refine ed_len ?_
      | with_reducible refine ed_ix ?_
      | with_reducible refine ed_call ?_
      | with_reducible refine ea_cons ?_
      | with_reducible refine ea_nil ?_
      | with_reducible refine ed_eq ?_
      | with_reducible refine ed_ne ?_
      | with_reducible refine ed_eqD ?_
      | with_reducible refine ed_lt ?_
      | with_reducible refine ed_le ?_
      | with_reducible refine ed_gt ?_
      | with_reducible refine ed_ge ?_
      | with_reducible refine ed_isN ?_
      | with_reducible refine ed_notN ?_
      | with_reducible refine ed_strOf ?_
      | refine ift (by rfl) ?_
      | refine iff' (by rfl) ?_
      | refine ift (by assumption) ?_
      | refine iff' (by assumption) ?_
      | (refine ift ?_ ?_; focus (simp only [*] <;> first | done | rfl))
      | (refine iff' ?_ ?_; focus (simp only [*] <;> first | done | rfl))
      | (refine ift ?_ ?_; focus (simp [*]; done))
      | (refine iff' ?_ ?_; focus (simp [*]; done))
      | refine ex_is_integer ?_
      | refine ex_law_is_int ?_
      | refine ex_law_is_from ?_
      | refine ex_law_is_key ?_ ?_
      | refine ex_law_is_operation ?_ ?_
      | refine ex_law_is_content ?_ ?_
      | refine ex_is_count ?_
      | refine ex_is_row_looks ?_ ?_
      | refine ex_is_key ?_ ?_
      | refine ex_is_operation_value ?_ ?_
      | refine ex_is_content_value ?_ ?_
      | with_reducible refine And.intro (shp_e (by assumption)) ?_
      | with_reducible refine And.intro (by assumption) ?_
      | with_reducible refine And.intro (by intro s h; cases h) ?_
      | refine And.intro (by rfl) ?_
      | refine Exists.intro _ (And.intro rfl ?_)
      | refine ix_tup0 (by rfl) ?_
      | refine ix_tup1 (by rfl) ?_
      | refine ix_tup2 (by rfl) ?_
      | refine ix_tup3 (by rfl) ?_
      | refine Exists.intro _ (Exists.intro _ (And.intro rfl (And.intro rfl ?_)))⟩
end
end K61
end

section
set_option Elab.async false
set_option linter.all false
set_option maxRecDepth 100000
set_option maxHeartbeats 4000000
/-! plain: a list of texts is the sorted set of its texts if and only if it rises -/
namespace K61
open PySem PySem.Spec
abbrev LtS (a b : Str) : Prop := a.cps.toList < b.cps.toList
theorem ltS_iff {a b : Str} : ltS a b = true ↔ LtS a b := decide_eq_true_iff
theorem LtS.irr {a : Str} : ¬ LtS a a := List.lt_irrefl _
theorem LtS.tr {a b c : Str} (h1 : LtS a b) (h2 : LtS b c) : LtS a c := List.lt_trans h1 h2
theorem LtS.tot {a b : Str} (h1 : ¬ LtS a b) (h2 : ¬ LtS b a) : a = b := by
  have h : a.cps.toList = b.cps.toList := List.le_antisymm (List.not_lt.mp h2) (List.not_lt.mp h1)
  exact Str.ext' (Array.toList_inj.mp h)
theorem ris_iff : ∀ l : List Str, risS l = true ↔ l.Pairwise LtS
  | [] => ⟨fun _ => .nil, fun _ => rfl⟩
  | [a] => ⟨fun _ => List.pairwise_singleton _ _, fun _ => rfl⟩
  | a :: b :: r => by
    show (ltS a b && risS (b :: r)) = true ↔ _
    rw [Bool.and_eq_true_iff, ris_iff (b :: r), ltS_iff]
    constructor
    · rintro ⟨h1, h2⟩
      refine List.pairwise_cons.mpr ⟨fun x hx => ?_, h2⟩
      rcases List.mem_cons.mp hx with e | hx
      · rw [e]; exact h1
      · exact h1.tr ((List.pairwise_cons.mp h2).1 x hx)
    · intro h
      exact ⟨(List.pairwise_cons.mp h).1 b List.mem_cons_self, (List.pairwise_cons.mp h).2⟩
theorem fold_nodup : ∀ (l acc : List Str), (acc ++ l).Nodup → l.foldl addT acc = acc ++ l
  | [], acc, _ => (List.append_nil _).symm
  | x :: r, acc, h => by
    have hx : x ∉ acc := fun z => by
      have := (List.nodup_append.mp h).2.2 x z x List.mem_cons_self
      exact this rfl
    show r.foldl addT (addT acc x) = _
    have e : addT acc x = acc ++ [x] := if_neg hx
    rw [e, fold_nodup r (acc ++ [x]) (by simpa using h)]
    simp
theorem fold_uniq : ∀ (l acc : List Str), acc.Nodup → (l.foldl addT acc).Nodup
  | [], _, h => h
  | x :: r, acc, h => fold_uniq r _ (addT_nodup h x)
theorem Srt_iff : ∀ (l : List Str), PyProof.Rows.sortedS l = true → l.Pairwise fun a b => ¬ LtS b a
  | [], _ => .nil
  | [a], _ => List.pairwise_singleton _ _
  | a :: b :: r, h => by
    obtain ⟨h1, h2⟩ := Bool.and_eq_true_iff.mp (show (!PySem.Spec.ltCps b.cps.toList a.cps.toList && PyProof.Rows.risingS b r) = true from h)
    have h3 := Srt_iff (b :: r) h2
    have h4 : ¬ LtS b a := by
      have h5 : PySem.Spec.ltCps b.cps.toList a.cps.toList = false := by simpa using h1
      rw [PyProof.Rows.ltCps_eq] at h5
      exact of_decide_eq_false h5
    refine List.pairwise_cons.mpr ⟨fun x hx => ?_, h3⟩
    rcases List.mem_cons.mp hx with e | hx
    · rw [e]; exact h4
    · intro hxa
      have h5 := (List.pairwise_cons.mp h3).1 x hx
      by_cases hbx : LtS b x
      · exact h4 (hbx.tr hxa)
      · rw [LtS.tot hbx h5] at h4
        exact h4 hxa
theorem perm_lt : ∀ {l m : List Str}, l.Perm m → l.Pairwise LtS → m.Pairwise LtS → l = m := by
  intro l
  induction l with
  | nil =>
    intro m h _ _
    exact h.nil_eq
  | cons a r ih =>
    intro m h h1 h2
    cases m with
    | nil => exact absurd h.length_eq (by simp)
    | cons b s =>
      have ha : a ∈ b :: s := h.mem_iff.mp List.mem_cons_self
      have hb : b ∈ a :: r := h.mem_iff.mpr List.mem_cons_self
      have e : a = b := by
        rcases List.mem_cons.mp ha with e | ha
        · exact e
        · rcases List.mem_cons.mp hb with e | hb
          · exact e.symm
          · exact absurd (((List.pairwise_cons.mp h1).1 b hb).tr ((List.pairwise_cons.mp h2).1 a ha)) LtS.irr
      subst e
      rw [ih h.cons_inv (List.pairwise_cons.mp h1).2 (List.pairwise_cons.mp h2).2]
theorem strict_of {l : List Str} (h : l.Pairwise fun a b => ¬ LtS b a) (hd : l.Nodup) : l.Pairwise LtS := by
  refine List.Pairwise.imp₂ (fun a b h1 h2 => ?_) h hd
  by_cases hab : LtS a b
  · exact hab
  · exact absurd (LtS.tot hab h1) h2
theorem nodup_of {l : List Str} (h : l.Pairwise LtS) : l.Nodup := h.imp fun {a b} h e => by
  rw [e] at h
  exact LtS.irr h
theorem set_ris {ks ys : List Str} (pm : ys.Perm (uniqT ks)) (hs : PyProof.Rows.sortedS ys = true) : decide (ks = ys) = risS ks := by
  have hy : ys.Pairwise LtS := strict_of (Srt_iff ys hs) (pm.nodup_iff.mpr (fold_uniq ks [] List.nodup_nil))
  rw [Bool.eq_iff_iff, decide_eq_true_eq, ris_iff]
  constructor
  · intro e; rw [e]; exact hy
  · intro h
    have e : uniqT ks = ks := fold_nodup ks [] (nodup_of h)
    rw [e] at pm
    exact (perm_lt pm hy h).symm
theorem eqv_strs : ∀ (l m : List Str), PyData.eqv (.list (l.map .str)) (.list (m.map .str)) = decide (l = m)
  | [], [] => rfl
  | [], _ :: _ => rfl
  | _ :: _, [] => rfl
  | a :: l, b :: m => by
    show (PyData.eqv (.str a) (.str b) && PyData.eqv (.list (l.map .str)) (.list (m.map .str))) = decide (a :: l = b :: m)
    rw [eqv_strs l m]
    show ((a == b) && decide (l = m)) = _
    rw [Bool.eq_iff_iff]
    simp
end K61
end

section
set_option Elab.async false
set_option linter.all false
set_option maxRecDepth 100000
set_option maxHeartbeats 4000000
namespace K61
open PySem PySem.Spec L2
section
variable {K : PySem.W.Frag}
def okP : PyData → Bool
  | .tuple [k, w] => keyD k && isI w
  | _ => false
def badE (low : Str) : PyData → Bool
  | .tuple [.str k, .int w] => decide (w = 0) || ltS k low
  | _ => false
theorem okP_of {x : PyData} (h : okP x = true) : ∃ k w, x = .tuple [.str k, .int w] ∧ keyS k = true := by
  match x, h with
  | .tuple [k, w], h =>
    obtain ⟨h1, h2⟩ := Bool.and_eq_true_iff.mp (show (keyD k && isI w) = true from h)
    cases k with
    | str k =>
      cases w with
      | int w => exact ⟨k, w, rfl, h1⟩
      | _ => cases h2
    | _ => cases h1
theorem ent_ok {low : Str} {x : PyData} (h : okP x = true) : entD low x = !badE low x := by
  obtain ⟨k, w, rfl, hk⟩ := okP_of h
  show (keyS k && (decide (w ≠ 0) && !ltS k low)) = !(decide (w = 0) || ltS k low)
  rw [hk, Bool.true_and, Bool.not_or, decide_not]
theorem ent_bad {low : Str} {x : PyData} (h : okP x = false) : entD low x = false := by
  match x, h with
  | .tuple [.str k, .int w], h =>
    have h' : (keyS k && true) = false := h
    rw [Bool.and_true] at h'
    show (keyS k && _) = false
    rw [h', Bool.false_and]
  | .tuple [.str k, .none], _ => rfl
  | .tuple [.str k, .bool _], _ => rfl
  | .tuple [.str k, .str _], _ => rfl
  | .tuple [.str k, .list _], _ => rfl
  | .tuple [.str k, .tuple _], _ => rfl
  | .tuple [.str k, .dict _], _ => rfl
  | .tuple [.none, _], _ => rfl
  | .tuple [.bool _, _], _ => rfl
  | .tuple [.int _, _], _ => rfl
  | .tuple [.list _, _], _ => rfl
  | .tuple [.tuple _, _], _ => rfl
  | .tuple [.dict _, _], _ => rfl
  | .tuple [], _ => rfl
  | .tuple [a], _ => cases a <;> rfl
  | .tuple (a :: b :: c :: r), _ => cases a <;> first | rfl | (cases b <;> rfl)
  | .none, _ => rfl
  | .bool _, _ => rfl
  | .int _, _ => rfl
  | .str _, _ => rfl
  | .list _, _ => rfl
  | .dict _, _ => rfl
theorem ent_all2 {low : Str} : ∀ {es : List PyData}, es.all okP = true → es.all (entD low) = es.all fun x => !badE low x
  | [], _ => rfl
  | x :: r, h => by
    obtain ⟨h1, h2⟩ := Bool.and_eq_true_iff.mp (show (okP x && r.all okP) = true from h)
    show (entD low x && r.all (entD low)) = (!badE low x && r.all fun x => !badE low x)
    rw [ent_ok h1, ent_all2 h2]
theorem cont_low {low : Str} {es : List PyData} {c : PyData} (hlow : (decide (low = Str.empty) || keyS low) = true) : contD (.tuple [.str low, .tuple es, c]) = (decide (es.length ≤ 3) && (es.all (entD low) && (risS (es.map keyOf) && (isN c || isC c)))) := by
  show ((decide (low = Str.empty) || keyS low) && _) = _
  rw [hlow, Bool.true_and]
theorem cont_nolow {low : Str} {b c : PyData} (hlow : (decide (low = Str.empty) || keyS low) = false) : contD (.tuple [.str low, b, c]) = false := by
  cases b <;> first | rfl | (show ((decide (low = Str.empty) || keyS low) && _) = false; rw [hlow, Bool.false_and])
theorem shaped_strs {l : List Str} (h : ∀ x ∈ l, x.cps.all (· < 0x110000) = true) : SeqAt.shaped (.list (l.map .str)) = true := by
  have key : ∀ l : List Str, (∀ x ∈ l, x.cps.all (· < 0x110000) = true) → PyData.canLayAll0 (l.map .str) = true ∧ PyData.depthAll (l.map .str) ≤ 0 := by
    intro l
    induction l with
    | nil => exact fun _ => ⟨rfl, Nat.le_refl _⟩
    | cons x r ih =>
      intro hl
      obtain ⟨h3, h4⟩ := ih fun y hy => hl y (List.mem_cons_of_mem _ hy)
      refine ⟨Bool.and_eq_true_iff.mpr ⟨hl x List.mem_cons_self, h3⟩, ?_⟩
      show max 0 (PyData.depthAll (r.map .str)) ≤ 0
      exact Nat.max_le.mpr ⟨Nat.le_refl _, h4⟩
  obtain ⟨h1, h2⟩ := key l h
  refine Bool.and_eq_true_iff.mpr ⟨h1, decide_eq_true ?_⟩
  show PyData.depthAll _ + 1 ≤ 64
  omega
theorem uniq_mem : ∀ (l acc : List Str) (y : Str), y ∈ l.foldl addT acc → y ∈ acc ∨ y ∈ l
  | [], acc, y, h => .inl h
  | x :: r, acc, y, h => by
    rcases uniq_mem r (addT acc x) y h with z | z
    · rcases addT_mem.mp z with z | z
      · exact .inl z
      · exact .inr (by rw [z]; exact List.mem_cons_self)
    · exact .inr (List.mem_cons_of_mem _ z)
theorem se_law_is_content : SemD K C_law_is_content (t_law_is_content K) 1 8 := fun ds d ⟨x, e, f, hd⟩ => ⟨by rw [e] <;> rfl, by
  subst e hd
  show Sd K W0 (t_law_is_content K) [.val x, .any, .any, .any, .any, .any, .any, .any] _ _
  unfold t_law_is_content
  cases x with
  | none =>
    repeat' first
      | rfl
      | assumption
      | with_reducible refine sd_ret ?_
      | with_reducible refine sd_seq ?_
      | with_reducible refine sd_if ?_
      | with_reducible refine sd_next ?_
      | with_reducible refine sd_asg ?_
      | with_reducible refine sd_par ?_
      | with_reducible apply ed_var
      | with_reducible refine ed_non ?_
      | with_reducible refine ed_bl ?_
      | with_reducible refine ed_int ?_
      | with_reducible refine ed_str ?_
      | with_reducible refine et_tB ?_
      | with_reducible refine et_tTest ?_
      | with_reducible refine et_and ?_
      | with_reducible refine et_or ?_
      | with_reducible refine et_not ?_
      | with_reducible refine ed_and ?_
      | with_reducible refine ed_or ?_
      | with_reducible refine ed_not ?_
      | with_reducible refine ed_if ?_
      | with_reducible refine ed_isi (by decide) ?_
      | with_reducible refine ed_len ?_
      | with_reducible refine ed_ix ?_
      | with_reducible refine ed_call ?_
      | with_reducible refine ea_cons ?_
      | with_reducible refine ea_nil ?_
      | with_reducible refine ed_eq ?_
      | with_reducible refine ed_ne ?_
      | with_reducible refine ed_eqD ?_
      | with_reducible refine ed_lt ?_
      | with_reducible refine ed_le ?_
      | with_reducible refine ed_gt ?_
      | with_reducible refine ed_ge ?_
      | with_reducible refine ed_isN ?_
      | with_reducible refine ed_notN ?_
      | with_reducible refine ed_strOf ?_
      | refine ift (by rfl) ?_
      | refine iff' (by rfl) ?_
      | refine ift (by assumption) ?_
      | refine iff' (by assumption) ?_
      | (refine ift ?_ ?_; focus (simp only [*] <;> first | done | rfl))
      | (refine iff' ?_ ?_; focus (simp only [*] <;> first | done | rfl))
      | (refine ift ?_ ?_; focus (simp [*]; done))
      | (refine iff' ?_ ?_; focus (simp [*]; done))
      | refine ex_is_integer ?_
      | refine ex_law_is_int ?_
      | refine ex_law_is_from ?_
      | refine ex_law_is_key ?_ ?_
      | refine ex_law_is_operation ?_ ?_
      | refine ex_law_is_content ?_ ?_
      | refine ex_is_count ?_
      | refine ex_is_row_looks ?_ ?_
      | refine ex_is_key ?_ ?_
      | refine ex_is_operation_value ?_ ?_
      | refine ex_is_content_value ?_ ?_
      | with_reducible refine And.intro (shp_e (by assumption)) ?_
      | with_reducible refine And.intro (by assumption) ?_
      | with_reducible refine And.intro (by intro s h; cases h) ?_
      | refine And.intro (by rfl) ?_
      | refine Exists.intro _ (And.intro rfl ?_)
      | refine ix_tup0 (by rfl) ?_
      | refine ix_tup1 (by rfl) ?_
      | refine ix_tup2 (by rfl) ?_
      | refine ix_tup3 (by rfl) ?_
      | refine Exists.intro _ (Exists.intro _ (And.intro rfl (And.intro rfl ?_)))
  | tuple xs =>
    obtain ⟨hl0, hf⟩ := fine_tup f
    have hl : xs.length ≤ sizeLine := Nat.le_trans hl0 (by decide)
    refine sd_seq (sd_if (et_tTest (ed_isN (ed_var rfl ⟨_, rfl, iff' rfl (sd_next (sd_seq (sd_if (et_or (et_not (et_tB (ed_isi (by decide) (ed_var rfl ⟨_, rfl, iff' rfl (et_or (et_tTest (ed_ne (ed_len (ed_var rfl ⟨_, rfl, hl, ed_int ⟨rfl, _, rfl, ?_⟩⟩)))))⟩))))))))⟩))))
    rw [show (PyData.eqv (.int ((xs.length : Nat) : Int)) (.int 3)) = decide (xs.length = 3) from len_eqv xs.length 3]
    by_cases hn : xs.length = 3
    · match xs, hn with
      | [a, b, c], _ =>
        have fa : fine 5 a = true := fine_up _ _ (hf a (by simp))
        have fb : fine 5 b = true := fine_up _ _ (hf b (by simp))
        have fc : fine 5 c = true := fine_up _ _ (hf c (by simp))
        refine iff' rfl ?_
        cases b with
        | tuple es =>
          obtain ⟨hel, hef⟩ := fine_tup fb
          have hel' : es.length ≤ sizeLine := Nat.le_trans hel (by decide)
          refine et_or (et_not (et_tB (ed_isi (by decide) (ed_ix (ed_var rfl (ed_int (ix_tup1 rfl ⟨_, rfl, iff' rfl (et_tTest (ed_gt (ed_len (ed_ix (ed_var rfl (ed_int (ix_tup1 rfl ⟨_, rfl, hel', ed_int ⟨_, _, rfl, rfl, _, rfl, ?_⟩⟩)))))))⟩)))))))
          cases h1 : decide ((3 : Int) < (es.length : Nat)) with
          | true =>
            have h1' : (3 : Int) < (es.length : Nat) := of_decide_eq_true h1
            have ho : contD (.tuple [a, .tuple es, c]) = false := by
              cases a with
              | str low =>
                show ((decide (low = Str.empty) || keyS low) && (decide (es.length ≤ 3) && _)) = false
                rw [decide_eq_false (p := es.length ≤ 3) (by omega), Bool.false_and, Bool.and_false]
              | _ => rfl
            rw [ho]
            exact ift rfl (sd_ret (ed_bl rfl))
          | false =>
            have h1' : ¬ (3 : Int) < (es.length : Nat) := of_decide_eq_false h1
            refine iff' rfl (sd_next (sd_seq (sd_asgG (gs := [1, 2, 3]) (ed_var rfl (eg_tup3 (sd_seq (sd_if ?_)))))))
            cases a with
            | str low =>
              refine Et.mono (P := fun b => b = !((decide (low = Str.empty) || keyS low) && (isN c || isC c))) ?t2 ?_
              case t2 =>
                have hb := str_eqv low ""
                rw [show decide (low = Str.ofString "") = decide (low = Str.empty) from rfl] at hb
                cases hl : decide (low = Str.empty) with
                | true =>
                  rw [hl] at hb
                  cases c with
                  | bool _ => cases fc
                  | list _ => cases fc
                  | dict _ => cases fc
                  | int i =>
                    cases hi : isC (.int i)
                    all_goals
                      repeat' first
                        | rfl
                        | assumption
                        | with_reducible refine sd_ret ?_
                        | with_reducible refine sd_seq ?_
                        | with_reducible refine sd_if ?_
                        | with_reducible refine sd_next ?_
                        | with_reducible refine sd_asg ?_
                        | with_reducible refine sd_par ?_
                        | with_reducible apply ed_var
                        | with_reducible refine ed_non ?_
                        | with_reducible refine ed_bl ?_
                        | with_reducible refine ed_int ?_
                        | with_reducible refine ed_str ?_
                        | with_reducible refine et_tB ?_
                        | with_reducible refine et_tTest ?_
                        | with_reducible refine et_and ?_
                        | with_reducible refine et_or ?_
                        | with_reducible refine et_not ?_
                        | with_reducible refine ed_and ?_
                        | with_reducible refine ed_or ?_
                        | with_reducible refine ed_not ?_
                        | with_reducible refine ed_if ?_
                        | with_reducible refine ed_isi (by decide) ?_
                        | with_reducible refine ed_len ?_
                        | with_reducible refine ed_ix ?_
                        | with_reducible refine ed_call ?_
                        | with_reducible refine ea_cons ?_
                        | with_reducible refine ea_nil ?_
                        | with_reducible refine ed_eq ?_
                        | with_reducible refine ed_ne ?_
                        | with_reducible refine ed_eqD ?_
                        | with_reducible refine ed_lt ?_
                        | with_reducible refine ed_le ?_
                        | with_reducible refine ed_gt ?_
                        | with_reducible refine ed_ge ?_
                        | with_reducible refine ed_isN ?_
                        | with_reducible refine ed_notN ?_
                        | with_reducible refine ed_strOf ?_
                        | refine ift (by rfl) ?_
                        | refine iff' (by rfl) ?_
                        | refine ift (by assumption) ?_
                        | refine iff' (by assumption) ?_
                        | (refine ift ?_ ?_; focus (simp only [*] <;> first | done | rfl))
                        | (refine iff' ?_ ?_; focus (simp only [*] <;> first | done | rfl))
                        | (refine ift ?_ ?_; focus (simp [*]; done))
                        | (refine iff' ?_ ?_; focus (simp [*]; done))
                        | refine ex_is_integer ?_
                        | refine ex_law_is_int ?_
                        | refine ex_law_is_from ?_
                        | refine ex_law_is_key ?_ ?_
                        | refine ex_law_is_operation ?_ ?_
                        | refine ex_law_is_content ?_ ?_
                        | refine ex_is_count ?_
                        | refine ex_is_row_looks ?_ ?_
                        | refine ex_is_key ?_ ?_
                        | refine ex_is_operation_value ?_ ?_
                        | refine ex_is_content_value ?_ ?_
                        | with_reducible refine And.intro (shp_e (by assumption)) ?_
                        | with_reducible refine And.intro (by assumption) ?_
                        | with_reducible refine And.intro (by intro s h; cases h) ?_
                        | refine And.intro (by rfl) ?_
                        | refine Exists.intro _ (And.intro rfl ?_)
                        | refine ix_tup0 (by rfl) ?_
                        | refine ix_tup1 (by rfl) ?_
                        | refine ix_tup2 (by rfl) ?_
                        | refine ix_tup3 (by rfl) ?_
                        | refine Exists.intro _ (Exists.intro _ (And.intro rfl (And.intro rfl ?_)))
                      all_goals simp_all [isN, isC]
                  | _ =>
                    repeat' first
                      | rfl
                      | assumption
                      | with_reducible refine sd_ret ?_
                      | with_reducible refine sd_seq ?_
                      | with_reducible refine sd_if ?_
                      | with_reducible refine sd_next ?_
                      | with_reducible refine sd_asg ?_
                      | with_reducible refine sd_par ?_
                      | with_reducible apply ed_var
                      | with_reducible refine ed_non ?_
                      | with_reducible refine ed_bl ?_
                      | with_reducible refine ed_int ?_
                      | with_reducible refine ed_str ?_
                      | with_reducible refine et_tB ?_
                      | with_reducible refine et_tTest ?_
                      | with_reducible refine et_and ?_
                      | with_reducible refine et_or ?_
                      | with_reducible refine et_not ?_
                      | with_reducible refine ed_and ?_
                      | with_reducible refine ed_or ?_
                      | with_reducible refine ed_not ?_
                      | with_reducible refine ed_if ?_
                      | with_reducible refine ed_isi (by decide) ?_
                      | with_reducible refine ed_len ?_
                      | with_reducible refine ed_ix ?_
                      | with_reducible refine ed_call ?_
                      | with_reducible refine ea_cons ?_
                      | with_reducible refine ea_nil ?_
                      | with_reducible refine ed_eq ?_
                      | with_reducible refine ed_ne ?_
                      | with_reducible refine ed_eqD ?_
                      | with_reducible refine ed_lt ?_
                      | with_reducible refine ed_le ?_
                      | with_reducible refine ed_gt ?_
                      | with_reducible refine ed_ge ?_
                      | with_reducible refine ed_isN ?_
                      | with_reducible refine ed_notN ?_
                      | with_reducible refine ed_strOf ?_
                      | refine ift (by rfl) ?_
                      | refine iff' (by rfl) ?_
                      | refine ift (by assumption) ?_
                      | refine iff' (by assumption) ?_
                      | (refine ift ?_ ?_; focus (simp only [*] <;> first | done | rfl))
                      | (refine iff' ?_ ?_; focus (simp only [*] <;> first | done | rfl))
                      | (refine ift ?_ ?_; focus (simp [*]; done))
                      | (refine iff' ?_ ?_; focus (simp [*]; done))
                      | refine ex_is_integer ?_
                      | refine ex_law_is_int ?_
                      | refine ex_law_is_from ?_
                      | refine ex_law_is_key ?_ ?_
                      | refine ex_law_is_operation ?_ ?_
                      | refine ex_law_is_content ?_ ?_
                      | refine ex_is_count ?_
                      | refine ex_is_row_looks ?_ ?_
                      | refine ex_is_key ?_ ?_
                      | refine ex_is_operation_value ?_ ?_
                      | refine ex_is_content_value ?_ ?_
                      | with_reducible refine And.intro (shp_e (by assumption)) ?_
                      | with_reducible refine And.intro (by assumption) ?_
                      | with_reducible refine And.intro (by intro s h; cases h) ?_
                      | refine And.intro (by rfl) ?_
                      | refine Exists.intro _ (And.intro rfl ?_)
                      | refine ix_tup0 (by rfl) ?_
                      | refine ix_tup1 (by rfl) ?_
                      | refine ix_tup2 (by rfl) ?_
                      | refine ix_tup3 (by rfl) ?_
                      | refine Exists.intro _ (Exists.intro _ (And.intro rfl (And.intro rfl ?_)))
                | false =>
                  rw [hl] at hb
                  cases hk : keyD (.str low) with
                  | true =>
                    have hk' : keyS low = true := hk
                    cases c with
                    | bool _ => cases fc
                    | list _ => cases fc
                    | dict _ => cases fc
                    | int i =>
                      cases hi : isC (.int i)
                      all_goals
                        repeat' first
                          | rfl
                          | assumption
                          | with_reducible refine sd_ret ?_
                          | with_reducible refine sd_seq ?_
                          | with_reducible refine sd_if ?_
                          | with_reducible refine sd_next ?_
                          | with_reducible refine sd_asg ?_
                          | with_reducible refine sd_par ?_
                          | with_reducible apply ed_var
                          | with_reducible refine ed_non ?_
                          | with_reducible refine ed_bl ?_
                          | with_reducible refine ed_int ?_
                          | with_reducible refine ed_str ?_
                          | with_reducible refine et_tB ?_
                          | with_reducible refine et_tTest ?_
                          | with_reducible refine et_and ?_
                          | with_reducible refine et_or ?_
                          | with_reducible refine et_not ?_
                          | with_reducible refine ed_and ?_
                          | with_reducible refine ed_or ?_
                          | with_reducible refine ed_not ?_
                          | with_reducible refine ed_if ?_
                          | with_reducible refine ed_isi (by decide) ?_
                          | with_reducible refine ed_len ?_
                          | with_reducible refine ed_ix ?_
                          | with_reducible refine ed_call ?_
                          | with_reducible refine ea_cons ?_
                          | with_reducible refine ea_nil ?_
                          | with_reducible refine ed_eq ?_
                          | with_reducible refine ed_ne ?_
                          | with_reducible refine ed_eqD ?_
                          | with_reducible refine ed_lt ?_
                          | with_reducible refine ed_le ?_
                          | with_reducible refine ed_gt ?_
                          | with_reducible refine ed_ge ?_
                          | with_reducible refine ed_isN ?_
                          | with_reducible refine ed_notN ?_
                          | with_reducible refine ed_strOf ?_
                          | refine ift (by rfl) ?_
                          | refine iff' (by rfl) ?_
                          | refine ift (by assumption) ?_
                          | refine iff' (by assumption) ?_
                          | (refine ift ?_ ?_; focus (simp only [*] <;> first | done | rfl))
                          | (refine iff' ?_ ?_; focus (simp only [*] <;> first | done | rfl))
                          | (refine ift ?_ ?_; focus (simp [*]; done))
                          | (refine iff' ?_ ?_; focus (simp [*]; done))
                          | refine ex_is_integer ?_
                          | refine ex_law_is_int ?_
                          | refine ex_law_is_from ?_
                          | refine ex_law_is_key ?_ ?_
                          | refine ex_law_is_operation ?_ ?_
                          | refine ex_law_is_content ?_ ?_
                          | refine ex_is_count ?_
                          | refine ex_is_row_looks ?_ ?_
                          | refine ex_is_key ?_ ?_
                          | refine ex_is_operation_value ?_ ?_
                          | refine ex_is_content_value ?_ ?_
                          | with_reducible refine And.intro (shp_e (by assumption)) ?_
                          | with_reducible refine And.intro (by assumption) ?_
                          | with_reducible refine And.intro (by intro s h; cases h) ?_
                          | refine And.intro (by rfl) ?_
                          | refine Exists.intro _ (And.intro rfl ?_)
                          | refine ix_tup0 (by rfl) ?_
                          | refine ix_tup1 (by rfl) ?_
                          | refine ix_tup2 (by rfl) ?_
                          | refine ix_tup3 (by rfl) ?_
                          | refine Exists.intro _ (Exists.intro _ (And.intro rfl (And.intro rfl ?_)))
                        all_goals simp_all [isN, isC]
                    | _ =>
                      repeat' first
                        | rfl
                        | assumption
                        | with_reducible refine sd_ret ?_
                        | with_reducible refine sd_seq ?_
                        | with_reducible refine sd_if ?_
                        | with_reducible refine sd_next ?_
                        | with_reducible refine sd_asg ?_
                        | with_reducible refine sd_par ?_
                        | with_reducible apply ed_var
                        | with_reducible refine ed_non ?_
                        | with_reducible refine ed_bl ?_
                        | with_reducible refine ed_int ?_
                        | with_reducible refine ed_str ?_
                        | with_reducible refine et_tB ?_
                        | with_reducible refine et_tTest ?_
                        | with_reducible refine et_and ?_
                        | with_reducible refine et_or ?_
                        | with_reducible refine et_not ?_
                        | with_reducible refine ed_and ?_
                        | with_reducible refine ed_or ?_
                        | with_reducible refine ed_not ?_
                        | with_reducible refine ed_if ?_
                        | with_reducible refine ed_isi (by decide) ?_
                        | with_reducible refine ed_len ?_
                        | with_reducible refine ed_ix ?_
                        | with_reducible refine ed_call ?_
                        | with_reducible refine ea_cons ?_
                        | with_reducible refine ea_nil ?_
                        | with_reducible refine ed_eq ?_
                        | with_reducible refine ed_ne ?_
                        | with_reducible refine ed_eqD ?_
                        | with_reducible refine ed_lt ?_
                        | with_reducible refine ed_le ?_
                        | with_reducible refine ed_gt ?_
                        | with_reducible refine ed_ge ?_
                        | with_reducible refine ed_isN ?_
                        | with_reducible refine ed_notN ?_
                        | with_reducible refine ed_strOf ?_
                        | refine ift (by rfl) ?_
                        | refine iff' (by rfl) ?_
                        | refine ift (by assumption) ?_
                        | refine iff' (by assumption) ?_
                        | (refine ift ?_ ?_; focus (simp only [*] <;> first | done | rfl))
                        | (refine iff' ?_ ?_; focus (simp only [*] <;> first | done | rfl))
                        | (refine ift ?_ ?_; focus (simp [*]; done))
                        | (refine iff' ?_ ?_; focus (simp [*]; done))
                        | refine ex_is_integer ?_
                        | refine ex_law_is_int ?_
                        | refine ex_law_is_from ?_
                        | refine ex_law_is_key ?_ ?_
                        | refine ex_law_is_operation ?_ ?_
                        | refine ex_law_is_content ?_ ?_
                        | refine ex_is_count ?_
                        | refine ex_is_row_looks ?_ ?_
                        | refine ex_is_key ?_ ?_
                        | refine ex_is_operation_value ?_ ?_
                        | refine ex_is_content_value ?_ ?_
                        | with_reducible refine And.intro (shp_e (by assumption)) ?_
                        | with_reducible refine And.intro (by assumption) ?_
                        | with_reducible refine And.intro (by intro s h; cases h) ?_
                        | refine And.intro (by rfl) ?_
                        | refine Exists.intro _ (And.intro rfl ?_)
                        | refine ix_tup0 (by rfl) ?_
                        | refine ix_tup1 (by rfl) ?_
                        | refine ix_tup2 (by rfl) ?_
                        | refine ix_tup3 (by rfl) ?_
                        | refine Exists.intro _ (Exists.intro _ (And.intro rfl (And.intro rfl ?_)))
                      all_goals simp_all [isN, isC]
                  | false =>
                    have hk' : keyS low = false := hk
                    repeat' first
                      | rfl
                      | assumption
                      | with_reducible refine sd_ret ?_
                      | with_reducible refine sd_seq ?_
                      | with_reducible refine sd_if ?_
                      | with_reducible refine sd_next ?_
                      | with_reducible refine sd_asg ?_
                      | with_reducible refine sd_par ?_
                      | with_reducible apply ed_var
                      | with_reducible refine ed_non ?_
                      | with_reducible refine ed_bl ?_
                      | with_reducible refine ed_int ?_
                      | with_reducible refine ed_str ?_
                      | with_reducible refine et_tB ?_
                      | with_reducible refine et_tTest ?_
                      | with_reducible refine et_and ?_
                      | with_reducible refine et_or ?_
                      | with_reducible refine et_not ?_
                      | with_reducible refine ed_and ?_
                      | with_reducible refine ed_or ?_
                      | with_reducible refine ed_not ?_
                      | with_reducible refine ed_if ?_
                      | with_reducible refine ed_isi (by decide) ?_
                      | with_reducible refine ed_len ?_
                      | with_reducible refine ed_ix ?_
                      | with_reducible refine ed_call ?_
                      | with_reducible refine ea_cons ?_
                      | with_reducible refine ea_nil ?_
                      | with_reducible refine ed_eq ?_
                      | with_reducible refine ed_ne ?_
                      | with_reducible refine ed_eqD ?_
                      | with_reducible refine ed_lt ?_
                      | with_reducible refine ed_le ?_
                      | with_reducible refine ed_gt ?_
                      | with_reducible refine ed_ge ?_
                      | with_reducible refine ed_isN ?_
                      | with_reducible refine ed_notN ?_
                      | with_reducible refine ed_strOf ?_
                      | refine ift (by rfl) ?_
                      | refine iff' (by rfl) ?_
                      | refine ift (by assumption) ?_
                      | refine iff' (by assumption) ?_
                      | (refine ift ?_ ?_; focus (simp only [*] <;> first | done | rfl))
                      | (refine iff' ?_ ?_; focus (simp only [*] <;> first | done | rfl))
                      | (refine ift ?_ ?_; focus (simp [*]; done))
                      | (refine iff' ?_ ?_; focus (simp [*]; done))
                      | refine ex_is_integer ?_
                      | refine ex_law_is_int ?_
                      | refine ex_law_is_from ?_
                      | refine ex_law_is_key ?_ ?_
                      | refine ex_law_is_operation ?_ ?_
                      | refine ex_law_is_content ?_ ?_
                      | refine ex_is_count ?_
                      | refine ex_is_row_looks ?_ ?_
                      | refine ex_is_key ?_ ?_
                      | refine ex_is_operation_value ?_ ?_
                      | refine ex_is_content_value ?_ ?_
                      | with_reducible refine And.intro (shp_e (by assumption)) ?_
                      | with_reducible refine And.intro (by assumption) ?_
                      | with_reducible refine And.intro (by intro s h; cases h) ?_
                      | refine And.intro (by rfl) ?_
                      | refine Exists.intro _ (And.intro rfl ?_)
                      | refine ix_tup0 (by rfl) ?_
                      | refine ix_tup1 (by rfl) ?_
                      | refine ix_tup2 (by rfl) ?_
                      | refine ix_tup3 (by rfl) ?_
                      | refine Exists.intro _ (Exists.intro _ (And.intro rfl (And.intro rfl ?_)))
                    all_goals simp_all [isN, isC]
              rintro _ rfl
              cases hlow : (decide (low = Str.empty) || keyS low) with
              | false =>
                rw [cont_nolow hlow]
                exact ift rfl (sd_ret (ed_bl rfl))
              | true =>
                rw [cont_low hlow, decide_eq_true (p := es.length ≤ 3) (by omega), Bool.true_and]
                cases hc : (isN c || isC c) with
                | false =>
                  exact ift rfl (sd_ret (ed_bl (by simp)))
                | true =>
                  rw [Bool.and_true]
                  refine iff' rfl (sd_next (sd_seq (sd_for (gs := [4]) (ei_tup (ed_var rfl ⟨es, rfl, fun i ρ' => (∃ n, ρ' = [.val (.tuple [.str low, .tuple es, c]), .val (.str low), .val (.tuple es), .val c, n, .any, .any, .any]) ∧ ∀ x ∈ es.take i, okP x = true, ⟨⟨.any, rfl⟩, fun x hx => by simp at hx⟩, ?_, ?_⟩)))))
                  · rintro i x ρ' hx ⟨⟨n, rfl⟩, hall⟩
                    have hmem : x ∈ es := List.mem_of_getElem? hx
                    have fx : fine 5 x = true := fine_up _ _ (hef x hmem)
                    refine eg_name (sd_if (Et.mono (P := fun b => b = !okP x) ?t3 ?_))
                    case t3 =>
                      show Et K W0 _ [.val (.tuple [.str low, .tuple es, c]), .val (.str low), .val (.tuple es), .val c, .val x, .any, .any, .any] _
                      cases x with
                      | tuple ps =>
                        obtain ⟨hpl, hpf⟩ := fine_tup fx
                        refine et_or (et_not (et_tB (ed_isi (by decide) (ed_var rfl ⟨_, rfl, iff' rfl (et_or (et_tTest (ed_ne (ed_len (ed_var rfl ⟨_, rfl, Nat.le_trans hpl (by decide), ed_int ⟨rfl, _, rfl, ?_⟩⟩)))))⟩))))
                        rw [show (PyData.eqv (.int ((ps.length : Nat) : Int)) (.int 2)) = decide (ps.length = 2) from len_eqv ps.length 2]
                        by_cases hp2 : ps.length = 2
                        · match ps, hp2 with
                          | [k, w], _ =>
                            have fk : fine 5 k = true := fine_up _ _ (hpf k (by simp))
                            have hk2 : okP (.tuple [k, w]) = (keyD k && isI w) := rfl
                            rw [hk2]
                            refine iff' rfl ?_
                            cases hk : keyD k
                            all_goals
                              cases hw : isI w
                              all_goals
                                repeat' first
                                  | rfl
                                  | assumption
                                  | with_reducible refine sd_ret ?_
                                  | with_reducible refine sd_seq ?_
                                  | with_reducible refine sd_if ?_
                                  | with_reducible refine sd_next ?_
                                  | with_reducible refine sd_asg ?_
                                  | with_reducible refine sd_par ?_
                                  | with_reducible apply ed_var
                                  | with_reducible refine ed_non ?_
                                  | with_reducible refine ed_bl ?_
                                  | with_reducible refine ed_int ?_
                                  | with_reducible refine ed_str ?_
                                  | with_reducible refine et_tB ?_
                                  | with_reducible refine et_tTest ?_
                                  | with_reducible refine et_and ?_
                                  | with_reducible refine et_or ?_
                                  | with_reducible refine et_not ?_
                                  | with_reducible refine ed_and ?_
                                  | with_reducible refine ed_or ?_
                                  | with_reducible refine ed_not ?_
                                  | with_reducible refine ed_if ?_
                                  | with_reducible refine ed_isi (by decide) ?_
                                  | with_reducible refine ed_len ?_
                                  | with_reducible refine ed_ix ?_
                                  | with_reducible refine ed_call ?_
                                  | with_reducible refine ea_cons ?_
                                  | with_reducible refine ea_nil ?_
                                  | with_reducible refine ed_eq ?_
                                  | with_reducible refine ed_ne ?_
                                  | with_reducible refine ed_eqD ?_
                                  | with_reducible refine ed_lt ?_
                                  | with_reducible refine ed_le ?_
                                  | with_reducible refine ed_gt ?_
                                  | with_reducible refine ed_ge ?_
                                  | with_reducible refine ed_isN ?_
                                  | with_reducible refine ed_notN ?_
                                  | with_reducible refine ed_strOf ?_
                                  | refine ift (by rfl) ?_
                                  | refine iff' (by rfl) ?_
                                  | refine ift (by assumption) ?_
                                  | refine iff' (by assumption) ?_
                                  | (refine ift ?_ ?_; focus (simp only [*] <;> first | done | rfl))
                                  | (refine iff' ?_ ?_; focus (simp only [*] <;> first | done | rfl))
                                  | (refine ift ?_ ?_; focus (simp [*]; done))
                                  | (refine iff' ?_ ?_; focus (simp [*]; done))
                                  | refine ex_is_integer ?_
                                  | refine ex_law_is_int ?_
                                  | refine ex_law_is_from ?_
                                  | refine ex_law_is_key ?_ ?_
                                  | refine ex_law_is_operation ?_ ?_
                                  | refine ex_law_is_content ?_ ?_
                                  | refine ex_is_count ?_
                                  | refine ex_is_row_looks ?_ ?_
                                  | refine ex_is_key ?_ ?_
                                  | refine ex_is_operation_value ?_ ?_
                                  | refine ex_is_content_value ?_ ?_
                                  | with_reducible refine And.intro (shp_e (by assumption)) ?_
                                  | with_reducible refine And.intro (by assumption) ?_
                                  | with_reducible refine And.intro (by intro s h; cases h) ?_
                                  | refine And.intro (by rfl) ?_
                                  | refine Exists.intro _ (And.intro rfl ?_)
                                  | refine ix_tup0 (by rfl) ?_
                                  | refine ix_tup1 (by rfl) ?_
                                  | refine ix_tup2 (by rfl) ?_
                                  | refine ix_tup3 (by rfl) ?_
                                  | refine Exists.intro _ (Exists.intro _ (And.intro rfl (And.intro rfl ?_)))
                                all_goals simp_all
                        · have hz : okP (.tuple ps) = false := by
                            match ps, hp2 with
                            | [], _ => rfl
                            | [_], _ => rfl
                            | [_, _], h => exact absurd rfl h
                            | _ :: _ :: _ :: _, _ => rfl
                          rw [hz]
                          exact ift (by rw [decide_eq_false hp2]; rfl) rfl
                      | bool _ => cases fx
                      | list _ => cases fx
                      | dict _ => cases fx
                      | _ =>
                        repeat' first
                          | rfl
                          | assumption
                          | with_reducible refine sd_ret ?_
                          | with_reducible refine sd_seq ?_
                          | with_reducible refine sd_if ?_
                          | with_reducible refine sd_next ?_
                          | with_reducible refine sd_asg ?_
                          | with_reducible refine sd_par ?_
                          | with_reducible apply ed_var
                          | with_reducible refine ed_non ?_
                          | with_reducible refine ed_bl ?_
                          | with_reducible refine ed_int ?_
                          | with_reducible refine ed_str ?_
                          | with_reducible refine et_tB ?_
                          | with_reducible refine et_tTest ?_
                          | with_reducible refine et_and ?_
                          | with_reducible refine et_or ?_
                          | with_reducible refine et_not ?_
                          | with_reducible refine ed_and ?_
                          | with_reducible refine ed_or ?_
                          | with_reducible refine ed_not ?_
                          | with_reducible refine ed_if ?_
                          | with_reducible refine ed_isi (by decide) ?_
                          | with_reducible refine ed_len ?_
                          | with_reducible refine ed_ix ?_
                          | with_reducible refine ed_call ?_
                          | with_reducible refine ea_cons ?_
                          | with_reducible refine ea_nil ?_
                          | with_reducible refine ed_eq ?_
                          | with_reducible refine ed_ne ?_
                          | with_reducible refine ed_eqD ?_
                          | with_reducible refine ed_lt ?_
                          | with_reducible refine ed_le ?_
                          | with_reducible refine ed_gt ?_
                          | with_reducible refine ed_ge ?_
                          | with_reducible refine ed_isN ?_
                          | with_reducible refine ed_notN ?_
                          | with_reducible refine ed_strOf ?_
                          | refine ift (by rfl) ?_
                          | refine iff' (by rfl) ?_
                          | refine ift (by assumption) ?_
                          | refine iff' (by assumption) ?_
                          | (refine ift ?_ ?_; focus (simp only [*] <;> first | done | rfl))
                          | (refine iff' ?_ ?_; focus (simp only [*] <;> first | done | rfl))
                          | (refine ift ?_ ?_; focus (simp [*]; done))
                          | (refine iff' ?_ ?_; focus (simp [*]; done))
                          | refine ex_is_integer ?_
                          | refine ex_law_is_int ?_
                          | refine ex_law_is_from ?_
                          | refine ex_law_is_key ?_ ?_
                          | refine ex_law_is_operation ?_ ?_
                          | refine ex_law_is_content ?_ ?_
                          | refine ex_is_count ?_
                          | refine ex_is_row_looks ?_ ?_
                          | refine ex_is_key ?_ ?_
                          | refine ex_is_operation_value ?_ ?_
                          | refine ex_is_content_value ?_ ?_
                          | with_reducible refine And.intro (shp_e (by assumption)) ?_
                          | with_reducible refine And.intro (by assumption) ?_
                          | with_reducible refine And.intro (by intro s h; cases h) ?_
                          | refine And.intro (by rfl) ?_
                          | refine Exists.intro _ (And.intro rfl ?_)
                          | refine ix_tup0 (by rfl) ?_
                          | refine ix_tup1 (by rfl) ?_
                          | refine ix_tup2 (by rfl) ?_
                          | refine ix_tup3 (by rfl) ?_
                          | refine Exists.intro _ (Exists.intro _ (And.intro rfl (And.intro rfl ?_)))
                    rintro _ rfl
                    cases ho : okP x with
                    | false =>
                      have hz : es.all (entD low) = false := List.all_eq_false.mpr ⟨x, hmem, by rw [ent_bad ho]; exact Bool.false_ne_true⟩
                      rw [hz]
                      exact ift rfl (sd_ret (ed_bl rfl))
                    | true =>
                      refine iff' rfl (sd_next ⟨⟨.val x, rfl⟩, fun y hy => ?_⟩)
                      rw [List.take_succ, hx] at hy
                      rcases List.mem_append.mp hy with z | z
                      · exact hall y z
                      · have z : y = x := by simpa using z
                        rw [z]; exact ho
                  · rintro ρ' ⟨⟨n, rfl⟩, hall⟩
                    rw [List.take_length] at hall
                    have hok : es.all okP = true := List.all_eq_true.mpr hall
                    rw [ent_all2 hok]
                    refine sd_seq (sd_asg (ed_map (gs := [4]) (by decide) (ei_tup (ed_var rfl ⟨es, rfl, by omega, fun x => .str (keyOf x), fun x hx => ?_, ?_⟩))))
                    · obtain ⟨k, w, rfl, hk⟩ := okP_of (hall x hx)
                      exact eg_name (ed_ix (ed_var rfl (ed_int (ix_tup0 rfl rfl))))
                    · have em : es.map (fun x => PyData.str (keyOf x)) = (es.map keyOf).map PyData.str := by rw [List.map_map] <;> rfl
                      rw [em]
                      have hks : ∀ x ∈ es.map keyOf, x.cps.all (· < 0x110000) = true := fun x hx => by
                        obtain ⟨p, hp, rfl⟩ := List.mem_map.mp hx
                        obtain ⟨k, w, rfl, hk⟩ := okP_of (hall p hp)
                        exact (fine_str ((fine_tup (hef _ hp)).2 (.str k) (by simp))).2
                      refine sd_ret (ed_and (ed_eqD (ed_var rfl (ed_sortSet (ed_var rfl ⟨_, rfl, by rw [List.length_map]; omega, fun ys pm hs => ⟨⟨shaped_strs hks, shaped_strs fun y hy => hks y ?_⟩, _, rfl, ?_⟩⟩)))))
                      · rcases uniq_mem _ _ _ (pm.mem_iff.mp hy) with z | z
                        · cases z
                        · exact z
                      · rw [eqv_strs, set_ris pm hs]
                        refine ifc (fun h3 => ?_) fun h3 => by simp [h3]
                        rw [h3, Bool.and_true]
                        refine ed_noneLc (gs := [6, 7]) (by decide) (ei_tup (ed_var rfl ⟨es, rfl, by omega, badE low, fun x hx => ?_, rfl⟩))
                        obtain ⟨k, w, rfl, hk⟩ := okP_of (hall x hx)
                        refine eg_tup2 (et_or (et_tTest (ed_eq (ed_var rfl (ed_int ⟨rfl, _, rfl, ?_⟩)))))
                        show (if (w == 0) = true then true = (decide (w = 0) || ltS k low) else Et K W0 _ _ fun b => b = (decide (w = 0) || ltS k low))
                        rw [Bool.beq_eq_decide_eq]
                        refine ifc (fun h4 => by rw [h4]; rfl) fun h4 => ?_
                        rw [h4, Bool.false_or]
                        exact et_tTest (ed_ltS (ed_var rfl (ed_var rfl ⟨k, low, rfl, rfl, _, rfl, rfl⟩)))
            | bool _ => cases fa
            | list _ => cases fa
            | dict _ => cases fa
            | _ =>
              repeat' first
                | rfl
                | assumption
                | with_reducible refine sd_ret ?_
                | with_reducible refine sd_seq ?_
                | with_reducible refine sd_if ?_
                | with_reducible refine sd_next ?_
                | with_reducible refine sd_asg ?_
                | with_reducible refine sd_par ?_
                | with_reducible apply ed_var
                | with_reducible refine ed_non ?_
                | with_reducible refine ed_bl ?_
                | with_reducible refine ed_int ?_
                | with_reducible refine ed_str ?_
                | with_reducible refine et_tB ?_
                | with_reducible refine et_tTest ?_
                | with_reducible refine et_and ?_
                | with_reducible refine et_or ?_
                | with_reducible refine et_not ?_
                | with_reducible refine ed_and ?_
                | with_reducible refine ed_or ?_
                | with_reducible refine ed_not ?_
                | with_reducible refine ed_if ?_
                | with_reducible refine ed_isi (by decide) ?_
                | with_reducible refine ed_len ?_
                | with_reducible refine ed_ix ?_
                | with_reducible refine ed_call ?_
                | with_reducible refine ea_cons ?_
                | with_reducible refine ea_nil ?_
                | with_reducible refine ed_eq ?_
                | with_reducible refine ed_ne ?_
                | with_reducible refine ed_eqD ?_
                | with_reducible refine ed_lt ?_
                | with_reducible refine ed_le ?_
                | with_reducible refine ed_gt ?_
                | with_reducible refine ed_ge ?_
                | with_reducible refine ed_isN ?_
                | with_reducible refine ed_notN ?_
                | with_reducible refine ed_strOf ?_
                | refine ift (by rfl) ?_
                | refine iff' (by rfl) ?_
                | refine ift (by assumption) ?_
                | refine iff' (by assumption) ?_
                | (refine ift ?_ ?_; focus (simp only [*] <;> first | done | rfl))
                | (refine iff' ?_ ?_; focus (simp only [*] <;> first | done | rfl))
                | (refine ift ?_ ?_; focus (simp [*]; done))
                | (refine iff' ?_ ?_; focus (simp [*]; done))
                | refine ex_is_integer ?_
                | refine ex_law_is_int ?_
                | refine ex_law_is_from ?_
                | refine ex_law_is_key ?_ ?_
                | refine ex_law_is_operation ?_ ?_
                | refine ex_law_is_content ?_ ?_
                | refine ex_is_count ?_
                | refine ex_is_row_looks ?_ ?_
                | refine ex_is_key ?_ ?_
                | refine ex_is_operation_value ?_ ?_
                | refine ex_is_content_value ?_ ?_
                | with_reducible refine And.intro (shp_e (by assumption)) ?_
                | with_reducible refine And.intro (by assumption) ?_
                | with_reducible refine And.intro (by intro s h; cases h) ?_
                | refine And.intro (by rfl) ?_
                | refine Exists.intro _ (And.intro rfl ?_)
                | refine ix_tup0 (by rfl) ?_
                | refine ix_tup1 (by rfl) ?_
                | refine ix_tup2 (by rfl) ?_
                | refine ix_tup3 (by rfl) ?_
                | refine Exists.intro _ (Exists.intro _ (And.intro rfl (And.intro rfl ?_)))
        | bool _ => cases fb
        | list _ => cases fb
        | dict _ => cases fb
        | none =>
          have ho : contD (.tuple [a, .none, c]) = false := by cases a <;> rfl
          rw [ho]
          repeat' first
            | rfl
            | assumption
            | with_reducible refine sd_ret ?_
            | with_reducible refine sd_seq ?_
            | with_reducible refine sd_if ?_
            | with_reducible refine sd_next ?_
            | with_reducible refine sd_asg ?_
            | with_reducible refine sd_par ?_
            | with_reducible apply ed_var
            | with_reducible refine ed_non ?_
            | with_reducible refine ed_bl ?_
            | with_reducible refine ed_int ?_
            | with_reducible refine ed_str ?_
            | with_reducible refine et_tB ?_
            | with_reducible refine et_tTest ?_
            | with_reducible refine et_and ?_
            | with_reducible refine et_or ?_
            | with_reducible refine et_not ?_
            | with_reducible refine ed_and ?_
            | with_reducible refine ed_or ?_
            | with_reducible refine ed_not ?_
            | with_reducible refine ed_if ?_
            | with_reducible refine ed_isi (by decide) ?_
            | with_reducible refine ed_len ?_
            | with_reducible refine ed_ix ?_
            | with_reducible refine ed_call ?_
            | with_reducible refine ea_cons ?_
            | with_reducible refine ea_nil ?_
            | with_reducible refine ed_eq ?_
            | with_reducible refine ed_ne ?_
            | with_reducible refine ed_eqD ?_
            | with_reducible refine ed_lt ?_
            | with_reducible refine ed_le ?_
            | with_reducible refine ed_gt ?_
            | with_reducible refine ed_ge ?_
            | with_reducible refine ed_isN ?_
            | with_reducible refine ed_notN ?_
            | with_reducible refine ed_strOf ?_
            | refine ift (by rfl) ?_
            | refine iff' (by rfl) ?_
            | refine ift (by assumption) ?_
            | refine iff' (by assumption) ?_
            | (refine ift ?_ ?_; focus (simp only [*] <;> first | done | rfl))
            | (refine iff' ?_ ?_; focus (simp only [*] <;> first | done | rfl))
            | (refine ift ?_ ?_; focus (simp [*]; done))
            | (refine iff' ?_ ?_; focus (simp [*]; done))
            | refine ex_is_integer ?_
            | refine ex_law_is_int ?_
            | refine ex_law_is_from ?_
            | refine ex_law_is_key ?_ ?_
            | refine ex_law_is_operation ?_ ?_
            | refine ex_law_is_content ?_ ?_
            | refine ex_is_count ?_
            | refine ex_is_row_looks ?_ ?_
            | refine ex_is_key ?_ ?_
            | refine ex_is_operation_value ?_ ?_
            | refine ex_is_content_value ?_ ?_
            | with_reducible refine And.intro (shp_e (by assumption)) ?_
            | with_reducible refine And.intro (by assumption) ?_
            | with_reducible refine And.intro (by intro s h; cases h) ?_
            | refine And.intro (by rfl) ?_
            | refine Exists.intro _ (And.intro rfl ?_)
            | refine ix_tup0 (by rfl) ?_
            | refine ix_tup1 (by rfl) ?_
            | refine ix_tup2 (by rfl) ?_
            | refine ix_tup3 (by rfl) ?_
            | refine Exists.intro _ (Exists.intro _ (And.intro rfl (And.intro rfl ?_)))
        | int i =>
          have ho : contD (.tuple [a, .int i, c]) = false := by cases a <;> rfl
          rw [ho]
          repeat' first
            | rfl
            | assumption
            | with_reducible refine sd_ret ?_
            | with_reducible refine sd_seq ?_
            | with_reducible refine sd_if ?_
            | with_reducible refine sd_next ?_
            | with_reducible refine sd_asg ?_
            | with_reducible refine sd_par ?_
            | with_reducible apply ed_var
            | with_reducible refine ed_non ?_
            | with_reducible refine ed_bl ?_
            | with_reducible refine ed_int ?_
            | with_reducible refine ed_str ?_
            | with_reducible refine et_tB ?_
            | with_reducible refine et_tTest ?_
            | with_reducible refine et_and ?_
            | with_reducible refine et_or ?_
            | with_reducible refine et_not ?_
            | with_reducible refine ed_and ?_
            | with_reducible refine ed_or ?_
            | with_reducible refine ed_not ?_
            | with_reducible refine ed_if ?_
            | with_reducible refine ed_isi (by decide) ?_
            | with_reducible refine ed_len ?_
            | with_reducible refine ed_ix ?_
            | with_reducible refine ed_call ?_
            | with_reducible refine ea_cons ?_
            | with_reducible refine ea_nil ?_
            | with_reducible refine ed_eq ?_
            | with_reducible refine ed_ne ?_
            | with_reducible refine ed_eqD ?_
            | with_reducible refine ed_lt ?_
            | with_reducible refine ed_le ?_
            | with_reducible refine ed_gt ?_
            | with_reducible refine ed_ge ?_
            | with_reducible refine ed_isN ?_
            | with_reducible refine ed_notN ?_
            | with_reducible refine ed_strOf ?_
            | refine ift (by rfl) ?_
            | refine iff' (by rfl) ?_
            | refine ift (by assumption) ?_
            | refine iff' (by assumption) ?_
            | (refine ift ?_ ?_; focus (simp only [*] <;> first | done | rfl))
            | (refine iff' ?_ ?_; focus (simp only [*] <;> first | done | rfl))
            | (refine ift ?_ ?_; focus (simp [*]; done))
            | (refine iff' ?_ ?_; focus (simp [*]; done))
            | refine ex_is_integer ?_
            | refine ex_law_is_int ?_
            | refine ex_law_is_from ?_
            | refine ex_law_is_key ?_ ?_
            | refine ex_law_is_operation ?_ ?_
            | refine ex_law_is_content ?_ ?_
            | refine ex_is_count ?_
            | refine ex_is_row_looks ?_ ?_
            | refine ex_is_key ?_ ?_
            | refine ex_is_operation_value ?_ ?_
            | refine ex_is_content_value ?_ ?_
            | with_reducible refine And.intro (shp_e (by assumption)) ?_
            | with_reducible refine And.intro (by assumption) ?_
            | with_reducible refine And.intro (by intro s h; cases h) ?_
            | refine And.intro (by rfl) ?_
            | refine Exists.intro _ (And.intro rfl ?_)
            | refine ix_tup0 (by rfl) ?_
            | refine ix_tup1 (by rfl) ?_
            | refine ix_tup2 (by rfl) ?_
            | refine ix_tup3 (by rfl) ?_
            | refine Exists.intro _ (Exists.intro _ (And.intro rfl (And.intro rfl ?_)))
        | str z =>
          have ho : contD (.tuple [a, .str z, c]) = false := by cases a <;> rfl
          rw [ho]
          repeat' first
            | rfl
            | assumption
            | with_reducible refine sd_ret ?_
            | with_reducible refine sd_seq ?_
            | with_reducible refine sd_if ?_
            | with_reducible refine sd_next ?_
            | with_reducible refine sd_asg ?_
            | with_reducible refine sd_par ?_
            | with_reducible apply ed_var
            | with_reducible refine ed_non ?_
            | with_reducible refine ed_bl ?_
            | with_reducible refine ed_int ?_
            | with_reducible refine ed_str ?_
            | with_reducible refine et_tB ?_
            | with_reducible refine et_tTest ?_
            | with_reducible refine et_and ?_
            | with_reducible refine et_or ?_
            | with_reducible refine et_not ?_
            | with_reducible refine ed_and ?_
            | with_reducible refine ed_or ?_
            | with_reducible refine ed_not ?_
            | with_reducible refine ed_if ?_
            | with_reducible refine ed_isi (by decide) ?_
            | with_reducible refine ed_len ?_
            | with_reducible refine ed_ix ?_
            | with_reducible refine ed_call ?_
            | with_reducible refine ea_cons ?_
            | with_reducible refine ea_nil ?_
            | with_reducible refine ed_eq ?_
            | with_reducible refine ed_ne ?_
            | with_reducible refine ed_eqD ?_
            | with_reducible refine ed_lt ?_
            | with_reducible refine ed_le ?_
            | with_reducible refine ed_gt ?_
            | with_reducible refine ed_ge ?_
            | with_reducible refine ed_isN ?_
            | with_reducible refine ed_notN ?_
            | with_reducible refine ed_strOf ?_
            | refine ift (by rfl) ?_
            | refine iff' (by rfl) ?_
            | refine ift (by assumption) ?_
            | refine iff' (by assumption) ?_
            | (refine ift ?_ ?_; focus (simp only [*] <;> first | done | rfl))
            | (refine iff' ?_ ?_; focus (simp only [*] <;> first | done | rfl))
            | (refine ift ?_ ?_; focus (simp [*]; done))
            | (refine iff' ?_ ?_; focus (simp [*]; done))
            | refine ex_is_integer ?_
            | refine ex_law_is_int ?_
            | refine ex_law_is_from ?_
            | refine ex_law_is_key ?_ ?_
            | refine ex_law_is_operation ?_ ?_
            | refine ex_law_is_content ?_ ?_
            | refine ex_is_count ?_
            | refine ex_is_row_looks ?_ ?_
            | refine ex_is_key ?_ ?_
            | refine ex_is_operation_value ?_ ?_
            | refine ex_is_content_value ?_ ?_
            | with_reducible refine And.intro (shp_e (by assumption)) ?_
            | with_reducible refine And.intro (by assumption) ?_
            | with_reducible refine And.intro (by intro s h; cases h) ?_
            | refine And.intro (by rfl) ?_
            | refine Exists.intro _ (And.intro rfl ?_)
            | refine ix_tup0 (by rfl) ?_
            | refine ix_tup1 (by rfl) ?_
            | refine ix_tup2 (by rfl) ?_
            | refine ix_tup3 (by rfl) ?_
            | refine Exists.intro _ (Exists.intro _ (And.intro rfl (And.intro rfl ?_)))
    · have hz : contD (.tuple xs) = false := (not_three fun ⟨a, b, c, e⟩ => hn (by rw [e] <;> rfl)).1
      rw [hz]
      exact ift (by rw [decide_eq_false hn]; rfl) (ift rfl (sd_ret (ed_bl rfl)))
  | bool _ => cases f
  | list _ => cases f
  | dict _ => cases f
  | _ =>
    repeat' first
      | rfl
      | assumption
      | with_reducible refine sd_ret ?_
      | with_reducible refine sd_seq ?_
      | with_reducible refine sd_if ?_
      | with_reducible refine sd_next ?_
      | with_reducible refine sd_asg ?_
      | with_reducible refine sd_par ?_
      | with_reducible apply ed_var
      | with_reducible refine ed_non ?_
      | with_reducible refine ed_bl ?_
      | with_reducible refine ed_int ?_
      | with_reducible refine ed_str ?_
      | with_reducible refine et_tB ?_
      | with_reducible refine et_tTest ?_
      | with_reducible refine et_and ?_
      | with_reducible refine et_or ?_
      | with_reducible refine et_not ?_
      | with_reducible refine ed_and ?_
      | with_reducible refine ed_or ?_
      | with_reducible refine ed_not ?_
      | with_reducible refine ed_if ?_
      | with_reducible refine ed_isi (by decide) ?_
      | with_reducible refine ed_len ?_
      | with_reducible refine ed_ix ?_
      | with_reducible refine ed_call ?_
      | with_reducible refine ea_cons ?_
      | with_reducible refine ea_nil ?_
      | with_reducible refine ed_eq ?_
      | with_reducible refine ed_ne ?_
      | with_reducible refine ed_eqD ?_
      | with_reducible refine ed_lt ?_
      | with_reducible refine ed_le ?_
      | with_reducible refine ed_gt ?_
      | with_reducible refine ed_ge ?_
      | with_reducible refine ed_isN ?_
      | with_reducible refine ed_notN ?_
      | with_reducible refine ed_strOf ?_
      | refine ift (by rfl) ?_
      | refine iff' (by rfl) ?_
      | refine ift (by assumption) ?_
      | refine iff' (by assumption) ?_
      | (refine ift ?_ ?_; focus (simp only [*] <;> first | done | rfl))
      | (refine iff' ?_ ?_; focus (simp only [*] <;> first | done | rfl))
      | (refine ift ?_ ?_; focus (simp [*]; done))
      | (refine iff' ?_ ?_; focus (simp [*]; done))
      | refine ex_is_integer ?_
      | refine ex_law_is_int ?_
      | refine ex_law_is_from ?_
      | refine ex_law_is_key ?_ ?_
      | refine ex_law_is_operation ?_ ?_
      | refine ex_law_is_content ?_ ?_
      | refine ex_is_count ?_
      | refine ex_is_row_looks ?_ ?_
      | refine ex_is_key ?_ ?_
      | refine ex_is_operation_value ?_ ?_
      | refine ex_is_content_value ?_ ?_
      | with_reducible refine And.intro (shp_e (by assumption)) ?_
      | with_reducible refine And.intro (by assumption) ?_
      | with_reducible refine And.intro (by intro s h; cases h) ?_
      | refine And.intro (by rfl) ?_
      | refine Exists.intro _ (And.intro rfl ?_)
      | refine ix_tup0 (by rfl) ?_
      | refine ix_tup1 (by rfl) ?_
      | refine ix_tup2 (by rfl) ?_
      | refine ix_tup3 (by rfl) ?_
      | refine Exists.intro _ (Exists.intro _ (And.intro rfl (And.intro rfl ?_)))⟩
end
end K61
end

section
set_option Elab.async false
set_option linter.all false
set_option maxRecDepth 100000
set_option maxHeartbeats 4000000
namespace K61
open PySem PySem.Spec L2
def mk (h : Str) : Str := if h = "start" then "n" else if h = "page" then "nncc" else if h = "unpage" then "nnc" else if h = "op" then "nno" else if h = "comp" then "nnn" else if h = "end" then "ne" else "-"
def okM (q : PyData × Nat) : Bool := if q.2 = 110 then isC q.1 else if q.2 = 99 then contD q.1 else if q.2 = 111 then opD q.1 else if q.2 = 101 then strIn ["kept", "dropped"] q.1 else true
theorem cps_n : ("n" : Str).cps.toList = [110] ∧ ("nncc" : Str).cps.toList = [110, 110, 99, 99] ∧ ("nnc" : Str).cps.toList = [110, 110, 99] ∧ ("nno" : Str).cps.toList = [110, 110, 111] ∧ ("nnn" : Str).cps.toList = [110, 110, 110] ∧ ("ne" : Str).cps.toList = [110, 101] ∧ ("-" : Str).cps.toList = [45] := by decide +kernel
theorem lit1 : (Str.ofString "n") = ⟨#[110]⟩ ∧ (Str.ofString "c") = ⟨#[99]⟩ ∧ (Str.ofString "o") = ⟨#[111]⟩ ∧ (Str.ofString "e") = ⟨#[101]⟩ := by decide +kernel
theorem okM_n (p : PyData) : okM (p, 110) = isC p := rfl
theorem okM_c (p : PyData) : okM (p, 99) = contD p := rfl
theorem okM_o (p : PyData) : okM (p, 111) = opD p := rfl
theorem okM_e (p : PyData) : okM (p, 101) = strIn ["kept", "dropped"] p := rfl
theorem len_mk (s : Str) : s.length = s.cps.toList.length := (Array.length_toList).symm
theorem end_in (p : PyData) : rEnd [p] = strIn ["kept", "dropped"] p := by
  cases p with
  | str w =>
    show decide (w = "kept" ∨ w = "dropped") = (["kept", "dropped"] : List Str).contains w
    rw [Bool.eq_iff_iff]
    simp
  | _ => rfl
theorem row_mk (h : Str) (xs : List PyData) : rowD (.tuple (.str h :: xs)) = (decide (xs.length = (mk h).length) && (!decide (mk h = "-") && (xs.zip (mk h).cps.toList).all okM)) := by
  obtain ⟨n1, n2, n3, n4, n5, n6, n7, n8, n9, n10, n11, n12, n13, n14, n15⟩ := lits
  obtain ⟨c1, c2, c3, c4, c5, c6, c7⟩ := cps_n
  have d1 : ("n" : Str) ≠ "-" ∧ ("nncc" : Str) ≠ "-" ∧ ("nnc" : Str) ≠ "-" ∧ ("nno" : Str) ≠ "-" ∧ ("nnn" : Str) ≠ "-" ∧ ("ne" : Str) ≠ "-" := by decide +kernel
  obtain ⟨e1, e2, e3, e4, e5, e6⟩ := d1
  rw [len_mk]
  cases xs with
  | nil =>
    have hz : rowD (.tuple [.str h]) = false := rfl
    rw [hz]
    by_cases h1 : h = "start"
    · simp only [mk, h1, ↓reduceIte, c1]; rfl
    by_cases h2 : h = "page"
    · simp only [mk, h2, n1, ↓reduceIte, c2]; rfl
    by_cases h3 : h = "unpage"
    · simp only [mk, h3, n2, n6, ↓reduceIte, c3]; rfl
    by_cases h5 : h = "op"
    · simp only [mk, h5, n4, n8, n11, ↓reduceIte, c4]; rfl
    by_cases h6 : h = "comp"
    · simp only [mk, h6, n5, n9, n12, n15, ↓reduceIte, c5]; rfl
    by_cases h4 : h = "end"
    · simp only [mk, h4, n3, n7, n10, n13.symm, n14.symm, ↓reduceIte, c6]; rfl
    simp only [mk, h1, h2, h3, h4, h5, h6, ↓reduceIte, c7]; rfl
  | cons a rest =>
    rw [row_def]
    by_cases h1 : h = "start"
    · simp only [mk, h1, ↓reduceIte, c1, e1, decide_false, Bool.not_false, Bool.true_and]
      match rest with
      | [] => simp [rStart, okM_n]
      | _ :: _ => simp [rStart]
    by_cases h2 : h = "page"
    · simp only [mk, h2, n1, ↓reduceIte, c2, e2, decide_false, Bool.not_false, Bool.true_and]
      match rest with
      | [] => simp [rPage]
      | [_] => simp [rPage]
      | [_, _] => simp [rPage]
      | [_, _, _] => simp [rPage, okM_n, okM_c]
      | _ :: _ :: _ :: _ :: _ => simp [rPage]
    by_cases h3 : h = "unpage"
    · simp only [mk, h3, n2, n6, ↓reduceIte, c3, e3, decide_false, Bool.not_false, Bool.true_and]
      match rest with
      | [] => simp [rUn]
      | [_] => simp [rUn]
      | [_, _] => simp [rUn, okM_n, okM_c]
      | _ :: _ :: _ :: _ => simp [rUn]
    by_cases h5 : h = "op"
    · simp only [mk, h5, n4, n8, n11, n13, ↓reduceIte, c4, e4, decide_false, Bool.not_false, Bool.true_and]
      match rest with
      | [] => simp [rOp]
      | [_] => simp [rOp]
      | [_, _] => simp [rOp, okM_n, okM_o]
      | _ :: _ :: _ :: _ => simp [rOp]
    by_cases h6 : h = "comp"
    · simp only [mk, h6, n5, n9, n12, n14, n15, ↓reduceIte, c5, e5, decide_false, Bool.not_false, Bool.true_and]
      match rest with
      | [] => simp [rComp]
      | [_] => simp [rComp]
      | [_, _] => simp [rComp, okM_n]
      | _ :: _ :: _ :: _ => simp [rComp]
    by_cases h4 : h = "end"
    · simp only [mk, h4, n3, n7, n10, n13.symm, n14.symm, ↓reduceIte, c6, e6, decide_false, Bool.not_false, Bool.true_and]
      match rest with
      | [] => simp [rEnd]
      | [_] => simp [end_in, okM_n, okM_e]
      | _ :: _ :: _ =>
        have hz : ∀ a b (c : List PyData), rEnd (a :: b :: c) = false := fun a b c => by cases a <;> rfl
        simp [hz]
    simp only [mk, h1, h2, h3, h4, h5, h6, ↓reduceIte, c7]
    simp
section
variable {K : PySem.W.Frag}
theorem look_mk (h : Str) : ∀ (H : Hp) (vy : V), Dq K H vy (.str "-") → Dq K H ((lookD [("start", .str "n"), ("page", .str "nncc"), ("unpage", .str "nnc"), ("op", .str "nno"), ("comp", .str "nnn"), ("end", .str "ne")] h).getD vy) (.str (mk h)) := fun H vy r => by
  obtain ⟨n1, n2, n3, n4, n5, n6, n7, n8, n9, n10, n11, n12, n13, n14, n15⟩ := lits
  unfold lookD mergeK keyd mk
  simp only [List.map, List.foldl, valV_put, Sum.inr.injEq]
  by_cases h1 : h = "start"
  · subst h1
    simp only [n1.symm, n2.symm, n3.symm, n4.symm, n5.symm, ↓reduceIte, valV_nil]
    exact .str _
  by_cases h2 : h = "page"
  · subst h2
    simp only [n1, n6.symm, n7.symm, n8.symm, n9.symm, ↓reduceIte, valV_nil]
    exact .str _
  by_cases h3 : h = "unpage"
  · subst h3
    simp only [n2, n6, n10.symm, n11.symm, n12.symm, ↓reduceIte, valV_nil]
    exact .str _
  by_cases h5 : h = "op"
  · subst h5
    simp only [n4, n8, n11, n13, n15.symm, ↓reduceIte, valV_nil]
    exact .str _
  by_cases h6 : h = "comp"
  · subst h6
    simp only [n5, n9, n12, n14, n15, ↓reduceIte, valV_nil]
    exact .str _
  by_cases h4 : h = "end"
  · subst h4
    simp only [n3, n7, n10, n13.symm, n14.symm, ↓reduceIte, valV_nil]
    exact .str _
  simp only [h1, h2, h3, h4, h5, h6, ↓reduceIte, valV_nil]
  exact r
def okT : PyData → Bool
  | .tuple [p, .str s] => match s.cps.toList with
    | [c] => okM (p, c)
    | _ => true
  | _ => true
theorem all_okT : ∀ (xs : List PyData) (l : List Nat), (pairsD xs (l.map fun c => .str ⟨#[c]⟩)).all okT = (xs.zip l).all okM
  | [], _ => rfl
  | _ :: _, [] => rfl
  | x :: xs, c :: l => by
    show (okM (x, c) && (pairsD xs (l.map fun c => .str ⟨#[c]⟩)).all okT) = (okM (x, c) && (xs.zip l).all okM)
    rw [all_okT xs l]
theorem mark_eqv (c m : Nat) (l : Str) (hl : l = ⟨#[m]⟩) : PyData.eqv (.str ⟨#[c]⟩) (.str l) = decide (c = m) := by
  rw [str_eqv, hl, Bool.eq_iff_iff, decide_eq_true_eq, decide_eq_true_eq]
  exact ⟨fun h => by injection h with h; injection h with h; injection h, fun h => by rw [h]⟩
def b1 (p : PyData) (c : Nat) : Bool := (decide (c = 110) && !isC p) || (decide (c = 99) && !contD p)
def b2 (p : PyData) (c : Nat) : Bool := (decide (c = 111) && !opD p) || (decide (c = 101) && !strIn ["kept", "dropped"] p)
theorem okM_b (p : PyData) (c : Nat) : okM (p, c) = (!b1 p c && !b2 p c) := by
  unfold okM b1 b2
  by_cases h1 : c = 110
  · subst h1; simp
  by_cases h2 : c = 99
  · subst h2; simp
  by_cases h3 : c = 111
  · subst h3; simp
  by_cases h4 : c = 101
  · subst h4; simp
  simp [h1, h2, h3, h4]
theorem se_law_is_row : SemD K C_law_is_row (t_law_is_row K) 1 4 := fun ds d ⟨x, e, f, hd⟩ => ⟨by rw [e] <;> rfl, by
  subst e hd
  show Sd K W0 (t_law_is_row K) [.val x, .any, .any, .any] _ _
  unfold t_law_is_row
  cases x with
  | tuple xs =>
    obtain ⟨hl0, hf⟩ := fine_tup f
    have hl : xs.length ≤ sizeLine := Nat.le_trans hl0 (by decide)
    refine sd_seq (sd_if (et_or (et_not (et_tB (ed_isi (by decide) (ed_var rfl ⟨_, rfl, iff' rfl (et_or (et_tTest (ed_eqD (ed_var rfl (ed_tup (ea_nil ⟨by decide, ⟨fine_shaped f, by decide +kernel⟩, _, rfl, ?_⟩))))))⟩))))))
    rw [eqv_unit]
    cases xs with
    | nil => exact ift rfl (ift rfl (sd_ret (ed_bl rfl)))
    | cons a xs =>
      refine iff' rfl (et_not (et_tB (ed_isi (by decide) (ed_ix (ed_var rfl (ed_int (ix_tup0 rfl ⟨_, rfl, ?_⟩)))))))
      cases a with
      | str h =>
        have hxl : xs.length ≤ 600 := by simp only [List.length_cons] at hl0; omega
        refine iff' rfl (sd_next (sd_seq (sd_asg (ed_get2 (by decide) (ed_ix (ed_var rfl (ed_int (ix_tup0 rfl (ed_str ⟨h, _, rfl, look_mk h, ?_⟩)))))))))
        have hml : (mk h).length ≤ 600 := by
          have hc : (mk h).length ≤ 4 := by
            rw [len_mk]
            obtain ⟨c1, c2, c3, c4, c5, c6, c7⟩ := cps_n
            unfold mk
            repeat' split
            all_goals first
              | (rw [c1]; decide)
              | (rw [c2]; decide)
              | (rw [c3]; decide)
              | (rw [c4]; decide)
              | (rw [c5]; decide)
              | (rw [c6]; decide)
              | (rw [c7]; decide)
          omega
        rw [row_mk]
        refine sd_seq (sd_if (et_or (et_tTest (ed_ne (ed_len (ed_var rfl ⟨_, rfl, hl, ed_add (ed_len (ed_var rfl ⟨_, rfl, Nat.le_trans hml (by decide), ed_int ⟨_, _, rfl, rfl, rfl, _, rfl, ?_⟩⟩))⟩))))))
        rw [show PyData.eqv (.int (((.str h :: xs : List PyData).length : Nat) : Int)) (.int (((mk h).length : Nat) + 1 : Int)) = decide (xs.length = (mk h).length) by
          show ((((.str h :: xs : List PyData).length : Nat) : Int) == (((mk h).length : Nat) + 1 : Int)) = _
          rw [Bool.eq_iff_iff, beq_iff_eq, decide_eq_true_eq, List.length_cons]
          omega]
        by_cases hn : xs.length = (mk h).length
        · rw [decide_eq_true hn, Bool.true_and]
          refine iff' rfl (et_tTest (ed_eq (ed_var rfl (ed_str ⟨rfl, _, rfl, ?_⟩))))
          rw [str_eqv]
          cases hm : decide (mk h = "-") with
          | true => exact ift rfl (sd_ret (ed_bl rfl))
          | false =>
            refine iff' rfl (sd_next (sd_seq (sd_for (gs := [2, 3]) (ei_pt (ed_slT (ed_var rfl ⟨_, rfl, eo_some (ed_int ⟨1, rfl, eo_none ⟨_, rfl, ?_⟩⟩)⟩))))))
            rw [show (some (1 : Int)) = some ((1 : Nat) : Int) from rfl, cut_from]
            show Ed K W0 _ _ _
            refine ed_var rfl ⟨mk h, rfl, hn, ?_⟩
            show ∃ Iv, _
            have hall : (pairsD xs (signs (mk h))).all okT = (xs.zip (mk h).cps.toList).all okM := all_okT xs _
            refine ⟨fun i ρ' => (∃ n m, ρ' = [.val (.tuple (.str h :: xs)), .val (.str (mk h)), n, m]) ∧ ∀ x ∈ (pairsD xs (signs (mk h))).take i, okT x = true, ⟨⟨.any, .any, rfl⟩, fun x hx => by simp at hx⟩, ?_, ?_⟩
            · rintro i x ρ' hx ⟨⟨n, m, rfl⟩, hok⟩
              have hmem : x ∈ pairsD xs (signs (mk h)) := List.mem_of_getElem? hx
              have hmem2 := hmem
              unfold pairsD at hmem2
              obtain ⟨q, hq, rfl⟩ := List.mem_map.mp hmem2
              obtain ⟨q1, q2⟩ := q
              obtain ⟨m1, m2⟩ := List.of_mem_zip hq
              obtain ⟨c, rfl⟩ := sign_at m2
              have fp : fine 5 q1 = true := fine_up _ _ (hf q1 (List.mem_cons_of_mem _ m1))
              have ek : okT (.tuple [q1, .str ⟨#[c]⟩]) = (!b1 q1 c && !b2 q1 c) := okM_b q1 c
              obtain ⟨l1, l2, l3, l4⟩ := lit1
              refine eg_tup2 (sd_seq (sd_if (Et.mono (P := fun b => b = b1 q1 c) ?t1 ?_)))
              case t1 =>
                show Et K W0 _ [.val (.tuple (.str h :: xs)), .val (.str (mk h)), .val q1, .val (.str ⟨#[c]⟩)] _
                refine et_or (et_and (et_tTest (ed_eq (ed_var rfl (ed_str ⟨rfl, _, rfl, ?_⟩)))))
                rw [mark_eqv c 110 _ l1]
                have sec : decide (c = 110) = true ∧ isC q1 = false ∨ Et K W0 (tAnd (tTest (tOp rEq (tVar 3) (tC (.str "c")))) (tNot (tB (tCall (sp_law_is_content K) [] E0 (tCons (tVar 2) tNil))))) [.val (.tuple (.str h :: xs)), .val (.str (mk h)), .val q1, .val (.str ⟨#[c]⟩)] (fun b => b = b1 q1 c) := by
                  by_cases hc : decide (c = 110) = true ∧ isC q1 = false
                  · exact .inl hc
                  · right
                    have e0 : b1 q1 c = (decide (c = 99) && !contD q1) := by
                      unfold b1
                      cases h1 : decide (c = 110) with
                      | false => rfl
                      | true =>
                        cases h2 : isC q1 with
                        | false => exact absurd ⟨h1, h2⟩ hc
                        | true => rfl
                    rw [e0]
                    refine et_and (et_tTest (ed_eq (ed_var rfl (ed_str ⟨rfl, _, rfl, ?_⟩))))
                    rw [mark_eqv c 99 _ l2]
                    refine ifc (fun h9 => et_not (et_tB (ed_call (ea_cons (ed_var rfl (ea_nil (ex_law_is_content fp ⟨_, rfl, by rw [h9, Bool.true_and]⟩))))))) fun h9 => by rw [h9, Bool.false_and]
                refine ifc (fun h1 => et_not (et_tB (ed_call (ea_cons (ed_var rfl (ea_cons (ed_int (ea_nil (ex_law_is_from ⟨_, rfl, ?_⟩)))))))) ) fun h1 => ?_
                · cases h2 : isC q1 with
                  | false =>
                    refine ift rfl ?_
                    unfold b1
                    rw [h1, h2] <;> rfl
                  | true =>
                    refine iff' rfl (sec.elim (fun z => ?_) id)
                    rw [h2] at z
                    exact absurd z.2 (by decide)
                · refine iff' rfl (sec.elim (fun z => ?_) id)
                  rw [h1] at z
                  exact absurd z.1 (by decide)
              rintro _ rfl
              cases hb1 : b1 q1 c with
              | true =>
                have hz : (xs.zip (mk h).cps.toList).all okM = false := by
                  rw [← hall]
                  exact List.all_eq_false.mpr ⟨_, hmem, by rw [ek, hb1]; simp⟩
                rw [hz]
                exact ift rfl (sd_ret (ed_bl rfl))
              | false =>
                refine iff' rfl (sd_next (sd_if (Et.mono (P := fun b => b = b2 q1 c) ?t2 ?_)))
                case t2 =>
                  show Et K W0 _ [.val (.tuple (.str h :: xs)), .val (.str (mk h)), .val q1, .val (.str ⟨#[c]⟩)] _
                  refine et_or (et_and (et_tTest (ed_eq (ed_var rfl (ed_str ⟨rfl, _, rfl, ?_⟩)))))
                  rw [mark_eqv c 111 _ l3]
                  have sec : decide (c = 111) = true ∧ opD q1 = false ∨ Et K W0 (tAnd (tTest (tOp rEq (tVar 3) (tC (.str "e")))) (tNot (tAnd (tB (tCB (rIsi K) (tCons (tVar 2) (tCons (tC (.ty "str")) tNil)))) (tTest (tOp (rIn K false) (tVar 2) (tTup (tCons (tC (.str "kept")) (tCons (tC (.str "dropped")) tNil)))))))) [.val (.tuple (.str h :: xs)), .val (.str (mk h)), .val q1, .val (.str ⟨#[c]⟩)] (fun b => b = b2 q1 c) := by
                    by_cases hc : decide (c = 111) = true ∧ opD q1 = false
                    · exact .inl hc
                    · right
                      have e0 : b2 q1 c = (decide (c = 101) && !strIn ["kept", "dropped"] q1) := by
                        unfold b2
                        cases h1 : decide (c = 111) with
                        | false => rfl
                        | true =>
                          cases h2 : opD q1 with
                          | false => exact absurd ⟨h1, h2⟩ hc
                          | true => rfl
                      rw [e0]
                      refine et_and (et_tTest (ed_eq (ed_var rfl (ed_str ⟨rfl, _, rfl, ?_⟩))))
                      rw [mark_eqv c 101 _ l4]
                      refine ifc (fun h9 => ?_) fun h9 => by rw [h9, Bool.false_and]
                      rw [h9, Bool.true_and]
                      cases q1 with
                      | str z => exact et_not (et_and (et_tB (ed_isi (by decide) (ed_var rfl ⟨_, rfl, ift rfl (et_tTest (ed_inT (ed_var rfl (ed_tup (ea_cons (ed_str (ea_cons (ed_str (ea_nil ⟨by decide, z, ["kept", "dropped"], rfl, rfl, _, rfl, rfl⟩)))))))))⟩))))
                      | bool _ => cases fp
                      | list _ => cases fp
                      | dict _ => cases fp
                      | _ => exact et_not (et_and (et_tB (ed_isi (by decide) (ed_var rfl ⟨_, rfl, iff' rfl rfl⟩))))
                  refine ifc (fun h1 => et_not (et_tB (ed_call (ea_cons (ed_var rfl (ea_nil (ex_law_is_operation fp ⟨_, rfl, ?_⟩)))))) ) fun h1 => ?_
                  · cases h2 : opD q1 with
                    | false =>
                      refine ift rfl ?_
                      unfold b2
                      rw [h1, h2] <;> rfl
                    | true =>
                      refine iff' rfl (sec.elim (fun z => ?_) id)
                      rw [h2] at z
                      exact absurd z.2 (by decide)
                  · refine iff' rfl (sec.elim (fun z => ?_) id)
                    rw [h1] at z
                    exact absurd z.1 (by decide)
                rintro _ rfl
                cases hb2 : b2 q1 c with
                | true =>
                  have hz : (xs.zip (mk h).cps.toList).all okM = false := by
                    rw [← hall]
                    exact List.all_eq_false.mpr ⟨_, hmem, by rw [ek, hb2]; simp⟩
                  rw [hz]
                  exact ift rfl (sd_ret (ed_bl rfl))
                | false =>
                  refine iff' rfl (sd_next ⟨⟨_, _, rfl⟩, fun y hy => ?_⟩)
                  have hx' : (pairsD xs (signs (mk h)))[i]? = some (.tuple [q1, .str ⟨#[c]⟩]) := hx
                  rw [List.take_succ, hx'] at hy
                  rcases List.mem_append.mp hy with z | z
                  · exact hok y z
                  · have z : y = .tuple [q1, .str ⟨#[c]⟩] := by simpa using z
                    rw [z, ek, hb1, hb2] <;> rfl
            · rintro ρ' ⟨⟨n, m, rfl⟩, hok⟩
              have hok' : ∀ x ∈ (pairsD xs (signs (mk h))).take (pairsD xs (signs (mk h))).length, okT x = true := hok
              rw [List.take_length] at hok'
              rw [← hall, List.all_eq_true.mpr hok']
              exact sd_ret (ed_bl rfl)
        · rw [decide_eq_false hn, Bool.false_and]
          exact ift rfl (ift rfl (sd_ret (ed_bl rfl)))
      | bool _ => cases hf _ List.mem_cons_self
      | list _ => cases hf _ List.mem_cons_self
      | dict _ => cases hf _ List.mem_cons_self
      | _ => exact ift rfl (sd_ret (ed_bl (by cases xs <;> rfl)))
  | bool _ => cases f
  | list _ => cases f
  | dict _ => cases f
  | _ =>
    repeat' first
      | rfl
      | assumption
      | with_reducible refine sd_ret ?_
      | with_reducible refine sd_seq ?_
      | with_reducible refine sd_if ?_
      | with_reducible refine sd_next ?_
      | with_reducible refine sd_asg ?_
      | with_reducible refine sd_par ?_
      | with_reducible apply ed_var
      | with_reducible refine ed_non ?_
      | with_reducible refine ed_bl ?_
      | with_reducible refine ed_int ?_
      | with_reducible refine ed_str ?_
      | with_reducible refine et_tB ?_
      | with_reducible refine et_tTest ?_
      | with_reducible refine et_and ?_
      | with_reducible refine et_or ?_
      | with_reducible refine et_not ?_
      | with_reducible refine ed_and ?_
      | with_reducible refine ed_or ?_
      | with_reducible refine ed_not ?_
      | with_reducible refine ed_if ?_
      | with_reducible refine ed_isi (by decide) ?_
      | with_reducible refine ed_len ?_
      | with_reducible refine ed_ix ?_
      | with_reducible refine ed_call ?_
      | with_reducible refine ea_cons ?_
      | with_reducible refine ea_nil ?_
      | with_reducible refine ed_eq ?_
      | with_reducible refine ed_ne ?_
      | with_reducible refine ed_eqD ?_
      | with_reducible refine ed_lt ?_
      | with_reducible refine ed_le ?_
      | with_reducible refine ed_gt ?_
      | with_reducible refine ed_ge ?_
      | with_reducible refine ed_isN ?_
      | with_reducible refine ed_notN ?_
      | with_reducible refine ed_strOf ?_
      | refine ift (by rfl) ?_
      | refine iff' (by rfl) ?_
      | refine ift (by assumption) ?_
      | refine iff' (by assumption) ?_
      | (refine ift ?_ ?_; focus (simp only [*] <;> first | done | rfl))
      | (refine iff' ?_ ?_; focus (simp only [*] <;> first | done | rfl))
      | (refine ift ?_ ?_; focus (simp [*]; done))
      | (refine iff' ?_ ?_; focus (simp [*]; done))
      | refine ex_is_integer ?_
      | refine ex_law_is_int ?_
      | refine ex_law_is_from ?_
      | refine ex_law_is_key ?_ ?_
      | refine ex_law_is_operation ?_ ?_
      | refine ex_law_is_content ?_ ?_
      | refine ex_is_count ?_
      | refine ex_is_row_looks ?_ ?_
      | refine ex_is_key ?_ ?_
      | refine ex_is_operation_value ?_ ?_
      | refine ex_is_content_value ?_ ?_
      | with_reducible refine And.intro (shp_e (by assumption)) ?_
      | with_reducible refine And.intro (by assumption) ?_
      | with_reducible refine And.intro (by intro s h; cases h) ?_
      | refine And.intro (by rfl) ?_
      | refine Exists.intro _ (And.intro rfl ?_)
      | refine ix_tup0 (by rfl) ?_
      | refine ix_tup1 (by rfl) ?_
      | refine ix_tup2 (by rfl) ?_
      | refine ix_tup3 (by rfl) ?_
      | refine Exists.intro _ (Exists.intro _ (And.intro rfl (And.intro rfl ?_)))⟩
end
end K61
end

section
set_option Elab.async false
set_option linter.all false
set_option maxRecDepth 100000
set_option maxHeartbeats 4000000
/-! plain: shapes of valid rows, lengths of texts -/
namespace K61
open PySem PySem.Spec TL
theorem isC_int {a : PyData} (h : isC a = true) : ∃ i : Int, a = .int i ∧ 0 ≤ i := by
  cases a with
  | int i => exact ⟨i, rfl, of_decide_eq_true h⟩
  | _ => cases h
inductive RowS : PyData → Prop
  | start (a : Int) : 0 ≤ a → RowS (.tuple [.str "start", .int a])
  | page (a b : Int) (c d : PyData) : 0 ≤ a → 0 ≤ b → contD c = true → contD d = true → RowS (.tuple [.str "page", .int a, .int b, c, d])
  | un (a b : Int) (c : PyData) : 0 ≤ a → 0 ≤ b → contD c = true → RowS (.tuple [.str "unpage", .int a, .int b, c])
  | fin (a : Int) (w : Str) : 0 ≤ a → w = "kept" ∨ w = "dropped" → RowS (.tuple [.str "end", .int a, .str w])
  | op (a b : Int) (h k : Str) (r : List PyData) : 0 ≤ a → 0 ≤ b → keyS k = true → manyOf h = some (r.length + 2) → r.all isI = true → RowS (.tuple [.str "op", .int a, .int b, .tuple (.str h :: .str k :: r)])
  | comp (a b c : Int) : 0 ≤ a → 0 ≤ b → 0 ≤ c → RowS (.tuple [.str "comp", .int a, .int b, .int c])
theorem row_cases {x : PyData} (h : rowD x = true) : RowS x := by
  cases x with
  | tuple xs =>
    match xs, h with
    | .str z :: a :: rest, h =>
      obtain ⟨h1, h2⟩ := Bool.and_eq_true_iff.mp (show (isC a && _) = true from h)
      obtain ⟨i, rfl, hi⟩ := isC_int h1
      by_cases e1 : z = "start"
      · subst e1
        rw [if_pos rfl] at h2
        match rest, h2 with
        | [], _ => exact .start i hi
      rw [if_neg e1] at h2
      by_cases e2 : z = "page"
      · subst e2
        rw [if_pos rfl] at h2
        match rest, h2 with
        | [b, c, d], h2 =>
          obtain ⟨h3, h4⟩ := Bool.and_eq_true_iff.mp (show (isC b && (contD c && contD d)) = true from h2)
          obtain ⟨h5, h6⟩ := Bool.and_eq_true_iff.mp h4
          obtain ⟨j, rfl, hj⟩ := isC_int h3
          exact .page i j c d hi hj h5 h6
      rw [if_neg e2] at h2
      by_cases e3 : z = "unpage"
      · subst e3
        rw [if_pos rfl] at h2
        match rest, h2 with
        | [b, c], h2 =>
          obtain ⟨h3, h4⟩ := Bool.and_eq_true_iff.mp (show (isC b && contD c) = true from h2)
          obtain ⟨j, rfl, hj⟩ := isC_int h3
          exact .un i j c hi hj h4
      rw [if_neg e3] at h2
      by_cases e4 : z = "end"
      · subst e4
        rw [if_pos rfl] at h2
        match rest, h2 with
        | [.str w], h2 => exact .fin i w hi (of_decide_eq_true h2)
      rw [if_neg e4] at h2
      by_cases e5 : z = "op"
      · subst e5
        rw [if_pos rfl] at h2
        match rest, h2 with
        | [b, o], h2 =>
          obtain ⟨h3, h4⟩ := Bool.and_eq_true_iff.mp (show (isC b && opD o) = true from h2)
          obtain ⟨j, rfl, hj⟩ := isC_int h3
          match o, h4 with
          | .tuple (.str h :: k :: r), h4 =>
            obtain ⟨h5, h6⟩ := Bool.and_eq_true_iff.mp (show (keyD k && _) = true from h4)
            obtain ⟨h7, h8⟩ := Bool.and_eq_true_iff.mp h6
            match k, h5 with
            | .str k, h5 => exact .op i j h k r hi hj h5 (of_decide_eq_true h7) h8
      rw [if_neg e5] at h2
      by_cases e6 : z = "comp"
      · subst e6
        rw [if_pos rfl] at h2
        match rest, h2 with
        | [b, c], h2 =>
          obtain ⟨h3, h4⟩ := Bool.and_eq_true_iff.mp (show (isC b && isC c) = true from h2)
          obtain ⟨j, rfl, hj⟩ := isC_int h3
          obtain ⟨k, rfl, hk⟩ := isC_int h4
          exact .comp i j k hi hj hk
      rw [if_neg e6] at h2
      cases h2
  | _ => cases h
inductive ContS : PyData → Prop
  | none : ContS .none
  | some (low : Str) (es : List PyData) (f : PyData) : (low = Str.empty ∨ keyS low = true) → es.length ≤ 3 → (∀ e ∈ es, ∃ k w, e = .tuple [.str k, .int w] ∧ keyS k = true) → (f = .none ∨ ∃ i : Int, f = .int i ∧ 0 ≤ i) → ContS (.tuple [.str low, .tuple es, f])
theorem cont_cases {x : PyData} (h : contD x = true) : ContS x := by
  match x, h with
  | .none, _ => exact .none
  | .tuple [.str low, .tuple es, f], h =>
    obtain ⟨h1, h2⟩ := Bool.and_eq_true_iff.mp (show ((decide (low = Str.empty) || keyS low) && _) = true from h)
    obtain ⟨h3, h4⟩ := Bool.and_eq_true_iff.mp h2
    obtain ⟨h5, h6⟩ := Bool.and_eq_true_iff.mp h4
    obtain ⟨h7, h8⟩ := Bool.and_eq_true_iff.mp h6
    refine .some low es f ?_ (of_decide_eq_true h3) (fun e he => ?_) ?_
    · rcases Bool.or_eq_true_iff.mp h1 with z | z
      · exact .inl (of_decide_eq_true z)
      · exact .inr z
    · have he2 := List.all_eq_true.mp h5 e he
      match e, he2 with
      | .tuple [.str k, .int w], he2 => exact ⟨k, w, rfl, (Bool.and_eq_true_iff.mp (show (keyS k && _) = true from he2)).1⟩
    · rcases Bool.or_eq_true_iff.mp h8 with z | z
      · cases f with
        | none => exact .inl rfl
        | _ => cases z
      · exact .inr (isC_int z)
/-! numbers -/
theorem tl_nat (n : Nat) : tl (numS (n : Int)) = numL n := tl_num n
theorem tl_neg (n : Nat) : tl (numS (Int.negSucc n)) = 45 :: numL (n + 1) := by
  have h : toString (Int.negSucc n) = "-" ++ toString (n + 1) := rfl
  unfold numS
  rw [h, tl_ofString, String.toList_append, List.map_append]
  show [45] ++ (toString (n + 1)).toList.map Char.toNat = _
  have h2 : toString (((n + 1 : Nat)) : Int) = toString (n + 1) := rfl
  rw [← tl_ofString, ← h2, tl_num] <;> rfl
theorem tl_numS (i : Int) : tl (numS i) = if i < 0 then 45 :: numL i.natAbs else numL i.natAbs := by
  cases i with
  | ofNat n =>
    rw [if_neg (by exact Int.not_lt.mpr (Int.natCast_nonneg n))]
    exact tl_nat n
  | negSucc n =>
    rw [if_pos (Int.negSucc_lt_zero n)]
    exact tl_neg n
theorem big : (2 : Nat) ^ 1920 ≤ 10 ^ 578 := by decide +kernel
theorem num_len {i : Int} (h : i.natAbs.log2 < 1920) : (numS i).length ≤ 600 := by
  have h1 : i.natAbs < 2 ^ 1920 := by
    by_cases z : i.natAbs = 0
    · rw [z]; exact Nat.two_pow_pos _
    · exact (Nat.log2_lt z).mp h
  have h2 : (numL i.natAbs).length ≤ 578 := numL_len (by decide) (Nat.lt_of_lt_of_le h1 big)
  rw [len_tl, tl_numS]
  split
  · rw [List.length_cons]; omega
  · omega
theorem cat_len (a b : Str) : (a ++ b).length = a.length + b.length := by
  rw [len_tl, len_tl, len_tl, tl_append, List.length_append]
theorem sum_le {B : Nat} : ∀ {l : List Str}, (∀ x ∈ l, x.length ≤ B) → (l.map (·.length)).sum ≤ l.length * B
  | [], _ => Nat.zero_le _
  | x :: r, h => by
    have h1 := h x List.mem_cons_self
    have h2 := sum_le (l := r) (fun y hy => h y (List.mem_cons_of_mem _ hy))
    rw [List.map_cons, List.sum_cons, List.length_cons, Nat.succ_mul]
    omega
theorem join_len (s : Str) : ∀ l : List Str, (Str.join s l).length ≤ (l.map (·.length)).sum + l.length * s.length
  | [] => Nat.zero_le _
  | [x] => by simp [Str.join]
  | x :: y :: r => by
    have h := join_len s (y :: r)
    have e : Str.join s (x :: y :: r) = x ++ s ++ Str.join s (y :: r) := rfl
    rw [e, cat_len, cat_len, List.map_cons, List.sum_cons, List.length_cons, Nat.succ_mul]
    omega
theorem txt_len {k : Nat} {x : PyData} (h : fine k x = true) : (txt x).length ≤ 600 := by
  cases x with
  | int i => exact num_len (fine_int h)
  | str s => exact (fine_str h).1
  | _ => exact Nat.zero_le _
theorem lit_len : ("=" : Str).length = 1 ∧ ("/" : Str).length = 1 ∧ ("," : Str).length = 1 ∧ ("-" : Str).length = 1 ∧ (" " : Str).length = 1 := by decide +kernel
theorem ent_len {k : Nat} {x : PyData} (h : fine (k + 1) x = true) : (entT x).length ≤ 1300 := by
  obtain ⟨l1, _⟩ := lit_len
  match x, h with
  | .tuple [.str a, .int w], h =>
    have hf := (fine_tup h).2
    have h1 := (fine_str (hf (.str a) (by simp))).1
    have h2 := num_len (fine_int (hf (.int w) (by simp)))
    show (a ++ "=" ++ numS w).length ≤ 1300
    rw [cat_len, cat_len, l1]
    omega
  | .none, _ => exact Nat.zero_le _
  | .bool _, _ => exact Nat.zero_le _
  | .int _, _ => exact Nat.zero_le _
  | .str _, _ => exact Nat.zero_le _
  | .list _, _ => exact Nat.zero_le _
  | .dict _, _ => exact Nat.zero_le _
  | .tuple [], _ => exact Nat.zero_le _
  | .tuple [a], _ => cases a <;> exact Nat.zero_le _
  | .tuple (a :: b :: c :: r), _ => cases a <;> first | exact Nat.zero_le _ | (cases b <;> exact Nat.zero_le _)
  | .tuple [.str a, .none], _ => exact Nat.zero_le _
  | .tuple [.str a, .bool _], _ => exact Nat.zero_le _
  | .tuple [.str a, .str _], _ => exact Nat.zero_le _
  | .tuple [.str a, .list _], _ => exact Nat.zero_le _
  | .tuple [.str a, .tuple _], _ => exact Nat.zero_le _
  | .tuple [.str a, .dict _], _ => exact Nat.zero_le _
  | .tuple [.none, _], _ => exact Nat.zero_le _
  | .tuple [.bool _, _], _ => exact Nat.zero_le _
  | .tuple [.int _, _], _ => exact Nat.zero_le _
  | .tuple [.list _, _], _ => exact Nat.zero_le _
  | .tuple [.tuple _, _], _ => exact Nat.zero_le _
  | .tuple [.dict _, _], _ => exact Nat.zero_le _
theorem fol_len {k : Nat} {x : PyData} (h : fine k x = true) : (folT x).length ≤ 600 := by
  obtain ⟨_, _, _, l4, _⟩ := lit_len
  cases x with
  | int i => exact num_len (fine_int h)
  | _ => show ("-" : Str).length ≤ 600; omega
theorem cont_len {k : Nat} {x : PyData} (h : fine (k + 3) x = true) (hc : contD x = true) : (contT x).length ≤ 6000 := by
  obtain ⟨l1, l2, l3, l4, l5⟩ := lit_len
  cases cont_cases hc with
  | none => show ("-" : Str).length ≤ 6000; omega
  | some low es f h1 h2 h3 h4 =>
    have hf := (fine_tup h).2
    have hl := (fine_str (hf (.str low) (by simp))).1
    have he := (fine_tup (hf (.tuple es) (by simp))).2
    have hff := fol_len (hf f (by simp))
    have hj := join_len "," (es.map entT)
    have hs := sum_le (B := 1300) (l := es.map entT) fun x hx => by
      obtain ⟨e, he2, rfl⟩ := List.mem_map.mp hx
      exact ent_len (he e he2)
    rw [List.length_map] at hj hs
    rw [l3] at hj
    have hm : es.length * 1300 ≤ 3 * 1300 := Nat.mul_le_mul_right _ h2
    show (low ++ "/" ++ Str.join "," (es.map entT) ++ "/" ++ folT f).length ≤ 6000
    rw [cat_len, cat_len, cat_len, cat_len, l2]
    omega
end K61
end

section
set_option Elab.async false
set_option linter.all false
set_option maxRecDepth 100000
set_option maxHeartbeats 4000000
/-! what the readings of the text defs do -/
namespace K61
open PySem PySem.Spec L2 TL
theorem strD_txt {k : Nat} {x : PyData} (h : fine k x = true) (hs : (∃ i : Int, x = .int i) ∨ ∃ s : Str, x = .str s) : strD x = some (txt x) := by
  rcases hs with ⟨i, rfl⟩ | ⟨s, rfl⟩
  · show (if i.natAbs.log2 < 1920 then some (Str.ofString (toString i)) else none) = some (numS i)
    rw [if_pos (fine_int h)] <;> rfl
  · rfl
theorem join_ok {s : Str} {l : List Str} {B : Nat} (hs : s.length = 1) (hl : l.length ≤ 600) (hB : B ≤ 6000) (h : ∀ x ∈ l, x.length ≤ B) : (l.map (·.length)).sum + l.length * s.length ≤ 16777216 := by
  have h1 := sum_le h
  have h2 : l.length * B ≤ 600 * 6000 := Nat.mul_le_mul hl hB
  rw [hs]
  omega
theorem join_le {s : Str} {l : List Str} {B : Nat} (hs : s.length = 1) (hl : l.length ≤ 600) (hB : B ≤ 6000) (h : ∀ x ∈ l, x.length ≤ B) : (Str.join s l).length ≤ 3700000 := by
  have h0 := join_len s l
  have h1 := sum_le h
  have h2 : l.length * B ≤ 600 * 6000 := Nat.mul_le_mul hl hB
  rw [hs] at h0
  omega
theorem ex_text_of_content {x : PyData} {P : PyData → Prop} (f : fine 5 x = true) (hc : contD x = true) (h : P (.str (contT x))) : ∃ d, C_text_of_content [x] d ∧ P d := ⟨_, ⟨x, rfl, f, hc, rfl⟩, h⟩
theorem ex_text_of_row {x : PyData} {P : PyData → Prop} (f : fine 5 x = true) (hc : rowD x = true) (h : P (.str (rowT x))) : ∃ d, C_text_of_row [x] d ∧ P d := ⟨_, ⟨x, rfl, f, hc, rfl⟩, h⟩
theorem ex_law_content_text {x : PyData} {P : PyData → Prop} (f : fine 5 x = true) (hc : contD x = true) (h : P (.str (contT x))) : ∃ d, C_law_content_text [x] d ∧ P d := ⟨_, ⟨x, rfl, f, hc, rfl⟩, h⟩
theorem ex_law_row_text {x : PyData} {P : PyData → Prop} (f : fine 5 x = true) (hc : rowD x = true) (h : P (.str (rowT x))) : ∃ d, C_law_row_text [x] d ∧ P d := ⟨_, ⟨x, rfl, f, hc, rfl⟩, h⟩
theorem lens6 {n : Nat} (h : n ≤ 3700000) : n ≤ sizeLine := Nat.le_trans h (by decide)
section
variable {K : PySem.W.Frag} {W : Wd} {ρ : List En} {te : TE} {P : PyData → Prop}
/-- str(x), x an int or a text -/
theorem ed_strF (h : Ed K W te ρ fun x => fine 5 x = true ∧ ((∃ i : Int, x = .int i) ∨ ∃ s : Str, x = .str s) ∧ P (.str (txt x))) : Ed K W (tCB qStr (tCons te tNil)) ρ P :=
  ed_strOf (h.mono fun x ⟨f, hs, p⟩ => ⟨_, strD_txt f hs, p⟩)
theorem ed_fmtF (h : Ed K W te ρ fun x => fine 5 x = true ∧ ((∃ i : Int, x = .int i) ∨ ∃ s : Str, x = .str s) ∧ P (.str (txt x))) : Ed K W (tFmt te) ρ P :=
  ed_fmt (h.mono fun x ⟨f, hs, p⟩ => ⟨_, strD_txt f hs, Nat.le_trans (txt_len f) (by decide), p⟩)
theorem str_nil (s : Str) : Str.empty ++ s = s := Str.empty_append s
theorem se_text_of_content : SemD K C_text_of_content (t_text_of_content K) 1 7 := fun ds d ⟨x, e, f, hc, hd⟩ => ⟨by rw [e] <;> rfl, by
  subst e hd
  show Sd K W0 (t_text_of_content K) [.val x, .any, .any, .any, .any, .any, .any] _ _
  unfold t_text_of_content
  obtain ⟨l1, l2, l3, l4, l5⟩ := lit_len
  have hs := cont_cases hc
  cases hs with
  | none => exact sd_seq (sd_if (et_tTest (ed_isN (ed_var rfl ⟨_, rfl, ift rfl (sd_ret (ed_str rfl))⟩))))
  | some low es fo h1 h2 h3 h4 =>
    have hf := (fine_tup f).2
    have fl : fine 5 (.str low) = true := fine_up _ _ (hf _ (by simp))
    have ffo : fine 5 fo = true := fine_up _ _ (hf fo (by simp))
    have fes := fine_tup (hf (.tuple es) (by simp))
    have lo := (fine_str fl).1
    refine sd_seq (sd_if (et_tTest (ed_isN (ed_var rfl ⟨_, rfl, iff' rfl (sd_next (sd_seq (sd_asgG (gs := [1, 2, 3]) (ed_var rfl (eg_tup3 (sd_seq (sd_asg (ed_join (ed_str ⟨_, rfl, ?_⟩)))))))))⟩))))
    refine ed_map (gs := [5, 6]) (by decide) (ei_tup (ed_var rfl ⟨es, rfl, by omega, fun x => .str (entT x), fun x hx => ?_, ?_⟩))
    · obtain ⟨k, w, rfl, hk⟩ := h3 x hx
      have fx := (fine_tup (fes.2 _ hx)).2
      have fk : fine 5 (.str k) = true := fine_up _ _ (fine_up _ _ (fine_up _ _ (fx (.str k) (by simp))))
      have fw : fine 5 (.int w) = true := fine_up _ _ (fine_up _ _ (fine_up _ _ (fx (.int w) (by simp))))
      have lk := (fine_str fk).1
      have lw := num_len (fine_int fw)
      refine eg_tup2 (ed_joined (ed_fmtF (ed_var rfl ⟨fk, .inr ⟨k, rfl⟩, _, rfl, ?_, ed_str ⟨_, rfl, ?_, ed_fmtF (ed_var rfl ⟨fw, .inl ⟨w, rfl⟩, _, rfl, ?_, ?_⟩)⟩⟩)))
      · rw [str_nil]; exact lens6 (Nat.le_trans lk (by decide))
      · rw [str_nil, cat_len]; show k.length + ("=" : Str).length ≤ _; exact lens6 (by omega)
      · rw [str_nil, cat_len, cat_len]; show k.length + ("=" : Str).length + (numS w).length ≤ _; exact lens6 (by omega)
      · rw [str_nil]; rfl
    · have em : es.map (fun x => PyData.str (entT x)) = (es.map entT).map PyData.str := by rw [List.map_map] <;> rfl
      rw [em]
      have hent : ∀ x ∈ es.map entT, x.length ≤ 1300 := fun x hx => by
        obtain ⟨e, he, rfl⟩ := List.mem_map.mp hx
        exact ent_len (fes.2 e he)
      have hje : (es.map entT).length ≤ 600 := by rw [List.length_map]; omega
      have hj := join_le l3 hje (by decide) hent
      refine ⟨_, rfl, join_ok l3 hje (by decide) hent, ?_⟩
      refine sd_ret (ed_addS (ed_joined (ed_fmtF (ed_var rfl ⟨fl, .inr ⟨low, rfl⟩, _, rfl, ?_, ed_str ⟨_, rfl, ?_, ed_fmt (ed_var rfl ⟨_, rfl, ?_, _, rfl, ?_, ed_str ⟨_, rfl, ?_, ?_⟩⟩)⟩⟩))))
      · rw [str_nil]; exact lens6 (Nat.le_trans lo (by decide))
      · rw [str_nil, cat_len]; show low.length + ("/" : Str).length ≤ _; exact lens6 (by omega)
      · have hj0 := join_len "," (es.map entT)
        have hj1 := sum_le hent
        rw [List.length_map] at hj0 hj1
        rw [l3] at hj0
        have hm : es.length * 1300 ≤ 3 * 1300 := Nat.mul_le_mul_right _ h2
        omega
      · rw [str_nil, cat_len, cat_len]; show low.length + ("/" : Str).length + (Str.join "," (es.map entT)).length ≤ _; exact Nat.le_trans (m := 3800000) (by omega) (by decide)
      · rw [str_nil, cat_len, cat_len, cat_len]; show low.length + ("/" : Str).length + (Str.join "," (es.map entT)).length + ("/" : Str).length ≤ _; exact Nat.le_trans (m := 3800000) (by omega) (by decide)
      · have fin : ∀ y : Str, y.length ≤ 600 → y = folT fo → ∃ i j, PyData.str (Str.empty ++ low ++ "/" ++ Str.join "," (es.map entT) ++ "/") = .str i ∧ PyData.str y = .str j ∧ i.length + j.length ≤ sizeLine ∧ PyData.str (i ++ j) = .str (contT (.tuple [.str low, .tuple es, fo])) := fun y hy ey => by
          refine ⟨_, _, rfl, rfl, ?_, ?_⟩
          · rw [str_nil, cat_len, cat_len, cat_len, l2]; exact Nat.le_trans (m := 3800000) (by omega) (by decide)
          · rw [str_nil, ey]; rfl
        refine ed_if (et_tTest (ed_isN (ed_var rfl ⟨_, rfl, ?_⟩)))
        rcases h4 with rfl | ⟨i, rfl, hi⟩
        · exact ift rfl (ed_str (fin _ (by omega) rfl))
        · exact iff' rfl (ed_strF (ed_var rfl ⟨ffo, .inl ⟨i, rfl⟩, fin _ (num_len (fine_int ffo)) rfl⟩))⟩
theorem se_law_content_text : SemD K C_law_content_text (t_law_content_text K) 1 7 := fun ds d ⟨x, e, f, hc, hd⟩ => ⟨by rw [e] <;> rfl, by
  subst e hd
  show Sd K W0 (t_law_content_text K) [.val x, .any, .any, .any, .any, .any, .any] _ _
  unfold t_law_content_text
  obtain ⟨l1, l2, l3, l4, l5⟩ := lit_len
  have hs := cont_cases hc
  cases hs with
  | none => exact sd_seq (sd_if (et_tTest (ed_isN (ed_var rfl ⟨_, rfl, ift rfl (sd_ret (ed_str rfl))⟩))))
  | some low es fo h1 h2 h3 h4 =>
    have hf := (fine_tup f).2
    have fl : fine 5 (.str low) = true := fine_up _ _ (hf _ (by simp))
    have ffo : fine 5 fo = true := fine_up _ _ (hf fo (by simp))
    have fes := fine_tup (hf (.tuple es) (by simp))
    have lo := (fine_str fl).1
    refine sd_seq (sd_if (et_tTest (ed_isN (ed_var rfl ⟨_, rfl, iff' rfl (sd_next (sd_seq (sd_asgG (gs := [1, 2, 3]) (ed_var rfl (eg_tup3 (sd_seq (sd_asg (ed_join (ed_str ⟨_, rfl, ?_⟩)))))))))⟩))))
    refine ed_map (gs := [5, 6]) (by decide) (ei_tup (ed_var rfl ⟨es, rfl, by omega, fun x => .str (entT x), fun x hx => ?_, ?_⟩))
    · obtain ⟨k, w, rfl, hk⟩ := h3 x hx
      have fx := (fine_tup (fes.2 _ hx)).2
      have fk : fine 5 (.str k) = true := fine_up _ _ (fine_up _ _ (fine_up _ _ (fx (.str k) (by simp))))
      have fw : fine 5 (.int w) = true := fine_up _ _ (fine_up _ _ (fine_up _ _ (fx (.int w) (by simp))))
      have lk := (fine_str fk).1
      have lw := num_len (fine_int fw)
      refine eg_tup2 (ed_addS (ed_addS (ed_var rfl (ed_str ⟨_, _, rfl, rfl, ?_, ed_strF (ed_var rfl ⟨fw, .inl ⟨w, rfl⟩, _, _, rfl, rfl, ?_, rfl⟩)⟩))))
      · exact lens6 (by omega)
      · rw [cat_len]; show k.length + ("=" : Str).length + (numS w).length ≤ _; exact lens6 (by omega)
    · have em : es.map (fun x => PyData.str (entT x)) = (es.map entT).map PyData.str := by rw [List.map_map] <;> rfl
      rw [em]
      have hent : ∀ x ∈ es.map entT, x.length ≤ 1300 := fun x hx => by
        obtain ⟨e, he, rfl⟩ := List.mem_map.mp hx
        exact ent_len (fes.2 e he)
      have hje : (es.map entT).length ≤ 600 := by rw [List.length_map]; omega
      have hj := join_le l3 hje (by decide) hent
      refine ⟨_, rfl, join_ok l3 hje (by decide) hent, ?_⟩
      refine sd_ret (ed_addS (ed_addS (ed_addS (ed_addS (ed_var rfl (ed_str ⟨_, _, rfl, rfl, ?_, ed_var rfl ⟨_, _, rfl, rfl, ?_, ed_str ⟨_, _, rfl, rfl, ?_, ?_⟩⟩⟩))))))
      · exact lens6 (by omega)
      · rw [cat_len]; show low.length + ("/" : Str).length + (Str.join "," (es.map entT)).length ≤ _; exact Nat.le_trans (m := 3800000) (by omega) (by decide)
      · rw [cat_len, cat_len]; show low.length + ("/" : Str).length + (Str.join "," (es.map entT)).length + ("/" : Str).length ≤ _; exact Nat.le_trans (m := 3800000) (by omega) (by decide)
      · have fin : ∀ y : Str, y.length ≤ 600 → y = folT fo → ∃ i j, PyData.str (low ++ "/" ++ Str.join "," (es.map entT) ++ "/") = .str i ∧ PyData.str y = .str j ∧ i.length + j.length ≤ sizeLine ∧ PyData.str (i ++ j) = .str (contT (.tuple [.str low, .tuple es, fo])) := fun y hy ey => by
          refine ⟨_, _, rfl, rfl, ?_, ?_⟩
          · rw [cat_len, cat_len, cat_len, l2]; exact Nat.le_trans (m := 3800000) (by omega) (by decide)
          · rw [ey]; rfl
        refine ed_if (et_tTest (ed_isN (ed_var rfl ⟨_, rfl, ?_⟩)))
        rcases h4 with rfl | ⟨i, rfl, hi⟩
        · exact ift rfl (ed_str (fin _ (by omega) rfl))
        · exact iff' rfl (ed_strF (ed_var rfl ⟨ffo, .inl ⟨i, rfl⟩, fin _ (num_len (fine_int ffo)) rfl⟩))⟩
end
end K61
end

section
set_option Elab.async false
set_option linter.all false
set_option maxRecDepth 100000
set_option maxHeartbeats 4000000
namespace K61
open PySem PySem.Spec L2 TL
theorem lits2 : NUMS.contains ("start" : Str) = false ∧ NUMS.contains ("page" : Str) = true ∧ NUMS.contains ("unpage" : Str) = true ∧ NUMS.contains ("end" : Str) = false ∧ NUMS.contains ("op" : Str) = false ∧ NUMS.contains ("comp" : Str) = false := by decide +kernel
theorem lits3 : ("start" : Str) ≠ "op" ∧ ("end" : Str) ≠ "op" ∧ ("comp" : Str) ≠ "op" ∧ ("start" : Str) ≠ "page" ∧ ("start" : Str) ≠ "unpage" ∧ ("start" : Str) ≠ "end" ∧ ("start" : Str) ≠ "comp" := by decide +kernel
theorem many_le {h : Str} {n : Nat} (e : manyOf h = some (n + 2)) : n ≤ 2 := by
  unfold manyOf at e
  split at e
  · injection e with e; omega
  · split at e
    · injection e with e; omega
    · split at e
      · injection e with e; omega
      · cases e
/-- an int or a text -/
def Flat (x : PyData) : Prop := (∃ i : Int, x = .int i) ∨ ∃ s : Str, x = .str s
theorem isI_flat {x : PyData} (h : isI x = true) : Flat x := by
  cases x with
  | int i => exact .inl ⟨i, rfl⟩
  | _ => cases h
theorem map_txt (l : List PyData) : l.map (fun x => PyData.str (txt x)) = (l.map txt).map PyData.str := by rw [List.map_map] <;> rfl
theorem flat_len {l : List PyData} (f : ∀ x ∈ l, fine 5 x = true) : ∀ x ∈ l.map txt, x.length ≤ 600 := fun x hx => by
  obtain ⟨e, he, rfl⟩ := List.mem_map.mp hx
  exact txt_len (f e he)
theorem rowW_plain {h : Str} {r : List PyData} (h1 : h ≠ "page") (h2 : h ≠ "unpage") (h3 : h ≠ "op") : rowW (.str h :: r) = (.str h :: r).map txt := by
  match r with
  | [] => rfl
  | [_] => rfl
  | a :: b :: r =>
    show (if h = "page" ∨ h = "unpage" then _ else if h = "op" then _ else h :: txt a :: txt b :: r.map txt) = _
    rw [if_neg (fun z => z.elim h1 h2), if_neg h3]
    rfl
theorem rowW_page {h : Str} {a b : PyData} {r : List PyData} (h1 : h = "page" ∨ h = "unpage") : rowW (.str h :: a :: b :: r) = h :: txt a :: txt b :: r.map contT := by
  show (if h = "page" ∨ h = "unpage" then _ else _) = _
  rw [if_pos h1]
theorem rowW_op {a b : PyData} {os : List PyData} : rowW [.str "op", a, b, .tuple os] = ("op" : Str) :: txt a :: txt b :: os.map txt := by
  obtain ⟨n1, n2, n3, n4, n5, n6, n7, n8, n9, n10, n11, n12, n13, n14, n15⟩ := lits
  have e : rowW [.str "op", a, b, .tuple os] = (if ("op" : Str) = "page" ∨ ("op" : Str) = "unpage" then ("op" : Str) :: txt a :: txt b :: [PyData.tuple os].map contT else if ("op" : Str) = "op" then ("op" : Str) :: txt a :: txt b :: os.map txt else ("op" : Str) :: txt a :: txt b :: [PyData.tuple os].map txt) := rfl
  rw [e, if_neg (fun z => z.elim n8 n11), if_pos rfl]
section
variable {K : PySem.W.Frag}
theorem plain_join {W : Wd} {ρ : List En} {i : Nat} {xs : List PyData} {R : PyData → Prop} (hx : ρ[0]? = some (.val (.tuple xs))) (hl : xs.length ≤ 600) (hf : ∀ x ∈ xs, fine 5 x = true) (hp : ∀ x ∈ xs, Flat x)
    (hρ : ∀ x, ((wipeE ρ [2]).set 2 (.val x))[2]? = some (.val x)) (hr : R (.str (Str.join " " (xs.map txt)))) :
    Ed K W (tM1 (qJoin K) (tC (.str " ")) (tLc (iTup K (tVar 0)) (gName 2) tYes (tCB qStr (tCons (tVar 2) tNil)) [2])) ρ R := by
  refine ed_join (ed_str ⟨_, rfl, ed_map (gs := [2]) (by decide) (ei_tup (ed_var hx ⟨xs, rfl, by omega, fun x => .str (txt x), fun x hm => eg_name (ed_strF (ed_var (hρ x) ⟨hf x hm, hp x hm, rfl⟩)), ?_⟩))⟩)
  rw [map_txt]
  exact ⟨_, rfl, join_ok lit_len.2.2.2.2 (by rw [List.length_map]; exact hl) (by decide) (flat_len hf), hr⟩
theorem se_text_of_row (tN : ∀ H : Hp, SqT K H (He.ga K "NUMBERED") [.str "page", .str "unpage"]) : SemD K C_text_of_row (t_text_of_row K) 1 3 := fun ds d ⟨x, e, f, hc, hd⟩ => ⟨by rw [e] <;> rfl, by
  subst e hd
  show Sd K W0 (t_text_of_row K) [.val x, .any, .any] _ _
  unfold t_text_of_row
  obtain ⟨m1, m2, m3, m4, m5, m6⟩ := lits2
  obtain ⟨n1, n2, n3, n4, n5, n6, n7, n8, n9, n10, n11, n12, n13, n14, n15⟩ := lits
  obtain ⟨q1, q2, q3, q4, q5, q6, q7⟩ := lits3
  have s1 : (" " : Str).length = 1 := lit_len.2.2.2.2
  -- rows of plain items
  have plain : ∀ (h : Str) (r : List PyData), x = .tuple (.str h :: r) → NUMS.contains h = false → h ≠ "page" → h ≠ "unpage" → h ≠ "op" → (∀ x ∈ (PyData.str h :: r), Flat x) → Sd K W0 (t_text_of_row K) [.val x, .any, .any] (fun _ => PyData.str (rowT x) = .none) (fun d => d = .str (rowT x)) := by
    rintro h r rfl hn h1 h2 h3 hp
    obtain ⟨hl, hf⟩ := fine_tup f
    have fh : fine 5 (.str h) = true := fine_up _ _ (hf _ (by simp))
    unfold t_text_of_row
    refine sd_seq (sd_if (et_tTest (ed_inT (ed_ix (ed_var rfl (ed_int (ix_tup0 rfl (ed_NUM tN ⟨h, NUMS, rfl, rfl, _, rfl, iff' hn ?_⟩))))))))
    refine sd_next (sd_seq (sd_if (et_tTest (ed_eqD (ed_ix (ed_var rfl (ed_int (ix_tup0 rfl (ed_str ⟨⟨fine_shaped fh, by decide +kernel⟩, _, rfl, iff' (by rw [str_eqv]; exact decide_eq_false h3) (sd_next (sd_ret ?_))⟩)))))))))
    refine plain_join (i := 2) rfl hl (fun x hx => fine_up _ _ (hf x hx)) hp (fun _ => rfl) ?_
    show PyData.str (Str.join " " ((.str h :: r).map txt)) = .str (Str.join " " (rowW (.str h :: r)))
    rw [rowW_plain h1 h2 h3]
  have paged : ∀ (h : Str) (a b : Int) (r : List PyData), x = .tuple (.str h :: .int a :: .int b :: r) → NUMS.contains h = true → (h = "page" ∨ h = "unpage") → (∀ x ∈ r, contD x = true) → Sd K W0 (t_text_of_row K) [.val x, .any, .any] (fun _ => PyData.str (rowT x) = .none) (fun d => d = .str (rowT x)) := by
    rintro h a b r rfl hn h1 hp
    obtain ⟨hl, hf⟩ := fine_tup f
    have hrl : r.length ≤ 597 := by simp only [List.length_cons] at hl; omega
    have fh : fine 5 (.str h) = true := fine_up _ _ (hf _ (by simp))
    have fa : fine 5 (.int a) = true := fine_up _ _ (hf _ (by simp))
    have fb : fine 5 (.int b) = true := fine_up _ _ (hf _ (by simp))
    unfold t_text_of_row
    refine sd_seq (sd_if (et_tTest (ed_inT (ed_ix (ed_var rfl (ed_int (ix_tup0 rfl (ed_NUM tN ⟨h, NUMS, rfl, rfl, _, rfl, ift hn (sd_ret ?_)⟩))))))))
    refine ed_join (ed_str ⟨_, rfl, ed_cat (ed_lst (ea_cons (ed_ix (ed_var rfl (ed_int (ix_tup0 rfl (ea_cons (ed_strF (ed_ix (ed_var rfl (ed_int (ix_tup1 rfl ⟨fa, .inl ⟨a, rfl⟩, ea_cons (ed_strF (ed_ix (ed_var rfl (ed_int (ix_tup2 rfl ⟨fb, .inl ⟨b, rfl⟩, ea_nil ⟨by simp, _, rfl, ?_⟩⟩)))))⟩))))))))))))⟩)
    refine ed_map (gs := [1]) (by decide) (ei_tup (ed_slT (ed_var rfl ⟨_, rfl, eo_some (ed_int ⟨3, rfl, eo_none ⟨_, rfl, ?_⟩⟩)⟩)))
    rw [show (some (3 : Int)) = some ((3 : Nat) : Int) from rfl, cut_from]
    show r.length ≤ 100000 ∧ ∃ f, (∀ x ∈ r, _) ∧ _
    have hcl : ∀ z ∈ h :: txt (.int a) :: txt (.int b) :: r.map contT, z.length ≤ 6000 := fun z hz => by
      rcases List.mem_cons.mp hz with e | hz
      · rw [e]; exact Nat.le_trans (fine_str fh).1 (by decide)
      rcases List.mem_cons.mp hz with e | hz
      · rw [e]; exact Nat.le_trans (txt_len fa) (by decide)
      rcases List.mem_cons.mp hz with e | hz
      · rw [e]; exact Nat.le_trans (txt_len fb) (by decide)
      · obtain ⟨e, he, rfl⟩ := List.mem_map.mp hz
        exact cont_len (fine_up _ _ (hf e (by simp [he]))) (hp e he)
    refine ⟨by omega, fun x => .str (contT x), fun x hx => eg_name (ed_call (ea_cons (ed_var rfl (ea_nil (ex_text_of_content (fine_up _ _ (hf x (by simp [hx]))) (hp x hx) rfl))))), _, rfl, ?_, ?_⟩
    · rw [List.length_map]; show 3 + r.length ≤ 100000; omega
    · refine ⟨h :: txt (.int a) :: txt (.int b) :: r.map contT, ?_, join_ok s1 ?_ (Nat.le_refl _) hcl, ?_⟩
      · show PyData.list (.str h :: .str (txt (.int a)) :: .str (txt (.int b)) :: r.map fun x => .str (contT x)) = _
        rw [List.map_cons, List.map_cons, List.map_cons, List.map_map] <;> rfl
      · simp only [List.length_cons, List.length_map]; omega
      · show _ = PyData.str (Str.join " " (rowW (.str h :: .int a :: .int b :: r)))
        rw [rowW_page h1]
  cases row_cases hc with
  | start a ha =>
      refine plain _ _ rfl m1 q4 q5 q1 fun x hx => ?_
      rcases List.mem_cons.mp hx with e | hx
      · exact .inr ⟨_, e⟩
      · exact .inl ⟨a, List.mem_singleton.mp hx⟩
  | page a b c d ha hb hc' hd =>
      refine paged _ a b [c, d] rfl m2 (.inl rfl) fun x hx => ?_
      simp only [List.mem_cons, List.not_mem_nil, or_false] at hx
      rcases hx with rfl | rfl <;> assumption
  | un a b c ha hb hc' =>
      refine paged _ a b [c] rfl m3 (.inr rfl) fun x hx => ?_
      rw [List.mem_singleton.mp hx]; exact hc'
  | fin a w ha hw =>
      refine plain _ _ rfl m4 n7 n10 q2 fun x hx => ?_
      simp only [List.mem_cons, List.not_mem_nil, or_false] at hx
      rcases hx with e | e | e
      · exact .inr ⟨_, e⟩
      · exact .inl ⟨_, e⟩
      · exact .inr ⟨_, e⟩
  | comp a b c ha hb hc' =>
      refine plain _ _ rfl m6 n9 n12 q3 fun x hx => ?_
      simp only [List.mem_cons, List.not_mem_nil, or_false] at hx
      rcases hx with e | e | e | e
      · exact .inr ⟨_, e⟩
      · exact .inl ⟨_, e⟩
      · exact .inl ⟨_, e⟩
      · exact .inl ⟨_, e⟩
  | op a b h k r ha hb hk hm hr =>
    obtain ⟨hl, hf⟩ := fine_tup f
    have fa : fine 5 (.int a) = true := fine_up _ _ (hf _ (by simp))
    have fb : fine 5 (.int b) = true := fine_up _ _ (hf _ (by simp))
    have fo := fine_tup (hf (.tuple (.str h :: .str k :: r)) (by simp))
    have hr2 := many_le hm
    have fop : ∀ x ∈ (PyData.str h :: .str k :: r), fine 5 x = true := fun x hx => fine_up _ _ (fine_up _ _ (fo.2 x hx))
    have hfl : ∀ x ∈ (PyData.str h :: .str k :: r), Flat x := fun x hx => by
      rcases List.mem_cons.mp hx with e | hx
      · exact .inr ⟨_, e⟩
      rcases List.mem_cons.mp hx with e | hx
      · exact .inr ⟨_, e⟩
      · exact isI_flat (List.all_eq_true.mp hr x hx)
    refine sd_seq (sd_if (et_tTest (ed_inT (ed_ix (ed_var rfl (ed_int (ix_tup0 rfl (ed_NUM tN ⟨_, NUMS, rfl, rfl, _, rfl, iff' m5 ?_⟩))))))))
    refine sd_next (sd_seq (sd_if (et_tTest (ed_eqD (ed_ix (ed_var rfl (ed_int (ix_tup0 rfl (ed_str ⟨⟨by decide +kernel, by decide +kernel⟩, _, rfl, ift (by rw [str_eqv]; exact decide_eq_true rfl) (sd_ret ?_)⟩)))))))))
    refine ed_join (ed_str ⟨_, rfl, ed_cat (ed_lst (ea_cons (ed_str (ea_cons (ed_strF (ed_ix (ed_var rfl (ed_int (ix_tup1 rfl ⟨fa, .inl ⟨a, rfl⟩, ea_cons (ed_strF (ed_ix (ed_var rfl (ed_int (ix_tup2 rfl ⟨fb, .inl ⟨b, rfl⟩, ea_nil ⟨by simp, _, rfl, ?_⟩⟩)))))⟩)))))))))⟩)
    refine ed_map (gs := [2]) (by decide) (ei_tup (ed_ix (ed_var rfl (ed_int (ix_tup3 rfl ⟨_, rfl, by simp only [List.length_cons]; omega, fun x => .str (txt x), fun x hx => eg_name (ed_strF (ed_var rfl ⟨fop x hx, hfl x hx, rfl⟩)), _, rfl, ?_, ?_⟩)))))
    · simp only [List.length_cons, List.length_map, List.length_nil]; omega
    · have hcl : ∀ z ∈ ("op" : Str) :: txt (.int a) :: txt (.int b) :: (.str h :: .str k :: r).map txt, z.length ≤ 600 := fun z hz => by
        rcases List.mem_cons.mp hz with e | hz
        · rw [e]; decide +kernel
        rcases List.mem_cons.mp hz with e | hz
        · rw [e]; exact txt_len fa
        rcases List.mem_cons.mp hz with e | hz
        · rw [e]; exact txt_len fb
        · exact flat_len fop z hz
      refine ⟨("op" : Str) :: txt (.int a) :: txt (.int b) :: (.str h :: .str k :: r).map txt, ?_, join_ok s1 ?_ (by decide) hcl, ?_⟩
      · show PyData.list (.str "op" :: .str (txt (.int a)) :: .str (txt (.int b)) :: (.str h :: .str k :: r).map fun x => .str (txt x)) = _
        rw [map_txt] <;> rfl
      · simp only [List.length_cons, List.length_map]; omega
      · show _ = PyData.str (Str.join " " (rowW [.str "op", .int a, .int b, .tuple (.str h :: .str k :: r)]))
        rw [rowW_op]⟩
end
end K61
end

section
set_option Elab.async false
set_option linter.all false
set_option maxRecDepth 100000
set_option maxHeartbeats 4000000
namespace K61
open PySem PySem.Spec L2 TL
def isTp : PyData → Bool
  | .tuple _ => true
  | _ => false
def GG (num : Bool) (x : PyData) : List PyData := if (num && (isN x || isTp x)) = true then [.str (contT x)] else if isTp x = true then (itemsD x).map fun y => .str (txt y) else [.str (txt x)]
def FF (num : Bool) (_ : Nat) (x : PyData) : List PyData := (GG num x).take 20
inductive ItemOk (num : Bool) : PyData → Prop
  | cont (x : PyData) : num = true → contD x = true → ItemOk num x
  | ops (os : List PyData) : num = false → os.length ≤ 20 → (∀ y ∈ os, Flat y) → ItemOk num (.tuple os)
  | flat (x : PyData) : Flat x → ItemOk num x
theorem cont_tp {x : PyData} (h : contD x = true) : x = .none ∨ ∃ os, x = .tuple os := by
  cases cont_cases h with
  | none => exact .inl rfl
  | some low es f _ _ _ _ => exact .inr ⟨_, rfl⟩
theorem fed_map (num : Bool) (xs : List PyData) : fed (FF num) xs = (xs.map fun x => (GG num x).take 20).flatten := by
  have key : ∀ (l : List PyData) (k : Nat), (l.zipIdx k).map (fun p => FF num p.2 p.1) = l.map fun x => (GG num x).take 20 := by
    intro l
    induction l with
    | nil => exact fun _ => rfl
    | cons x r ih =>
      intro k
      show FF num k x :: (r.zipIdx (k + 1)).map _ = _
      rw [ih (k + 1)] <;> rfl
  unfold fed
  rw [key xs 0]
theorem GG_flat {num : Bool} {x : PyData} (h : Flat x) : GG num x = [.str (txt x)] := by
  rcases h with ⟨i, rfl⟩ | ⟨s, rfl⟩ <;> cases num <;> rfl
theorem GG_cont {x : PyData} (h : contD x = true) : GG true x = [.str (contT x)] := by
  rcases cont_tp h with rfl | ⟨os, rfl⟩ <;> rfl
theorem fed_flat (num : Bool) : ∀ xs : List PyData, (∀ x ∈ xs, Flat x) → (xs.map fun x => (GG num x).take 20).flatten = (xs.map txt).map PyData.str
  | [], _ => rfl
  | x :: r, h => by
    rw [List.map_cons, List.flatten_cons, GG_flat (h x List.mem_cons_self), fed_flat num r fun y hy => h y (List.mem_cons_of_mem _ hy)]
    rfl
theorem fed_cont : ∀ xs : List PyData, (∀ x ∈ xs, contD x = true) → (xs.map fun x => (GG true x).take 20).flatten = (xs.map contT).map PyData.str
  | [], _ => rfl
  | x :: r, h => by
    rw [List.map_cons, List.flatten_cons, GG_cont (h x List.mem_cons_self), fed_cont r fun y hy => h y (List.mem_cons_of_mem _ hy)]
    rfl
theorem page_tup {K : PySem.W.Frag} {W : Wd} {ρ : List En} {P : PyData → Prop} (p : P (.tuple (NUMS.map .str))) : Ed K W (tTup (tCons (tC (.str "page")) (tCons (tC (.str "unpage")) tNil))) ρ P :=
  ed_tup (ea_cons (ed_str (ea_cons (ed_str (ea_nil ⟨by simp, p⟩)))))
section
variable {K : PySem.W.Frag}
theorem row_words {h : Str} {xs : List PyData} {num : Bool} {R : PyData → Prop} (hl : xs.length ≤ 599) (hf : ∀ x ∈ (PyData.str h :: xs), fine 5 x = true) (hn : NUMS.contains h = num) (ok : ∀ x ∈ (PyData.str h :: xs), ItemOk num x)
    {N : List En → Prop} (k : Sd K W0 (tRet (tM1 (qJoin K) (tC (.str " ")) (tVar 1))) [.val (.tuple (.str h :: xs)), .val (.list (fed (FF num) (.str h :: xs))), .any, .any] N R) : Sd K W0 (t_law_row_text K) [.val (.tuple (.str h :: xs)), .any, .any, .any] N R := by
  unfold t_law_row_text
  refine sd_build (gs := [2]) (by simp) (by decide) (ei_tup (ed_var rfl ⟨_, rfl, by simp only [List.length_cons]; omega, fun i ρ' => ∃ n, ρ' = [.val (.tuple (.str h :: xs)), .any, n, .any], FF num, fun i x => by unfold FF; rw [List.length_take]; omega, ⟨.any, rfl⟩, ?_, ?_⟩))
  · rintro i x ρ' hx ⟨n, rfl⟩
    have hmem := List.mem_of_getElem? hx
    have fx := hf x hmem
    refine eg_name ?_
    show Sb K W0 1 _ [.val (.tuple (.str h :: xs)), .any, .val x, .any] _
    have num_t : Et K W0 (tTest (tOp (rIn K false) (tOp (rIx K) (tVar 0) (tC (.int 0))) (tTup (tCons (tC (.str "page")) (tCons (tC (.str "unpage")) tNil))))) [.val (.tuple (.str h :: xs)), .any, .val x, .any] (fun b => b = num) :=
      et_tTest (ed_inT (ed_ix (ed_var rfl (ed_int (ix_tup0 rfl (page_tup ⟨h, NUMS, rfl, rfl, _, rfl, hn⟩))))))
    have app : ∀ (te : TE) (y : PyData), Ed K W0 te [.val (.tuple (.str h :: xs)), .any, .val x, .any] (fun d => d = y) → [y] = FF num i x → Sb K W0 1 (tDrop (tBM K "list" rAppend (tVar 1) (tCons te tNil))) [.val (.tuple (.str h :: xs)), .any, .val x, .any] (fun ρ3 app => app = FF num i x ∧ ∃ n, ρ3 = [.val (.tuple (.str h :: xs)), .any, n, .any]) := fun te y ht e =>
      sb_app (ht.mono fun d hd => ⟨by rw [hd, e], _, rfl⟩)
    cases ok x hmem with
    | cont _ h1 h2 =>
      subst h1
      have e1 : [PyData.str (contT x)] = FF true i x := by unfold FF; rw [GG_cont h2] <;> rfl
      refine sb_if (et_and (num_t.mono fun b hb => ?_))
      subst hb
      refine ift rfl ?_
      have doit : Sb K W0 1 (tDrop (tBM K "list" rAppend (tVar 1) (tCons (tCall (sp_law_content_text K) [] E0 (tCons (tVar 2) tNil)) tNil))) [.val (.tuple (.str h :: xs)), .any, .val x, .any] (fun ρ3 app => app = FF true i x ∧ ∃ n, ρ3 = [.val (.tuple (.str h :: xs)), .any, n, .any]) :=
        app _ _ (ed_call (ea_cons (ed_var rfl (ea_nil (ex_law_content_text fx h2 rfl))))) e1
      rcases cont_tp h2 with rfl | ⟨os, rfl⟩
      · exact et_or (et_tTest (ed_isN (ed_var rfl ⟨_, rfl, ift rfl (ift rfl doit)⟩)))
      · exact et_or (et_tTest (ed_isN (ed_var rfl ⟨_, rfl, iff' rfl (et_tB (ed_isi (by decide) (ed_var rfl ⟨_, rfl, ift rfl doit⟩)))⟩)))
    | ops os h1 h2 h3 =>
      subst h1
      obtain ⟨ho1, ho2⟩ := fine_tup fx
      refine sb_if (et_and (num_t.mono fun b hb => ?_))
      subst hb
      refine iff' rfl (iff' rfl (sb_if (et_tB (ed_isi (by decide) (ed_var rfl ⟨_, rfl, ift rfl (sb_ext ?_)⟩)))))
      refine ed_map (gs := [3]) (by decide) (ei_tup (ed_var rfl ⟨os, rfl, by omega, fun y => .str (txt y), fun y hy => eg_name (ed_strF (ed_var rfl ⟨fine_up _ _ (ho2 y hy), h3 y hy, rfl⟩)), _, rfl, by rw [List.length_map]; omega, ?_, _, rfl⟩))
      show os.map (fun y => PyData.str (txt y)) = (os.map fun y => PyData.str (txt y)).take 20
      rw [List.take_of_length_le (by rw [List.length_map]; exact h2)]
    | flat _ h1 =>
      have e1 : [PyData.str (txt x)] = FF num i x := by unfold FF; rw [GG_flat h1] <;> rfl
      have doit : Sb K W0 1 (tDrop (tBM K "list" rAppend (tVar 1) (tCons (tCB qStr (tCons (tVar 2) tNil)) tNil))) [.val (.tuple (.str h :: xs)), .any, .val x, .any] (fun ρ3 app => app = FF num i x ∧ ∃ n, ρ3 = [.val (.tuple (.str h :: xs)), .any, n, .any]) :=
        app _ _ (ed_strF (ed_var rfl ⟨fx, h1, rfl⟩)) e1
      have two : Sb K W0 1 (tIfS (tB (tCB (rIsi K) (tCons (tVar 2) (tCons (tC (.ty "tuple")) tNil)))) (tDrop (tBM K "list" rExtend (tVar 1) (tCons (tLc (iTup K (tVar 2)) (gName 3) tYes (tCB qStr (tCons (tVar 3) tNil)) [3]) tNil))) (tDrop (tBM K "list" rAppend (tVar 1) (tCons (tCB qStr (tCons (tVar 2) tNil)) tNil)))) [.val (.tuple (.str h :: xs)), .any, .val x, .any] (fun ρ3 app => app = FF num i x ∧ ∃ n, ρ3 = [.val (.tuple (.str h :: xs)), .any, n, .any]) := by
        rcases h1 with ⟨j, rfl⟩ | ⟨s, rfl⟩
        · exact sb_if (et_tB (ed_isi (by decide) (ed_var rfl ⟨_, rfl, iff' rfl doit⟩)))
        · exact sb_if (et_tB (ed_isi (by decide) (ed_var rfl ⟨_, rfl, iff' rfl doit⟩)))
      refine sb_if (et_and (num_t.mono fun b hb => ?_))
      rw [hb]
      cases num with
      | false => exact iff' rfl (iff' rfl two)
      | true =>
        refine ift rfl ?_
        rcases h1 with ⟨j, rfl⟩ | ⟨s, rfl⟩
        · exact et_or (et_tTest (ed_isN (ed_var rfl ⟨_, rfl, iff' rfl (et_tB (ed_isi (by decide) (ed_var rfl ⟨_, rfl, iff' rfl two⟩)))⟩)))
        · exact et_or (et_tTest (ed_isN (ed_var rfl ⟨_, rfl, iff' rfl (et_tB (ed_isi (by decide) (ed_var rfl ⟨_, rfl, iff' rfl two⟩)))⟩)))
  · rintro ρ' ⟨n, rfl⟩
    refine fun W' l σ H D iv e k1 k2 => k W' l σ H D iv ?_ k1 k2
    show EnvD K (hide W' H) [.val (.tuple (.str h :: xs)), .val (.list (fed (FF num) (.str h :: xs))), .any, .any] σ
    match σ, e with
    | _, .cons a (.cons b (.cons c (.cons d .nil))) => exact .cons a (.cons b (.cons True.intro (.cons True.intro .nil)))
theorem words_of {h : Str} {xs : List PyData} {num : Bool} {ws : List Str} {N : List En → Prop} {R : PyData → Prop} (e : fed (FF num) (.str h :: xs) = ws.map .str) (hl : ws.length ≤ 600) (hw : ∀ z ∈ ws, z.length ≤ 6000) (r : R (.str (Str.join " " ws))) :
    Sd K W0 (tRet (tM1 (qJoin K) (tC (.str " ")) (tVar 1))) [.val (.tuple (.str h :: xs)), .val (.list (fed (FF num) (.str h :: xs))), .any, .any] N R := by
  rw [e]
  exact sd_ret (ed_join (ed_str ⟨_, rfl, ed_var rfl ⟨ws, rfl, join_ok lit_len.2.2.2.2 hl (Nat.le_refl _) hw, r⟩⟩))
theorem se_law_row_text : SemD K C_law_row_text (t_law_row_text K) 1 4 := fun ds d ⟨x, e, f, hc, hd⟩ => ⟨by rw [e] <;> rfl, by
  subst e hd
  show Sd K W0 (t_law_row_text K) [.val x, .any, .any, .any] _ _
  obtain ⟨m1, m2, m3, m4, m5, m6⟩ := lits2
  obtain ⟨n1, n2, n3, n4, n5, n6, n7, n8, n9, n10, n11, n12, n13, n14, n15⟩ := lits
  obtain ⟨q1, q2, q3, q4, q5, q6, q7⟩ := lits3
  have plain : ∀ (h : Str) (r : List PyData), x = .tuple (.str h :: r) → NUMS.contains h = false → h ≠ "page" → h ≠ "unpage" → h ≠ "op" → (∀ x ∈ (PyData.str h :: r), Flat x) → Sd K W0 (t_law_row_text K) [.val x, .any, .any, .any] (fun _ => PyData.str (rowT x) = .none) (fun d => d = .str (rowT x)) := by
    rintro h r rfl hn h1 h2 h3 hp
    obtain ⟨hl, hf⟩ := fine_tup f
    have hf5 : ∀ x ∈ (PyData.str h :: r), fine 5 x = true := fun x hx => fine_up _ _ (hf x hx)
    refine row_words (num := false) (by simp only [List.length_cons] at hl; omega) hf5 hn (fun x hx => .flat x (hp x hx)) (words_of (ws := (.str h :: r).map txt) (by rw [fed_map, fed_flat false _ hp]) (by rw [List.length_map]; exact hl) (fun z hz => Nat.le_trans (flat_len hf5 z hz) (by decide)) ?_)
    show PyData.str (Str.join " " ((.str h :: r).map txt)) = .str (Str.join " " (rowW (.str h :: r)))
    rw [rowW_plain h1 h2 h3]
  have paged : ∀ (h : Str) (a b : Int) (r : List PyData), x = .tuple (.str h :: .int a :: .int b :: r) → NUMS.contains h = true → (h = "page" ∨ h = "unpage") → (∀ x ∈ r, contD x = true) → Sd K W0 (t_law_row_text K) [.val x, .any, .any, .any] (fun _ => PyData.str (rowT x) = .none) (fun d => d = .str (rowT x)) := by
    rintro h a b r rfl hn h1 hp
    obtain ⟨hl, hf⟩ := fine_tup f
    have hf5 : ∀ x ∈ (PyData.str h :: .int a :: .int b :: r), fine 5 x = true := fun x hx => fine_up _ _ (hf x hx)
    have fh : fine 5 (.str h) = true := hf5 _ (by simp)
    have fa : fine 5 (.int a) = true := hf5 _ (by simp)
    have fb : fine 5 (.int b) = true := hf5 _ (by simp)
    have hw : ∀ z ∈ h :: txt (.int a) :: txt (.int b) :: r.map contT, z.length ≤ 6000 := fun z hz => by
      rcases List.mem_cons.mp hz with e | hz
      · rw [e]; exact Nat.le_trans (fine_str fh).1 (by decide)
      rcases List.mem_cons.mp hz with e | hz
      · rw [e]; exact Nat.le_trans (txt_len fa) (by decide)
      rcases List.mem_cons.mp hz with e | hz
      · rw [e]; exact Nat.le_trans (txt_len fb) (by decide)
      · obtain ⟨e, he, rfl⟩ := List.mem_map.mp hz
        exact cont_len (hf5 e (by simp [he])) (hp e he)
    refine row_words (num := true) (by simp only [List.length_cons] at hl ⊢; omega) hf5 hn (fun x hx => ?_) (words_of (ws := h :: txt (.int a) :: txt (.int b) :: r.map contT) ?_ (by simp only [List.length_cons, List.length_map] at hl ⊢; omega) hw ?_)
    · rcases List.mem_cons.mp hx with e | hx
      · exact .flat x (.inr ⟨_, e⟩)
      rcases List.mem_cons.mp hx with e | hx
      · exact .flat x (.inl ⟨_, e⟩)
      rcases List.mem_cons.mp hx with e | hx
      · exact .flat x (.inl ⟨_, e⟩)
      · exact .cont x rfl (hp x hx)
    · rw [fed_map]
      have e3 := fed_cont r hp
      show ([PyData.str (txt (.str h))] ++ ([PyData.str (txt (.int a))] ++ ([PyData.str (txt (.int b))] ++ (r.map fun x => (GG true x).take 20).flatten))) = _
      rw [e3] <;> rfl
    · show PyData.str (Str.join " " (h :: txt (.int a) :: txt (.int b) :: r.map contT)) = .str (Str.join " " (rowW (.str h :: .int a :: .int b :: r)))
      rw [rowW_page h1]
  cases row_cases hc with
  | start a ha =>
    refine plain _ _ rfl m1 q4 q5 q1 fun x hx => ?_
    rcases List.mem_cons.mp hx with e | hx
    · exact .inr ⟨_, e⟩
    · exact .inl ⟨a, List.mem_singleton.mp hx⟩
  | page a b c d ha hb hc' hd =>
    refine paged _ a b [c, d] rfl m2 (.inl rfl) fun x hx => ?_
    simp only [List.mem_cons, List.not_mem_nil, or_false] at hx
    rcases hx with rfl | rfl <;> assumption
  | un a b c ha hb hc' =>
    refine paged _ a b [c] rfl m3 (.inr rfl) fun x hx => ?_
    rw [List.mem_singleton.mp hx]; exact hc'
  | fin a w ha hw =>
    refine plain _ _ rfl m4 n7 n10 q2 fun x hx => ?_
    simp only [List.mem_cons, List.not_mem_nil, or_false] at hx
    rcases hx with e | e | e
    · exact .inr ⟨_, e⟩
    · exact .inl ⟨_, e⟩
    · exact .inr ⟨_, e⟩
  | comp a b c ha hb hc' =>
    refine plain _ _ rfl m6 n9 n12 q3 fun x hx => ?_
    simp only [List.mem_cons, List.not_mem_nil, or_false] at hx
    rcases hx with e | e | e | e
    · exact .inr ⟨_, e⟩
    · exact .inl ⟨_, e⟩
    · exact .inl ⟨_, e⟩
    · exact .inl ⟨_, e⟩
  | op a b h k r ha hb hk hm hr =>
    obtain ⟨hl, hf⟩ := fine_tup f
    have hf5 : ∀ x ∈ [PyData.str "op", .int a, .int b, .tuple (.str h :: .str k :: r)], fine 5 x = true := fun x hx => fine_up _ _ (hf x hx)
    have fa : fine 5 (.int a) = true := hf5 _ (by simp)
    have fb : fine 5 (.int b) = true := hf5 _ (by simp)
    have fo := fine_tup (hf (.tuple (.str h :: .str k :: r)) (by simp))
    have hr2 := many_le hm
    have fop : ∀ x ∈ (PyData.str h :: .str k :: r), fine 5 x = true := fun x hx => fine_up _ _ (fine_up _ _ (fo.2 x hx))
    have hfl : ∀ x ∈ (PyData.str h :: .str k :: r), Flat x := fun x hx => by
      rcases List.mem_cons.mp hx with e | hx
      · exact .inr ⟨_, e⟩
      rcases List.mem_cons.mp hx with e | hx
      · exact .inr ⟨_, e⟩
      · exact isI_flat (List.all_eq_true.mp hr x hx)
    have hw : ∀ z ∈ ("op" : Str) :: txt (.int a) :: txt (.int b) :: (.str h :: .str k :: r).map txt, z.length ≤ 6000 := fun z hz => by
      rcases List.mem_cons.mp hz with e | hz
      · rw [e]; decide +kernel
      rcases List.mem_cons.mp hz with e | hz
      · rw [e]; exact Nat.le_trans (txt_len fa) (by decide)
      rcases List.mem_cons.mp hz with e | hz
      · rw [e]; exact Nat.le_trans (txt_len fb) (by decide)
      · exact Nat.le_trans (flat_len fop z hz) (by decide)
    refine row_words (h := "op") (num := false) (by simp) hf5 m5 (fun x hx => ?_) (words_of (ws := ("op" : Str) :: txt (.int a) :: txt (.int b) :: (.str h :: .str k :: r).map txt) ?_ (by simp only [List.length_cons, List.length_map]; omega) hw ?_)
    · simp only [List.mem_cons, List.not_mem_nil, or_false] at hx
      rcases hx with rfl | rfl | rfl | rfl
      · exact .flat _ (.inr ⟨_, rfl⟩)
      · exact .flat _ (.inl ⟨_, rfl⟩)
      · exact .flat _ (.inl ⟨_, rfl⟩)
      · exact .ops _ rfl (by simp only [List.length_cons]; omega) hfl
    · rw [fed_map]
      show ([PyData.str (txt (.str "op"))] ++ ([PyData.str (txt (.int a))] ++ ([PyData.str (txt (.int b))] ++ (((.str h :: .str k :: r).map fun y => PyData.str (txt y)).take 20 ++ [])))) = _
      rw [List.take_of_length_le (by simp only [List.length_cons, List.length_map]; omega), List.append_nil, map_txt] <;> rfl
    · show _ = PyData.str (Str.join " " (rowW [.str "op", .int a, .int b, .tuple (.str h :: .str k :: r)]))
      rw [rowW_op]⟩
end
end K61
end

section
set_option Elab.async false
set_option linter.all false
set_option maxRecDepth 100000
set_option maxHeartbeats 4000000
/-! plain: pieces of texts, digits -/
namespace K61
open PySem PySem.Spec TL
theorem spl_sub (S : List Nat) : ∀ (l : List Nat) (k : Nat) (acc : List Nat), (∀ p ∈ spl S k acc l, (∀ c ∈ p, c ∈ acc ∨ c ∈ l) ∧ p.length ≤ acc.length + l.length) ∧ (spl S k acc l).length ≤ l.length + 1 ∧ spl S k acc l ≠ []
  | [], k, acc => by
    rw [spl_nil]
    refine ⟨fun p hp => ?_, by simp, by simp⟩
    rw [List.mem_singleton.mp hp]
    exact ⟨fun c hc => .inl hc, by simp⟩
  | c :: r, k + 1, acc => by
    have h := spl_sub S r k acc
    refine ⟨fun p hp => ?_, Nat.le_trans h.2.1 (by simp), h.2.2⟩
    obtain ⟨h1, h2⟩ := h.1 p hp
    exact ⟨fun d hd => (h1 d hd).imp id (List.mem_cons_of_mem _), by rw [List.length_cons]; omega⟩
  | c :: r, 0, acc => by
    cases hq : pre S (c :: r) with
    | true =>
      rw [spl_hit hq]
      have h := spl_sub S r (S.length - 1) []
      refine ⟨fun p hp => ?_, by rw [List.length_cons, List.length_cons]; have := h.2.1; omega, by simp⟩
      rcases List.mem_cons.mp hp with e | hp
      · rw [e]; exact ⟨fun d hd => .inl hd, by omega⟩
      · obtain ⟨h1, h2⟩ := h.1 p hp
        exact ⟨fun d hd => .inr ((h1 d hd).elim (fun z => nomatch z) (List.mem_cons_of_mem _)), by rw [List.length_cons]; simp at h2; omega⟩
    | false =>
      rw [spl_miss hq]
      have h := spl_sub S r 0 (acc ++ [c])
      refine ⟨fun p hp => ?_, Nat.le_trans h.2.1 (by simp), h.2.2⟩
      obtain ⟨h1, h2⟩ := h.1 p hp
      refine ⟨fun d hd => ?_, by rw [List.length_append] at h2; simp at h2 ⊢; omega⟩
      rcases h1 d hd with z | z
      · rcases List.mem_append.mp z with z | z
        · exact .inl z
        · exact .inr (by rw [List.mem_singleton.mp z]; exact List.mem_cons_self)
      · exact .inr (List.mem_cons_of_mem _ z)
theorem par_sub (S : List Nat) : ∀ (l acc : List Nat) (a b : List Nat), par S acc l = some (a, b) → (∀ c ∈ a, c ∈ acc ∨ c ∈ l) ∧ a.length ≤ acc.length + l.length ∧ (∀ c ∈ b, c ∈ l) ∧ b.length ≤ l.length
  | [], acc, a, b, h => by cases h
  | c :: r, acc, a, b, h => by
    cases hq : pre S (c :: r) with
    | true =>
      rw [par_hit hq] at h
      have h := Option.some.inj h
      injection h with h1 h2
      subst h1 h2
      exact ⟨fun d hd => .inl hd, by omega, fun d hd => List.mem_of_mem_drop hd, by rw [List.length_drop]; omega⟩
    | false =>
      rw [par_miss hq] at h
      obtain ⟨h1, h2, h3, h4⟩ := par_sub S r (acc ++ [c]) a b h
      refine ⟨fun d hd => ?_, by rw [List.length_append] at h2; simp at h2 ⊢; omega, fun d hd => List.mem_cons_of_mem _ (h3 d hd), by rw [List.length_cons]; omega⟩
      rcases h1 d hd with z | z
      · rcases List.mem_append.mp z with z | z
        · exact .inl z
        · exact .inr (by rw [List.mem_singleton.mp z]; exact List.mem_cons_self)
      · exact .inr (List.mem_cons_of_mem _ z)
theorem all_tl {s : Str} : s.cps.all (· < 0x110000) = true ↔ ∀ c ∈ tl s, c < 0x110000 := by
  rw [← Array.all_toList, List.all_eq_true]
  simp
theorem okS_of {s p : Str} (h : okS s) (h1 : ∀ c ∈ tl p, c ∈ tl s) (h2 : p.length ≤ s.length) : okS p :=
  ⟨Nat.le_trans h2 h.1, all_tl.mpr fun c hc => all_tl.mp h.2 c (h1 c hc)⟩
theorem okS_empty : okS Str.empty := ⟨by decide, by decide +kernel⟩
/-- a separator of one plain sign -/
structure Sep (y : Str) (s : Nat) : Prop where
  e : tl y = [s]
  k : y.cps.all (· < 256) = true
  l : (y.length == 0) = false
theorem sepC : Sep "," 44 := ⟨by decide +kernel, by decide +kernel, by decide +kernel⟩
theorem sepL : Sep "/" 47 := ⟨by decide +kernel, by decide +kernel, by decide +kernel⟩
theorem sepS : Sep " " 32 := ⟨by decide +kernel, by decide +kernel, by decide +kernel⟩
theorem sepE : Sep "=" 61 := ⟨by decide +kernel, by decide +kernel, by decide +kernel⟩
theorem split_tl {x y : Str} {s : Nat} (h : Sep y s) : (Txt.split x y).map tl = spl [s] 0 [] (tl x) := by
  rw [split_spl x y (by rw [h.e]; simp) (kind_ok h.k), h.e]
theorem split_ok {x y : Str} {s : Nat} (h : Sep y s) (hx : okS x) : (∀ p ∈ Txt.split x y, okS p) ∧ (Txt.split x y).length ≤ 561 ∧ Txt.split x y ≠ [] := by
  have e := split_tl (x := x) h
  obtain ⟨h1, h2, h3⟩ := spl_sub [s] (tl x) 0 []
  rw [← e] at h1 h2 h3
  refine ⟨fun p hp => ?_, ?_, fun z => h3 (by rw [z] <;> rfl)⟩
  · obtain ⟨a, b⟩ := h1 (tl p) (List.mem_map.mpr ⟨p, hp, rfl⟩)
    exact okS_of hx (fun c hc => (a c hc).elim (fun z => nomatch z) id) (by rw [len_tl, len_tl]; simpa using b)
  · rw [List.length_map] at h2
    have := hx.1
    rw [len_tl] at this
    omega
theorem part_ok {x y : Str} {s : Nat} (h : Sep y s) (hx : okS x) (hy : okS y) : okS (Txt.partition x y).1 ∧ okS (Txt.partition x y).2.1 ∧ okS (Txt.partition x y).2.2 := by
  rw [partition_par x y (by rw [h.e]; simp), h.e]
  cases q : par [s] [] (tl x) with
  | none => exact ⟨hx, okS_empty, okS_empty⟩
  | some ab =>
    obtain ⟨a, b⟩ := ab
    obtain ⟨h1, h2, h3, h4⟩ := par_sub [s] (tl x) [] a b q
    refine ⟨okS_of (p := ⟨a.toArray⟩) hx (fun c hc => (h1 c hc).elim (fun z => nomatch z) id) ?_, hy, okS_of (p := ⟨b.toArray⟩) hx h3 ?_⟩
    · rw [len_tl, len_tl]; simpa using h2
    · rw [len_tl, len_tl]; exact h4
theorem cutS_cut (z : Str) (lo hi : Option Int) : L2.cutS z lo hi = ⟨(cutL (tl z) lo hi).toArray⟩ := rfl
/-- the figures, as a text -/
def figS (s : Str) : Str := ⟨(figs (tl s)).toArray⟩
theorem figs_le (l : List Nat) : (figs l).length ≤ l.length := by
  unfold figs
  split
  · simp
  · exact Nat.le_refl _
theorem fig_iff (c : Nat) : decide (c ∈ FIG.cps.toList) = decide (48 ≤ c ∧ c ≤ 57) := by
  have e : FIG.cps.toList = [48, 49, 50, 51, 52, 53, 54, 55, 56, 57] := by decide +kernel
  rw [e, Bool.eq_iff_iff, decide_eq_true_eq, decide_eq_true_eq]
  simp only [List.mem_cons, List.not_mem_nil, or_false]
  omega
theorem dig_all {l : List Nat} (h : digB l = true) : NumText.AllDigits l := fun c hc => of_decide_eq_true (List.all_eq_true.mp h c hc)
theorem int_of {s : Str} (h1 : figs (tl s) ≠ []) (h2 : digB (figs (tl s)) = true) (h3 : s.length ≤ 600) : intText? s = some (numV (tl s)) := by
  have key : ∀ l : List Nat, tl s = l → figs l ≠ [] → digB (figs l) = true → intText? s = some (numV l) := fun l e h1 h2 => by
    match l, e, h1, h2 with
    | 45 :: r, e, h1, h2 => exact PySem.intText_neg e (dig_all h2) h1 (by omega)
    | [], e, h1, h2 => exact absurd rfl h1
    | c :: r, e, h1, h2 =>
      by_cases hc : c = 45
      · subst hc
        exact PySem.intText_neg e (dig_all h2) h1 (by omega)
      · have e1 : figs (c :: r) = c :: r := by
          unfold figs
          split
          · rename_i q; injection q with q1 q2; exact absurd q1 hc
          · rfl
        have e2 : numV (c :: r) = ((NumText.digitsVal (c :: r) : Nat) : Int) := by
          unfold numV
          split
          · rename_i q; injection q with q1 q2; exact absurd q1 hc
          · rfl
        rw [e1] at h1 h2
        rw [e2, ← e]
        exact PySem.intText_digits (by rw [show s.cps.toList = c :: r from e]; exact dig_all h2) (by rw [show s.cps.toList = c :: r from e]; exact h1) (by omega)
  exact key _ rfl h1 h2
theorem digits_lt : ∀ (l : List Nat), NumText.AllDigits l → NumText.digitsVal l < 10 ^ l.length := by
  have key : ∀ (l : List Nat) (a k : Nat), NumText.AllDigits l → a < 10 ^ k → l.foldl (fun acc c => acc * 10 + (c - 48)) a < 10 ^ (k + l.length) := by
    intro l
    induction l with
    | nil => exact fun a k _ h => h
    | cons c r ih =>
      intro a k hd h
      have hc := hd.head
      have := ih (a * 10 + (c - 48)) (k + 1) hd.tail (by rw [Nat.pow_succ]; omega)
      rw [List.length_cons, show k + (r.length + 1) = k + 1 + r.length by omega]
      exact this
  intro l h
  have := key l 0 0 h (by decide)
  rwa [Nat.zero_add] at this
theorem big2 : (10 : Nat) ^ 560 ≤ 2 ^ 1920 := by decide +kernel
theorem num1_fine {s : Str} (hs : s.length ≤ 560) (k : Nat) : fine k (num1 s) = true := by
  unfold num1
  split
  · rename_i h
    refine int_fine ?_
    have hl : (figs (tl s)).length ≤ 560 := Nat.le_trans (figs_le _) (by rw [← len_tl]; exact hs)
    have hv : (numV (tl s)).natAbs = NumText.digitsVal (figs (tl s)) := by
      have key : ∀ l : List Nat, (numV l).natAbs = NumText.digitsVal (figs l) := fun l => by
        unfold numV figs
        split
        · rw [Int.natAbs_neg, Int.natAbs_natCast]
        · rw [Int.natAbs_natCast]
      exact key _
    have h1 := digits_lt _ (dig_all h.2)
    rw [← hv] at h1
    have h2 : (numV (tl s)).natAbs < 2 ^ 1920 := Nat.lt_of_lt_of_le h1 (Nat.le_trans (Nat.pow_le_pow_right (by decide) hl) big2)
    by_cases z : (numV (tl s)).natAbs = 0
    · show Nat.log2 (numV (tl s)).natAbs < 1920
      rw [z]; decide
    · exact (Nat.log2_lt z).mpr h2
  · cases k <;> rfl
theorem num2_fine {s : Str} (hs : s.length ≤ 560) (k : Nat) : fine k (num2 s) = true := by
  unfold num2
  split
  · exact num1_fine hs k
  · cases k <;> rfl
theorem okS_fine {s : Str} (h : okS s) (k : Nat) : fine k (.str s) = true := str_fine (Nat.le_trans h.1 (by decide)) h.2
end K61
end

section
set_option Elab.async false
set_option linter.all false
set_option maxRecDepth 100000
set_option maxHeartbeats 4000000
/-! what the readings of the readers do -/
namespace K61
open PySem PySem.Spec L2 TL
theorem minus : ("-" : Str) = ⟨#[45]⟩ ∧ ("0" : Str) = ⟨#[48]⟩ ∧ ("" : Str) = ⟨#[]⟩ := by decide +kernel
theorem str_list {s : Str} {l : List Nat} : s = ⟨l.toArray⟩ ↔ tl s = l := ⟨fun h => by rw [h], fun h => ext_tl h⟩
theorem ex_number_in {s : Str} {P : PyData → Prop} (f : okS s) (h : P (num1 s)) : ∃ d, C_number_in [.str s] d ∧ P d := ⟨_, ⟨s, rfl, f, rfl⟩, h⟩
theorem ex_entry_in {s : Str} {P : PyData → Prop} (f : okS s) (h : P (ent1 s)) : ∃ d, C_entry_in [.str s] d ∧ P d := ⟨_, ⟨s, rfl, f, rfl⟩, h⟩
theorem ex_content_in {s : Str} {P : PyData → Prop} (f : okS s) (h : P (cont1 s)) : ∃ d, C_content_in [.str s] d ∧ P d := ⟨_, ⟨s, rfl, f, rfl⟩, h⟩
theorem ex_law_number {s : Str} {P : PyData → Prop} (f : okS s) (h : P (num2 s)) : ∃ d, C_law_number [.str s] d ∧ P d := ⟨_, ⟨s, rfl, f, rfl⟩, h⟩
theorem ex_law_read_content {s : Str} {P : PyData → Prop} (f : okS s) (h : P (cont2 s)) : ∃ d, C_law_read_content [.str s] d ∧ P d := ⟨_, ⟨s, rfl, f, rfl⟩, h⟩
section
variable {K : PySem.W.Frag}
/-- text[1:] if text[:1] == '-' else text -/
theorem ed_figs {ρ : List En} {W : Wd} {P : PyData → Prop} {s : Str} (h0 : ρ[0]? = some (.val (.str s))) (hs : s.length ≤ 560) (p : P (.str (figS s))) :
    Ed K W (tIf (tTest (tOp rEq (tSl rSlS (tVar 0) tNoPart (tPart (tC (.int 1)))) (tC (.str "-")))) (tSl rSlS (tVar 0) (tPart (tC (.int 1))) tNoPart) (tVar 0)) ρ P := by
  have l5 : s.length ≤ 100000 := by omega
  have c1 : cutS s none (some 1) = ⟨((tl s).take 1).toArray⟩ := by
    rw [cutS_cut, show (some (1 : Int)) = some ((1 : Nat) : Int) from rfl, cut_to]
  have c2 : cutS s (some 1) none = ⟨((tl s).drop 1).toArray⟩ := by
    rw [cutS_cut, show (some (1 : Int)) = some ((1 : Nat) : Int) from rfl, cut_from]
  refine ed_if (et_tTest (ed_eq (ed_slS (ed_var h0 ⟨s, rfl, l5, eo_none (eo_some (ed_int ⟨1, rfl, ed_str ⟨rfl, _, rfl, ?_⟩⟩))⟩))))
  rw [str_eqv, c1, minus.1]
  have e0 : figS s = ⟨(figs (tl s)).toArray⟩ := rfl
  cases hq : tl s with
  | nil =>
    refine iff' (decide_eq_false fun z => by have := str_list.mpr (congrArg tl z); simp at z) (ed_var h0 ?_)
    have e : figS s = s := by rw [e0, hq]; exact (str_list.mpr hq).symm
    rw [← e]; exact p
  | cons c r =>
    by_cases hc : c = 45
    · subst hc
      refine ift (decide_eq_true rfl) (ed_slS (ed_var h0 ⟨s, rfl, l5, eo_some (ed_int ⟨1, rfl, eo_none ?_⟩)⟩))
      rw [c2, hq]
      rw [e0, hq] at p
      exact p
    · refine iff' (decide_eq_false fun z => ?_) (ed_var h0 ?_)
      · have z2 : [c] = [45] := congrArg tl z
        injection z2 with z3
        exact hc z3
      · have e1 : figs (c :: r) = c :: r := by
          unfold figs
          split
          · rename_i q; injection q with q1 q2; exact absurd q1 hc
          · rfl
        have e : figS s = s := by rw [e0, hq, e1]; exact (str_list.mpr hq).symm
        rw [← e]; exact p
def inFig : PyData → Bool
  | .str s => match s.cps.toList with
    | [c] => decide (c ∈ FIG.cps.toList)
    | _ => false
  | _ => false
theorem fig_all (s : Str) : (signs s).all inFig = digB (tl s) := by
  rw [signs_all s (fun c => decide (c ∈ FIG.cps.toList)) inFig fun c => rfl]
  unfold digB
  congr 1
  funext c
  exact fig_iff c
theorem tl_figS (s : Str) : tl (figS s) = figs (tl s) := rfl
theorem figS_le {s : Str} (h : s.length ≤ 560) : (figS s).length ≤ 560 := by
  rw [len_tl, tl_figS]
  exact Nat.le_trans (figs_le _) (by rw [← len_tl]; exact h)
theorem figS_nil (s : Str) : PyData.eqv (.str (figS s)) (.str "") = decide (figs (tl s) = []) := by
  rw [str_eqv, minus.2.2, Bool.eq_iff_iff, decide_eq_true_eq, decide_eq_true_eq]
  exact str_list
theorem se_number_in : SemD K C_number_in (t_number_in K) 1 3 := fun ds d ⟨s, e, f, hd⟩ => ⟨by rw [e] <;> rfl, by
  subst e hd
  show Sd K W0 (t_number_in K) [.val (.str s), .any, .any] _ _
  unfold t_number_in
  have hfl := figS_le f.1
  refine sd_seq (sd_asg (ed_figs rfl f.1 ?_))
  show Sd K W0 _ [.val (.str s), .val (.str (figS s)), .any] _ _
  refine sd_seq (sd_if (et_or (et_tTest (ed_eq (ed_var rfl (ed_str ⟨rfl, _, rfl, ?_⟩))))))
  rw [figS_nil]
  by_cases h1 : figs (tl s) = []
  · have e : num1 s = .none := if_neg fun z => z.1 h1
    rw [e]
    exact ift (decide_eq_true h1) (ift rfl (sd_ret (ed_non rfl)))
  · refine iff' (decide_eq_false h1) (et_or (et_tTest (ed_gt (ed_len (ed_var rfl ⟨_, rfl, Nat.le_trans hfl (by decide), ed_int ⟨_, _, rfl, rfl, _, rfl, iff' (decide_eq_false (by omega)) ?_⟩⟩)))))
    refine et_not (et_tB (ed_allLc (gs := [2]) (by decide) (ei_str (ed_var rfl ⟨figS s, rfl, by rw [signs_len]; omega, inFig, fun x hx => ?_, _, rfl, ?_⟩))))
    · obtain ⟨c, rfl⟩ := sign_at hx
      exact eg_name (ed_inC (ed_var rfl (ed_str ⟨c, _, rfl, rfl, rfl⟩)))
    · rw [fig_all, tl_figS]
      cases hd : digB (figs (tl s)) with
      | false =>
        have e : num1 s = .none := if_neg fun z => by rw [hd] at z; exact absurd z.2 Bool.false_ne_true
        rw [e]
        exact ift rfl (sd_ret (ed_non rfl))
      | true =>
        have e : num1 s = .int (numV (tl s)) := if_pos ⟨h1, hd⟩
        rw [e]
        exact iff' rfl (sd_next (sd_ret (ed_intS (ed_var rfl ⟨s, _, rfl, int_of h1 hd (by have := f.1; omega), by have := f.1; omega, rfl⟩))))⟩
theorem se_law_number : SemD K C_law_number (t_law_number K) 1 3 := fun ds d ⟨s, e, f, hd⟩ => ⟨by rw [e] <;> rfl, by
  subst e hd
  show Sd K W0 (t_law_number K) [.val (.str s), .any, .any] _ _
  unfold t_law_number
  have hfl := figS_le f.1
  refine sd_seq (sd_asg (ed_figs rfl f.1 ?_))
  show Sd K W0 _ [.val (.str s), .val (.str (figS s)), .any] _ _
  refine sd_seq (sd_if (et_or (et_tTest (ed_eq (ed_var rfl (ed_str ⟨rfl, _, rfl, ?_⟩))))))
  rw [figS_nil]
  have none_of : num1 s = .none → num2 s = .none := fun h => by
    unfold num2
    split
    · exact h
    · rfl
  by_cases h1 : figs (tl s) = []
  · rw [none_of (if_neg fun z => z.1 h1)]
    exact ift (decide_eq_true h1) (ift rfl (sd_ret (ed_non rfl)))
  · refine iff' (decide_eq_false h1) (et_tTest (ed_someLc (gs := [2]) (by decide) (ei_str (ed_var rfl ⟨figS s, rfl, by rw [signs_len]; omega, fun x => !inFig x, fun x hx => ?_, _, rfl, ?_⟩))))
    · obtain ⟨c, rfl⟩ := sign_at hx
      exact eg_name (et_tTest (ed_notInC (ed_var rfl (ed_str ⟨c, _, rfl, rfl, _, rfl, rfl⟩))))
    · rw [all_not, fig_all, tl_figS]
      cases hd : digB (figs (tl s)) with
      | false =>
        rw [none_of (if_neg fun z => by rw [hd] at z; exact absurd z.2 Bool.false_ne_true)]
        exact ift rfl (sd_ret (ed_non rfl))
      | true =>
        have e1 : num1 s = .int (numV (tl s)) := if_pos ⟨h1, hd⟩
        obtain ⟨c, r, hcr⟩ := List.exists_cons_of_ne_nil h1
        have hat : atD (.str (figS s)) 0 = some (.str ⟨#[c]⟩) := by
          show (atI (tl (figS s)) ((0 : Nat) : Int)).map _ = _
          rw [atI_nat (d := c) (by rw [tl_figS, hcr] <;> rfl)] <;> rfl
        have num : Ed K W0 (tCB qInt (tCons (tVar 0) tNil)) [.val (.str s), .val (.str (figS s)), .any] (fun r => r = num1 s) := by
          rw [e1]
          exact ed_intS (ed_var rfl ⟨s, _, rfl, int_of h1 hd (by have := f.1; omega), by have := f.1; omega, rfl⟩)
        refine iff' rfl (sd_next (sd_ret (ed_if (et_or (et_tTest (ed_ne (ed_ix (ed_var rfl (ed_int ⟨0, _, rfl, hat, fun z hz => by injection hz with hz; rw [← hz]; omega, ed_str ⟨rfl, _, rfl, ?_⟩⟩)))))))))
        rw [mark_eqv c 48 _ minus.2.1]
        by_cases hc : c = 48
        · refine iff' (by rw [decide_eq_true hc] <;> rfl) (et_tTest (ed_eq (ed_var rfl (ed_str ⟨rfl, _, rfl, ?_⟩))))
          rw [str_eqv, minus.2.1]
          by_cases hs : tl s = [48]
          · have e2 : num2 s = num1 s := if_pos (by show canon (tl s) = true; rw [hs] <;> rfl)
            rw [e2]
            exact ift (decide_eq_true (str_list.mpr hs)) num
          · have e2 : num2 s = .none := by
              refine if_neg ?_
              show ¬ canon (tl s) = true
              unfold canon
              split
              · rename_i q; exact absurd q hs
              · rw [hcr, hc]; simp
            rw [e2]
            exact iff' (decide_eq_false fun z => hs (str_list.mp z)) (ed_non rfl)
        · have e2 : num2 s = num1 s := by
            refine if_pos ?_
            show canon (tl s) = true
            unfold canon
            split
            · rfl
            · rw [hcr]; simp [hc]
          rw [e2]
          exact ift (by rw [decide_eq_false hc] <;> rfl) num⟩
theorem se_entry_in : SemD K C_entry_in (t_entry_in K) 1 4 := fun ds d ⟨s, e, f, hd⟩ => ⟨by rw [e] <;> rfl, by
  subst e hd
  show Sd K W0 (t_entry_in K) [.val (.str s), .any, .any, .any] _ _
  unfold t_entry_in
  have hp := part_ok (x := s) sepE f ⟨by decide +kernel, by decide +kernel⟩
  refine sd_seq (sd_asgG (gs := [1, 2, 3]) (ed_part (ed_var rfl ⟨s, rfl, ed_str ⟨_, rfl, sepE.l, Nat.le_trans f.1 (by decide), eg_tup3 ?_⟩⟩)))
  exact sd_ret (ed_tup (ea_cons (ed_var rfl (ea_cons (ed_call (ea_cons (ed_var rfl (ea_nil (ex_number_in hp.2.2 (ea_nil ⟨by simp, rfl⟩))))))))))⟩
end
end K61
end

section
set_option Elab.async false
set_option linter.all false
set_option maxRecDepth 100000
set_option maxHeartbeats 4000000
namespace K61
open PySem PySem.Spec L2 TL
theorem ent1_fine {s : Str} (h : okS s) : fine 1 (ent1 s) = true := by
  have hp := part_ok (x := s) sepE h ⟨by decide +kernel, by decide +kernel⟩
  refine tup_fine (by simp) fun x hx => ?_
  simp only [List.mem_cons, List.not_mem_nil, or_false] at hx
  rcases hx with rfl | rfl
  · exact okS_fine hp.1 0
  · exact num1_fine hp.2.2.1 0
theorem ent2_fine {s : Str} (h : okS s) : fine 1 (ent2 s) = true := by
  obtain ⟨h1, h2, h3⟩ := split_ok (x := s) sepE h
  unfold ent2
  split
  · rename_i a b e
    rw [e] at h1
    refine tup_fine (by simp) fun x hx => ?_
    simp only [List.mem_cons, List.not_mem_nil, or_false] at hx
    rcases hx with rfl | rfl
    · exact okS_fine (h1 a (by simp)) 0
    · exact num2_fine (h1 b (by simp)).1 0
  · refine tup_fine (by simp) fun x hx => ?_
    simp only [List.mem_cons, List.not_mem_nil, or_false] at hx
    rcases hx with rfl | rfl
    · cases hq : Txt.split s "=" with
      | nil => exact absurd hq h3
      | cons a r => exact okS_fine (h1 a (by rw [hq]; simp)) 0
    · rfl
theorem up3 {x : PyData} (h : fine 0 x = true) : fine 3 x = true := fine_up _ _ (fine_up _ _ (fine_up _ _ h))
theorem up2 {x : PyData} (h : fine 0 x = true) : fine 2 x = true := fine_up _ _ (fine_up _ _ h)
theorem cont1_fine {s : Str} (h : okS s) : fine 3 (cont1 s) = true := by
  obtain ⟨h1, h2, h3⟩ := split_ok (x := s) sepL h
  unfold cont1
  split
  · rfl
  · split
    · rename_i a b c e
      rw [e] at h1
      refine tup_fine (by simp) fun x hx => ?_
      simp only [List.mem_cons, List.not_mem_nil, or_false] at hx
      rcases hx with rfl | rfl | rfl
      · exact up2 (okS_fine (h1 _ (by simp)) 0)
      · obtain ⟨g1, g2, g3⟩ := split_ok (x := b) sepC (h1 b (by simp))
        split
        · rfl
        · refine tup_fine (by rw [List.length_map]; omega) fun y hy => ?_
          obtain ⟨p, hp, rfl⟩ := List.mem_map.mp hy
          exact ent1_fine (g1 p hp)
      · split
        · rfl
        · exact num1_fine (h1 c (by simp)).1 2
    · exact okS_fine h 3
theorem fol2_fine {c : Str} (h : okS c) (k : Nat) : fine k (fol2 c) = true := by
  have hf := num2_fine h.1 k
  unfold fol2
  split
  · cases k <;> rfl
  · split
    · rename_i i e
      rw [e] at hf
      exact hf
    · exact int_fine (by decide)
theorem cont2_fine {s : Str} (h : okS s) : fine 3 (cont2 s) = true := by
  obtain ⟨h1, h2, h3⟩ := split_ok (x := s) sepL h
  unfold cont2
  split
  · rfl
  · split
    · rename_i a b c e
      rw [e] at h1
      refine tup_fine (by simp) fun x hx => ?_
      simp only [List.mem_cons, List.not_mem_nil, or_false] at hx
      rcases hx with rfl | rfl | rfl
      · exact up2 (okS_fine (h1 _ (by simp)) 0)
      · obtain ⟨g1, g2, g3⟩ := split_ok (x := b) sepC (h1 b (by simp))
        split
        · rfl
        · refine tup_fine (by rw [List.length_map]; omega) fun y hy => ?_
          obtain ⟨p, hp, rfl⟩ := List.mem_map.mp hy
          exact ent2_fine (g1 p hp)
      · exact fol2_fine (h1 c (by simp)) 2
    · exact int_fine (by decide)
section
variable {K : PySem.W.Frag}
theorem ix_lst0 {ds : List PyData} {d : PyData} {P : PyData → Prop} (h : ds[0]? = some d) (p : P d) : ∃ i d', PyData.int 0 = .int i ∧ atD (.list ds) i = some d' ∧ (∀ s, PyData.list ds = .str s → s.length ≤ 100000) ∧ P d' := ix_lst (n := 0) h p
theorem ix_lst1 {ds : List PyData} {d : PyData} {P : PyData → Prop} (h : ds[1]? = some d) (p : P d) : ∃ i d', PyData.int 1 = .int i ∧ atD (.list ds) i = some d' ∧ (∀ s, PyData.list ds = .str s → s.length ≤ 100000) ∧ P d' := ix_lst (n := 1) h p
theorem ix_lst2 {ds : List PyData} {d : PyData} {P : PyData → Prop} (h : ds[2]? = some d) (p : P d) : ∃ i d', PyData.int 2 = .int i ∧ atD (.list ds) i = some d' ∧ (∀ s, PyData.list ds = .str s → s.length ≤ 100000) ∧ P d' := ix_lst (n := 2) h p
theorem ix_lst3 {ds : List PyData} {d : PyData} {P : PyData → Prop} (h : ds[3]? = some d) (p : P d) : ∃ i d', PyData.int 3 = .int i ∧ atD (.list ds) i = some d' ∧ (∀ s, PyData.list ds = .str s → s.length ≤ 100000) ∧ P d' := ix_lst (n := 3) h p
theorem ix_lst4 {ds : List PyData} {d : PyData} {P : PyData → Prop} (h : ds[4]? = some d) (p : P d) : ∃ i d', PyData.int 4 = .int i ∧ atD (.list ds) i = some d' ∧ (∀ s, PyData.list ds = .str s → s.length ≤ 100000) ∧ P d' := ix_lst (n := 4) h p
theorem ed_neg {ρ : List En} {W : Wd} {ta : TE} {P : PyData → Prop} (h : Ed K W ta ρ fun x => ∃ i, x = .int i ∧ P (.int (-i))) : Ed K W (tUn qNeg ta) ρ P := fun W' l σ H Q iv e q =>
  h W' l σ H _ iv e fun x vx H1 x1 r1 ⟨i, hx, p⟩ => by
    subst hx
    cases r1
    exact ⟨i, rfl, q _ _ H1 x1 (.int _) p⟩
theorem map_E {f : Str → PyData} {F : PyData → PyData} (h : ∀ s, F (.str s) = f s) (l : List Str) : (l.map PyData.str).map F = l.map f := by
  rw [List.map_map]
  congr 1
  funext s
  exact h s
theorem mem_str {l : List Str} {x : PyData} (h : x ∈ l.map PyData.str) : ∃ s, x = .str s ∧ s ∈ l := by
  obtain ⟨s, hs, rfl⟩ := List.mem_map.mp h
  exact ⟨s, rfl, hs⟩
def E1 : PyData → PyData
  | .str s => ent1 s
  | _ => .none
def N1 : PyData → PyData
  | .str s => num1 s
  | _ => .none
def N2 : PyData → PyData
  | .str s => num2 s
  | _ => .none
def Cn1 : PyData → PyData
  | .str s => cont1 s
  | _ => .none
def E2 : PyData → PyData
  | .str s => ent2 s
  | _ => .none
theorem len_list (l : List Str) (n : Nat) : PyData.eqv (.int (((l.map PyData.str).length : Nat) : Int)) (.int (n : Int)) = decide (l.length = n) := by
  rw [List.length_map, len_eqv]
theorem se_content_in : SemD K C_content_in (t_content_in K) 1 4 := fun ds d ⟨s, e, f, hd⟩ => ⟨by rw [e] <;> rfl, by
  subst e hd
  show Sd K W0 (t_content_in K) [.val (.str s), .any, .any, .any] _ _
  unfold t_content_in
  obtain ⟨h1, h2, h3⟩ := split_ok (x := s) sepL f
  have hz : ((Txt.split s "/").map PyData.str).length ≤ sizeLine := by rw [List.length_map]; exact Nat.le_trans h2 (by decide)
  refine sd_seq (sd_asg (ed_split (ed_var rfl ⟨s, rfl, ed_str ⟨_, rfl, sepL.l, ?_, ?_⟩⟩)))
  · exact Nat.le_trans (Nat.add_le_add_right f.1 2) (by decide)
  refine sd_seq (sd_if (et_tTest (ed_eq (ed_var rfl (ed_str ⟨rfl, _, rfl, ?_⟩)))))
  rw [str_eqv]
  by_cases hm : s = "-"
  · have e : cont1 s = .none := if_pos hm
    rw [e]
    exact ift (decide_eq_true hm) (sd_ret (ed_non rfl))
  refine iff' (decide_eq_false hm) (sd_next (sd_seq (sd_if (et_tTest (ed_ne (ed_len (ed_var rfl ⟨_, rfl, hz, ed_int ⟨rfl, _, rfl, ?_⟩⟩)))))))
  rw [show (PyData.eqv (.int ((((Txt.split s "/").map PyData.str).length : Nat) : Int)) (.int 3)) = decide ((Txt.split s "/").length = 3) from len_list _ 3]
  by_cases hn : (Txt.split s "/").length = 3
  · obtain ⟨a, b, c, hq⟩ : ∃ a b c, Txt.split s "/" = [a, b, c] := by
      match Txt.split s "/", hn with
      | [a, b, c], _ => exact ⟨a, b, c, rfl⟩
    have e : cont1 s = .tuple [.str a, .tuple (if b = Str.empty then [] else (Txt.split b ",").map ent1), if c = "-" then .none else num1 c] := by
      unfold cont1
      rw [if_neg hm, hq]
    rw [e, hq]
    rw [hq] at h1
    refine iff' rfl (sd_next (sd_seq (sd_asg (ed_if (et_tTest (ed_ne (ed_ix (ed_var rfl (ed_int (ix_lst1 rfl (ed_str ⟨rfl, _, rfl, ?_⟩)))))))))))
    rw [show PyData.eqv (.str b) (.str "") = decide (b = Str.empty) from str_beq_empty b]
    have last : ∀ (y : PyData), Sd K W0 (tRet (tTup (tCons (tOp (rIx K) (tVar 1) (tC (.int 0))) (tCons (tVar 2) (tCons (tIf (tTest (tOp rEq (tOp (rIx K) (tVar 1) (tC (.int 2))) (tC (.str "-")))) (tC .non) (tCall (sp_number_in K) [] E0 (tCons (tOp (rIx K) (tVar 1) (tC (.int 2))) tNil))) tNil)))))
        [.val (.str s), .val (.list ([a, b, c].map .str)), .val y, .any] (fun _ => False) (fun r => r = .tuple [.str a, y, if c = "-" then .none else num1 c]) := fun y => by
      refine sd_ret (ed_tup (ea_cons (ed_ix (ed_var rfl (ed_int (ix_lst0 rfl (ea_cons (ed_var rfl (ea_cons (ed_if (et_tTest (ed_eq (ed_ix (ed_var rfl (ed_int (ix_lst2 rfl (ed_str ⟨rfl, _, rfl, ?_⟩)))))))))))))))))
      rw [str_eqv]
      by_cases hc : c = "-"
      · rw [if_pos hc]
        exact ift (decide_eq_true hc) (ed_non (ea_nil ⟨by simp, rfl⟩))
      · rw [if_neg hc]
        exact iff' (decide_eq_false hc) (ed_call (ea_cons (ed_ix (ed_var rfl (ed_int (ix_lst2 rfl (ea_nil (ex_number_in (h1 c (by simp)) (ea_nil ⟨by simp, rfl⟩)))))))))
    by_cases hb : b = Str.empty
    · rw [if_pos hb]
      exact iff' (by rw [decide_eq_true hb] <;> rfl) (ed_tup (ea_nil ⟨by simp, (last (.tuple [])).mono (fun _ z => z.elim) fun _ z => z⟩))
    · rw [if_neg hb]
      obtain ⟨g1, g2, g3⟩ := split_ok (x := b) sepC (h1 b (by simp))
      refine ift (by rw [decide_eq_false hb] <;> rfl) (ed_tupOf (ed_map (gs := [3]) (by decide) (ei_list (ed_split (ed_ix (ed_var rfl (ed_int (ix_lst1 rfl ⟨b, rfl, ed_str ⟨_, rfl, sepC.l, ?_, _, rfl, by rw [List.length_map]; omega, E1, fun x hx => ?_, _, rfl, ?_⟩⟩))))))))
      · exact Nat.le_trans (Nat.add_le_add_right (h1 b (by simp)).1 2) (by decide)
      · obtain ⟨p, rfl, hp⟩ := mem_str hx
        exact eg_name (ed_call (ea_cons (ed_var rfl (ea_nil (ex_entry_in (g1 p hp) rfl)))))
      · rw [map_E (f := ent1) (fun _ => rfl)]
        exact (last (.tuple ((Txt.split b ",").map ent1))).mono (fun _ z => z.elim) fun _ z => z
  · have e : cont1 s = .str s := by
      unfold cont1
      rw [if_neg hm]
      split
      · rename_i q; rw [q] at hn; exact absurd rfl hn
      · rfl
    rw [e]
    exact ift (by rw [decide_eq_false hn] <;> rfl) (sd_ret (ed_var rfl rfl))⟩
theorem fed_one (f : PyData → PyData) (ds : List PyData) : fed (fun _ x => [f x]) ds = ds.map f := by
  have key : ∀ (l : List PyData) (k : Nat), ((l.zipIdx k).map fun p => (fun (_ : Nat) x => [f x]) p.2 p.1).flatten = l.map f := by
    intro l
    induction l with
    | nil => exact fun _ => rfl
    | cons x r ih =>
      intro k
      show [f x] ++ ((r.zipIdx (k + 1)).map _).flatten = _
      rw [ih (k + 1)] <;> rfl
  exact key ds 0
theorem se_law_read_content : SemD K C_law_read_content (t_law_read_content K) 1 6 := fun ds d ⟨s, e, f, hd⟩ => ⟨by rw [e] <;> rfl, by
  subst e hd
  show Sd K W0 (t_law_read_content K) [.val (.str s), .any, .any, .any, .any, .any] _ _
  unfold t_law_read_content
  obtain ⟨h1, h2, h3⟩ := split_ok (x := s) sepL f
  have hz : ((Txt.split s "/").map PyData.str).length ≤ sizeLine := by rw [List.length_map]; exact Nat.le_trans h2 (by decide)
  refine sd_seq (sd_asg (ed_split (ed_var rfl ⟨s, rfl, ed_str ⟨_, rfl, sepL.l, ?_, ?_⟩⟩)))
  · exact Nat.le_trans (Nat.add_le_add_right f.1 2) (by decide)
  refine sd_seq (sd_if (et_or (et_tTest (ed_eq (ed_var rfl (ed_str ⟨rfl, _, rfl, ?_⟩))))))
  rw [str_eqv]
  by_cases hm : s = "-"
  · have e : cont2 s = .none := if_pos hm
    rw [e]
    exact ift (decide_eq_true hm) (ift rfl (sd_ret (ed_if (et_tTest (ed_eq (ed_var rfl (ed_str ⟨rfl, _, rfl, ift (by rw [str_eqv]; exact decide_eq_true hm) (ed_non rfl)⟩)))))))
  refine iff' (decide_eq_false hm) (et_tTest (ed_ne (ed_len (ed_var rfl ⟨_, rfl, hz, ed_int ⟨rfl, _, rfl, ?_⟩⟩))))
  rw [show (PyData.eqv (.int ((((Txt.split s "/").map PyData.str).length : Nat) : Int)) (.int 3)) = decide ((Txt.split s "/").length = 3) from len_list _ 3]
  by_cases hn : (Txt.split s "/").length = 3
  · obtain ⟨a, b, c, hq⟩ : ∃ a b c, Txt.split s "/" = [a, b, c] := by
      match Txt.split s "/", hn with
      | [a, b, c], _ => exact ⟨a, b, c, rfl⟩
    have e : cont2 s = .tuple [.str a, .tuple (if b = Str.empty then [] else (Txt.split b ",").map ent2), fol2 c] := by
      unfold cont2
      rw [if_neg hm, hq]
    rw [e, hq]
    rw [hq] at h1
    have okb := h1 b (by simp)
    have okc := h1 c (by simp)
    refine iff' rfl (sd_next ?_)
    refine sd_build (gs := [3]) (by simp) (by decide) (Ei.mono (P := fun ds => ∃ ws : List Str, ds = ws.map .str ∧ ws.length ≤ 561 ∧ (∀ p ∈ ws, okS p) ∧ ds.map E2 = (if b = Str.empty then [] else (Txt.split b ",").map ent2)) (ei_list (ed_if (et_tTest (ed_ne (ed_ix (ed_var rfl (ed_int (ix_lst1 rfl (ed_str ⟨rfl, _, rfl, ?_⟩))))))))) ?_)
    · rw [show PyData.eqv (.str b) (.str "") = decide (b = Str.empty) from str_beq_empty b]
      by_cases hb : b = Str.empty
      · rw [if_pos hb]
        exact iff' (by rw [decide_eq_true hb] <;> rfl) (ed_lst (ea_nil ⟨by simp, _, rfl, [], rfl, by simp, (by intro p h; cases h), rfl⟩))
      · rw [if_neg hb]
        obtain ⟨g1, g2, g3⟩ := split_ok (x := b) sepC okb
        refine ift (by rw [decide_eq_false hb] <;> rfl) (ed_split (ed_ix (ed_var rfl (ed_int (ix_lst1 rfl ⟨b, rfl, ed_str ⟨_, rfl, sepC.l, ?_, _, rfl, _, rfl, g2, g1, map_E (fun _ => rfl) _⟩⟩)))))
        exact Nat.le_trans (Nat.add_le_add_right okb.1 2) (by decide)
    · rintro ds ⟨ws, rfl, hw1, hw2, hw3⟩
      refine ⟨by rw [List.length_map]; omega, fun i ρ' => ∃ n m, ρ' = [.val (.str s), .val (.list ([a, b, c].map .str)), .any, n, m, .any], fun _ x => [E2 x], fun _ _ => by simp, ⟨.any, .any, rfl⟩, ?_, ?_⟩
      · rintro i x ρ' hx ⟨n, m, rfl⟩
        obtain ⟨p, rfl, hp⟩ := mem_str (List.mem_of_getElem? hx)
        obtain ⟨k1, k2, k3⟩ := split_ok (x := p) sepE (hw2 p hp)
        have hzp : ((Txt.split p "=").map PyData.str).length ≤ sizeLine := by rw [List.length_map]; exact Nat.le_trans k2 (by decide)
        refine eg_name (sb_asgThen (by decide) (ed_split (ed_var rfl ⟨p, rfl, ed_str ⟨_, rfl, sepE.l, Nat.le_trans (Nat.add_le_add_right (hw2 p hp).1 2) (by decide), ?_⟩⟩)))
        match hs : Txt.split p "=", k3 with
        | [], k3 => exact absurd rfl k3
        | [x0], _ =>
          have e3 : ent2 p = .tuple [.str x0, .none] := by unfold ent2; rw [hs] <;> rfl
          exact sb_app (ed_tup (ea_cons (ed_ix (ed_var rfl (ed_int (ix_lst0 rfl (ea_cons (ed_if (et_tTest (ed_eq (ed_len (ed_var rfl ⟨_, rfl, by rw [hs] at hzp; exact hzp, ed_int ⟨rfl, _, rfl, iff' rfl (ed_non (ea_nil ⟨by simp, congrArg (fun z => [z]) e3.symm, _, _, rfl⟩))⟩⟩))))))))))))
        | [x0, x1], _ =>
          have e3 : ent2 p = .tuple [.str x0, num2 x1] := by unfold ent2; rw [hs]
          rw [hs] at k1
          exact sb_app (ed_tup (ea_cons (ed_ix (ed_var rfl (ed_int (ix_lst0 rfl (ea_cons (ed_if (et_tTest (ed_eq (ed_len (ed_var rfl ⟨_, rfl, by rw [hs] at hzp; exact hzp, ed_int ⟨rfl, _, rfl, ift rfl (ed_call (ea_cons (ed_ix (ed_var rfl (ed_int (ix_lst1 (d := .str x1) rfl (ea_nil (ex_law_number (k1 x1 (by simp)) (ea_nil ⟨by simp, congrArg (fun z => [z]) e3.symm, _, _, rfl⟩)))))))))⟩⟩))))))))))))
        | x0 :: x1 :: x2 :: r, _ =>
          have e3 : ent2 p = .tuple [.str x0, .none] := by unfold ent2; rw [hs] <;> rfl
          rw [hs] at hzp
          have hne : PyData.eqv (.int ((((x0 :: x1 :: x2 :: r).map PyData.str).length : Nat) : Int)) (.int 2) = false := by
            rw [show (PyData.eqv (.int ((((x0 :: x1 :: x2 :: r).map PyData.str).length : Nat) : Int)) (.int 2)) = decide ((x0 :: x1 :: x2 :: r).length = 2) from len_list _ 2]
            exact decide_eq_false (by simp only [List.length_cons]; omega)
          exact sb_app (ed_tup (ea_cons (ed_ix (ed_var rfl (ed_int (ix_lst0 rfl (ea_cons (ed_if (et_tTest (ed_eq (ed_len (ed_var rfl ⟨_, rfl, hzp, ed_int ⟨rfl, _, rfl, iff' hne (ed_non (ea_nil ⟨by simp, congrArg (fun z => [z]) e3.symm, _, _, rfl⟩))⟩⟩))))))))))))
      · rintro ρ' ⟨n, m, rfl⟩
        rw [fed_one, hw3]
        show Sd K W0 _ [.val (.str s), .val (.list ([a, b, c].map .str)), .val (.list (if b = Str.empty then [] else (Txt.split b ",").map ent2)), n, m, .any] _ _
        refine sd_seq (sd_asg (ed_call (ea_cons (ed_ix (ed_var rfl (ed_int (ix_lst2 rfl (ea_nil (ex_law_number okc ?_)))))))))
        refine sd_ret (ed_tup (ea_cons (ed_ix (ed_var rfl (ed_int (ix_lst0 rfl (ea_cons (ed_tupOf (ed_var rfl ⟨_, rfl, ea_cons (ed_if (et_tTest (ed_eq (ed_ix (ed_var rfl (ed_int (ix_lst2 rfl (ed_str ⟨rfl, _, rfl, ?_⟩))))))))⟩)))))))))
        rw [str_eqv]
        by_cases hc : c = "-"
        · have e2 : fol2 c = .none := if_pos hc
          rw [e2]
          exact ift (decide_eq_true hc) (ed_non (ea_nil ⟨by simp, rfl⟩))
        · refine iff' (decide_eq_false hc) (ed_if (et_tTest (ed_isN (ed_var rfl ⟨_, rfl, ?_⟩))))
          have e2 : fol2 c = (match num2 c with | .int i => .int i | _ => .int (-1)) := if_neg hc
          rw [e2]
          have hn2 : num2 c = .none ∨ ∃ i, num2 c = .int i := by
            unfold num2 num1
            split
            · split
              · exact .inr ⟨_, rfl⟩
              · exact .inl rfl
            · exact .inl rfl
          rcases hn2 with hn2 | ⟨i, hn2⟩
          · rw [hn2]
            exact ift rfl (ed_neg (ed_int ⟨1, rfl, ea_nil ⟨by simp, rfl⟩⟩))
          · rw [hn2]
            exact iff' rfl (ed_var rfl (ea_nil ⟨by simp, rfl⟩))
  · have e : cont2 s = .int 0 := by
      unfold cont2
      rw [if_neg hm]
      split
      · rename_i q; rw [q] at hn; exact absurd rfl hn
      · rfl
    rw [e]
    exact ift (by rw [decide_eq_false hn] <;> rfl) (sd_ret (ed_if (et_tTest (ed_eq (ed_var rfl (ed_str ⟨rfl, _, rfl, iff' (by rw [str_eqv]; exact decide_eq_false hm) (ed_int rfl)⟩))))))⟩
end
end K61
end

section
set_option Elab.async false
set_option linter.all false
set_option maxRecDepth 100000
set_option maxHeartbeats 4000000
namespace K61
open PySem PySem.Spec L2 TL
theorem up4 {x : PyData} (h : fine 3 x = true) : fine 4 x = true := fine_up _ _ h
theorem okS4 {s : Str} (h : okS s) : fine 4 (.str s) = true := okS_fine h 4
theorem mem_nums {ps : List Str} (h : ∀ p ∈ ps, okS p) {m n : Nat} {x : PyData} (hx : x ∈ ((ps.map num1).drop m).take n) (k : Nat) : fine k x = true := by
  obtain ⟨p, hp, rfl⟩ := List.mem_map.mp (List.mem_of_mem_drop (List.mem_of_mem_take hx))
  exact num1_fine (h p hp).1 k
theorem getD_ok {ps : List Str} (h : ∀ p ∈ ps, okS p) (n : Nat) : okS (ps.getD n Str.empty) := by
  rw [List.getD_eq_getElem?_getD]
  cases q : ps[n]? with
  | none => exact okS_empty
  | some p => exact h p (List.mem_of_getElem? q)
theorem headD_ok {ps : List Str} (h : ∀ p ∈ ps, okS p) : okS (ps.headD Str.empty) := by
  cases ps with
  | nil => exact okS_empty
  | cons p r => exact h p List.mem_cons_self
theorem rowP_fine {s : Str} (hs : okS s) : fine 5 (rowP s) = true ∧ (rowP s = .none ∨ ∃ xs, rowP s = .tuple xs) := by
  obtain ⟨h1, h2, h3⟩ := split_ok (x := s) sepS hs
  unfold rowP
  simp only []
  generalize Txt.split s " " = ps at h1 h2 h3
  split
  · refine ⟨tup_fine ?_ fun x hx => ?_, .inr ⟨_, rfl⟩⟩
    · simp only [List.length_cons, List.length_append, List.length_take, List.length_drop, List.length_map]; omega
    · rcases List.mem_cons.mp hx with e | hx
      · rw [e]; exact okS4 (headD_ok h1)
      rcases List.mem_append.mp hx with hx | hx
      · exact mem_nums h1 hx 4
      · obtain ⟨p, hp, rfl⟩ := List.mem_map.mp hx
        exact up4 (cont1_fine (h1 p (List.mem_of_mem_drop hp)))
  · split
    · refine ⟨tup_fine ?_ fun x hx => ?_, .inr ⟨_, rfl⟩⟩
      · simp only [List.length_cons, List.length_append, List.length_take, List.length_drop, List.length_map, List.length_nil]; omega
      · rcases List.mem_cons.mp hx with e | hx
        · rw [e]; exact okS4 (headD_ok h1)
        rcases List.mem_append.mp hx with hx | hx
        · exact mem_nums h1 hx 4
        · rw [List.mem_singleton.mp hx]
          refine tup_fine ?_ fun y hy => ?_
          · simp only [List.length_cons, List.length_drop, List.length_map]; omega
          · rcases List.mem_cons.mp hy with e | hy
            · rw [e]; exact okS_fine (getD_ok h1 3) 3
            rcases List.mem_cons.mp hy with e | hy
            · rw [e]; exact okS_fine (getD_ok h1 4) 3
            · obtain ⟨p, hp, rfl⟩ := List.mem_map.mp (List.mem_of_mem_drop hy)
              exact num1_fine (h1 p hp).1 3
    · split
      · refine ⟨tup_fine (by simp) fun x hx => ?_, .inr ⟨_, rfl⟩⟩
        simp only [List.mem_cons, List.not_mem_nil, or_false] at hx
        rcases hx with rfl | rfl | rfl
        · exact okS4 (headD_ok h1)
        · exact num1_fine (getD_ok h1 1).1 4
        · exact okS4 (getD_ok h1 2)
      · split
        · refine ⟨tup_fine ?_ fun x hx => ?_, .inr ⟨_, rfl⟩⟩
          · simp only [List.length_cons, List.length_drop, List.length_map]; omega
          · rcases List.mem_cons.mp hx with e | hx
            · rw [e]; exact okS4 (headD_ok h1)
            · obtain ⟨p, hp, rfl⟩ := List.mem_map.mp (List.mem_of_mem_drop hx)
              exact num1_fine (h1 p hp).1 4
        · exact ⟨rfl, .inl rfl⟩
theorem put2_len (ps : List Str) (i : Nat) (w : Str) : (put2 ps i w).length ≤ 1 := by
  unfold put2
  simp only []
  repeat' split
  all_goals simp
theorem put2_fine {ps : List Str} (h : ∀ p ∈ ps, okS p) (hl : ps.length ≤ 561) (i : Nat) {w : Str} (hw : okS w) : ∀ x ∈ put2 ps i w, fine 4 x = true := by
  unfold put2
  simp only []
  intro x hx
  split at hx
  · rw [List.mem_singleton.mp hx]; exact up4 (cont2_fine hw)
  · split at hx
    · rw [List.mem_singleton.mp hx]
      refine tup_fine ?_ fun y hy => ?_
      · simp only [List.length_cons, List.length_append, List.length_take, List.length_drop, List.length_map]; omega
      · rcases List.mem_cons.mp hy with e | hy
        · rw [e]; exact okS_fine hw 3
        rcases List.mem_append.mp hy with hy | hy
        · obtain ⟨p, hp, rfl⟩ := List.mem_map.mp hy
          exact okS_fine (h p (List.mem_of_mem_drop (List.mem_of_mem_take hp))) 3
        · obtain ⟨p, hp, rfl⟩ := List.mem_map.mp hy
          exact num2_fine (h p (List.mem_of_mem_drop hp)).1 3
    · split at hx
      · rw [List.mem_singleton.mp hx]
        split
        · exact num2_fine hw.1 4
        · exact okS4 hw
      · cases hx
theorem flat_len1 {l : List (List PyData)} (h : ∀ x ∈ l, x.length ≤ 1) : l.flatten.length ≤ l.length := by
  induction l with
  | nil => exact Nat.le_refl _
  | cons x r ih =>
    rw [List.flatten_cons, List.length_append, List.length_cons]
    have h1 := h x List.mem_cons_self
    have h2 := ih fun y hy => h y (List.mem_cons_of_mem _ hy)
    omega
theorem rowQ_fine {s : Str} (hs : okS s) : fine 5 (rowQ s) = true := by
  obtain ⟨h1, h2, h3⟩ := split_ok (x := s) sepS hs
  unfold rowQ
  refine tup_fine ?_ fun x hx => ?_
  · refine Nat.le_trans (flat_len1 fun x hx => ?_) (by rw [List.length_map, List.length_zipIdx]; omega)
    obtain ⟨p, hp, rfl⟩ := List.mem_map.mp hx
    exact put2_len _ _ _
  · obtain ⟨l, hl, hx⟩ := List.mem_flatten.mp hx
    obtain ⟨p, hp, rfl⟩ := List.mem_map.mp hl
    obtain ⟨w, i⟩ := p
    have := List.mem_zipIdx hp
    exact put2_fine h1 h2 i (h1 w (List.mem_of_getElem? (List.mem_zipIdx_iff_getElem?.mp hp))) x hx
section
variable {K : PySem.W.Frag}
theorem ed_mid {ρ : List En} {W : Wd} {te : TE} {P : PyData → Prop} {m n : Nat} {ds : List PyData} {i j : Int} (hi : i = (m : Int)) (hj : j = (n : Int)) (h : Ed K W te ρ fun x => x = .list ds) (p : P (.list ((ds.drop m).take (n - m)))) : Ed K W (tSl (rSlL K) te (tPart (tC (.int i))) (tPart (tC (.int j)))) ρ P :=
  ed_slL (h.mono fun x hx => ⟨ds, hx, eo_some (ed_int ⟨i, rfl, eo_some (ed_int ⟨j, rfl, by rw [hi, hj, cut_mid]; exact p⟩)⟩)⟩)
theorem ed_tail {ρ : List En} {W : Wd} {te : TE} {P : PyData → Prop} {m : Nat} {ds : List PyData} {i : Int} (hi : i = (m : Int)) (h : Ed K W te ρ fun x => x = .list ds) (p : P (.list (ds.drop m))) : Ed K W (tSl (rSlL K) te (tPart (tC (.int i))) tNoPart) ρ P :=
  ed_slL (h.mono fun x hx => ⟨ds, hx, eo_some (ed_int ⟨i, rfl, eo_none (by rw [hi, cut_from]; exact p)⟩)⟩)
theorem nums_list (l : List Str) : (l.map PyData.str).map N1 = l.map num1 := map_E (fun _ => rfl) l
/-- the last row of row_in -/
theorem row_fin {s : Str} {ρ : List En} {d : PyData} (hs : okS s) (h0 : ρ[0]? = some (.val (.str s))) (h4 : ρ[4]? = some (.val d)) (hd : d = rowP s) {N : List En → Prop} :
    Sd K W0 (tRet (tIf (tAnd (tTest (tOp qNotN (tVar 4) (tC .non))) (tAnd (tB (tCall (sp_is_row_value K) [] E0 (tCons (tVar 4) tNil))) (tTest (tOp rEq (tCall (sp_text_of_row K) [] E0 (tCons (tVar 4) tNil)) (tVar 0))))) (tVar 4) (tC .non))) ρ N (fun r => r = read1 s) := by
  obtain ⟨hf, hk⟩ := rowP_fine hs
  rw [← hd] at hf hk
  have e : read1 s = if rowD d = true ∧ rowT d = s then d else .none := by rw [hd] <;> rfl
  rw [e]
  refine sd_ret (ed_if (et_and (et_tTest (ed_notN (ed_var h4 ⟨_, rfl, ?_⟩)))))
  rcases hk with rfl | ⟨xs, rfl⟩
  · exact iff' rfl (iff' rfl (ed_non (by rw [if_neg (fun z => nomatch z.1)])))
  · refine ift rfl (et_and (et_tB (ed_call (ea_cons (ed_var h4 (ea_nil (ex_is_row_value hf ⟨_, rfl, ?_⟩)))))))
    cases hr : rowD (.tuple xs) with
    | false => exact iff' rfl (iff' rfl (ed_non (by rw [if_neg (fun z => Bool.false_ne_true z.1)])))
    | true =>
      refine ift rfl (et_tTest (ed_eq (ed_call (ea_cons (ed_var h4 (ea_nil (ex_text_of_row hf hr (ed_var h0 ⟨rfl, _, rfl, ?_⟩))))))))
      rw [str_eqv]
      by_cases ht : rowT (.tuple xs) = s
      · exact ift (decide_eq_true ht) (ed_var h4 (if_pos ⟨rfl, ht⟩).symm)
      · exact iff' (decide_eq_false ht) (ed_non (if_neg (fun z => ht z.2)).symm)
theorem se_row_in (tN : ∀ H : Hp, SqT K H (He.ga K "NUMBERED") [.str "page", .str "unpage"]) : SemD K C_row_in (t_row_in K) 1 5 := fun ds d ⟨s, e, f, hd⟩ => ⟨by rw [e] <;> rfl, by
  subst e hd
  show Sd K W0 (t_row_in K) [.val (.str s), .any, .any, .any, .any] _ _
  unfold t_row_in
  obtain ⟨h1, h2, h3⟩ := split_ok (x := s) sepS f
  have hz : ((Txt.split s " ").map PyData.str).length ≤ sizeLine := by rw [List.length_map]; exact Nat.le_trans h2 (by decide)
  refine sd_seq (sd_asg (ed_split (ed_var rfl ⟨s, rfl, ed_str ⟨_, rfl, sepS.l, Nat.le_trans (Nat.add_le_add_right f.1 2) (by decide), ?_⟩⟩)))
  refine sd_seq (sd_asg (ed_map (gs := [3]) (by decide) (ei_list (ed_var rfl ⟨_, rfl, by rw [List.length_map]; omega, N1, fun x hx => ?_, ?_⟩))))
  · obtain ⟨p, rfl, hp⟩ := mem_str hx
    exact eg_name (ed_call (ea_cons (ed_var rfl (ea_nil (ex_number_in (h1 p hp) rfl)))))
  rw [nums_list]
  refine sd_seq (sd_asg (ed_non ?_))
  have hR : rowP s = rowP s := rfl
  generalize hps : Txt.split s " " = ps at h1 h2 h3 hz
  cases ps with
  | nil => exact absurd rfl h3
  | cons h r =>
    show Sd K W0 _ [.val (.str s), .val (.list ((h :: r).map .str)), .val (.list ((h :: r).map num1)), .any, .val .none] _ _
    have hne : ((h :: r).map num1).length = r.length + 1 := by rw [List.length_map] <;> rfl
    have e1 : rowP s = if (h = "page" ∨ h = "unpage") ∧ 3 < (h :: r).length then .tuple (.str h :: ((((h :: r).map num1).drop 1).take 2 ++ ((h :: r).drop 3).map cont1))
        else if h = "op" ∧ 4 < (h :: r).length then .tuple (.str h :: ((((h :: r).map num1).drop 1).take 2 ++ [.tuple (.str ((h :: r).getD 3 Str.empty) :: .str ((h :: r).getD 4 Str.empty) :: ((h :: r).map num1).drop 5)]))
        else if h = "end" ∧ (h :: r).length = 3 then .tuple [.str h, num1 ((h :: r).getD 1 Str.empty), .str ((h :: r).getD 2 Str.empty)]
        else if h = "start" ∨ h = "comp" then .tuple (.str h :: ((h :: r).map num1).drop 1)
        else .none := by unfold rowP; rw [hps] <;> rfl
    have fin : ∀ d : PyData, d = rowP s → Sd K W0 (tRet (tIf (tAnd (tTest (tOp qNotN (tVar 4) (tC .non))) (tAnd (tB (tCall (sp_is_row_value K) [] E0 (tCons (tVar 4) tNil))) (tTest (tOp rEq (tCall (sp_text_of_row K) [] E0 (tCons (tVar 4) tNil)) (tVar 0))))) (tVar 4) (tC .non)))
        [.val (.str s), .val (.list ((h :: r).map .str)), .val (.list ((h :: r).map num1)), .any, .val d] (fun _ => read1 s = .none) (fun r => r = read1 s) := fun d hd => row_fin f rfl rfl hd
    have lenT : ∀ (n : Nat) (ρ : List En) (Q : Bool → Prop), ρ[1]? = some (.val (.list ((h :: r).map .str))) → Q (decide (n < (h :: r).length)) → Et K W0 (tTest (tOp qGt (tCB (qLen K) (tCons (tVar 1) tNil)) (tC (.int (n : Int))))) ρ Q := fun n ρ Q hρ hQ => by
      refine et_tTest (ed_gt (ed_len (ed_var hρ ⟨_, rfl, hz, ed_int ⟨_, _, rfl, rfl, _, rfl, ?_⟩⟩)))
      have e : decide ((n : Int) < (((h :: r).map PyData.str).length : Nat)) = decide (n < (h :: r).length) := by
        rw [List.length_map, Bool.eq_iff_iff, decide_eq_true_eq, decide_eq_true_eq]; omega
      rw [e]; exact hQ
    refine sd_seq (sd_if (et_and (et_tTest (ed_inT (ed_ix (ed_var rfl (ed_int (ix_lst0 (d := .str h) rfl (ed_NUM tN ⟨h, NUMS, rfl, rfl, _, rfl, ?_⟩)))))))))
    rw [num_in]
    by_cases c1 : (h = "page" ∨ h = "unpage") ∧ 3 < (h :: r).length
    · rw [if_pos c1] at e1
      refine ift (decide_eq_true c1.1) (lenT 3 _ _ rfl (ift (decide_eq_true c1.2) (sd_asg ?_)))
      refine ed_catT (ed_catT (ed_tup (ea_cons (ed_ix (ed_var rfl (ed_int (ix_lst0 (d := .str h) rfl (ea_nil ⟨by simp, _, rfl, ed_tupOf (ed_mid (m := 1) (n := 3) rfl rfl (ed_var rfl rfl) ⟨_, rfl, _, rfl, ?_, _, rfl, ?_⟩)⟩)))))))) 
      · simp only [List.length_cons, List.length_nil, List.length_take, List.length_drop, List.length_map]; omega
      · refine ed_tupOf (ed_map (gs := [3]) (by decide) (ei_list (ed_tail (m := 3) rfl (ed_var rfl rfl) ⟨_, rfl, by simp only [List.length_drop, List.length_map]; simp only [List.length_cons] at h2 ⊢; omega, Cn1, fun x hx => ?_, _, rfl, _, rfl, ?_, ?_⟩)))
        · obtain ⟨p, rfl, hp⟩ := mem_str (List.mem_of_mem_drop hx)
          exact eg_name (ed_call (ea_cons (ed_var rfl (ea_nil (ex_content_in (h1 p hp) rfl)))))
        · simp only [List.length_append, List.length_cons, List.length_nil, List.length_take, List.length_drop, List.length_map]
          simp only [List.length_cons] at h2; omega
        · refine fin _ ?_
          have e5 : ((((h :: r).map PyData.str).drop 3).map Cn1) = ((h :: r).drop 3).map cont1 := by rw [← List.map_drop, map_E (f := cont1) (fun _ => rfl)]
          rw [e1, e5]
          rfl
    rw [if_neg c1] at e1
    have skip1 : ∀ {T U : Prop}, U → (if decide (h = "page" ∨ h = "unpage") = true then Et K W0 (tTest (tOp qGt (tCB (qLen K) (tCons (tVar 1) tNil)) (tC (.int 3)))) [.val (.str s), .val (.list ((h :: r).map .str)), .val (.list ((h :: r).map num1)), .any, .val .none] (fun b => if b = true then T else U) else (if false = true then T else U)) := fun {T U} u => by
      refine ifc (fun z => lenT 3 _ _ rfl (iff' (decide_eq_false fun y => c1 ⟨of_decide_eq_true z, y⟩) u)) fun _ => iff' rfl u
    refine skip1 (sd_if (et_and (et_tTest (ed_eq (ed_ix (ed_var rfl (ed_int (ix_lst0 (d := .str h) rfl (ed_str ⟨rfl, _, rfl, ?_⟩)))))))))
    rw [str_eqv]
    by_cases c2 : h = "op" ∧ 4 < (h :: r).length
    · rw [if_pos c2] at e1
      refine ift (decide_eq_true c2.1) (lenT 4 _ _ rfl (ift (decide_eq_true c2.2) (sd_asg ?_)))
      obtain ⟨a, b, c, d, t, rfl⟩ : ∃ a b c d t, r = a :: b :: c :: d :: t := by
        match r, c2.2 with
        | a :: b :: c :: d :: t, _ => exact ⟨a, b, c, d, t, rfl⟩
      refine ed_catT (ed_catT (ed_tup (ea_cons (ed_str (ea_nil ⟨by simp, _, rfl, ed_tupOf (ed_mid (m := 1) (n := 3) rfl rfl (ed_var rfl rfl) ⟨_, rfl, _, rfl, ?_, _, rfl, ?_⟩)⟩)))))
      · simp only [List.length_cons, List.length_nil, List.length_take, List.length_drop, List.length_map]; omega
      · refine ed_tup (ea_cons (ed_catT (ed_tup (ea_cons (ed_ix (ed_var rfl (ed_int (ix_lst3 (d := .str c) rfl (ea_cons (ed_ix (ed_var rfl (ed_int (ix_lst4 (d := .str d) rfl (ea_nil ⟨by simp, _, rfl, ed_tupOf (ed_tail (m := 5) rfl (ed_var rfl rfl) ⟨_, rfl, _, rfl, ?_, ea_nil ⟨by simp, _, rfl, ?_, ?_⟩⟩)⟩))))))))))))))
        · simp only [List.length_cons, List.length_nil, List.length_drop, List.length_map] at h2 ⊢; omega
        · simp only [List.length_append, List.length_cons, List.length_nil, List.length_take, List.length_drop, List.length_map]; omega
        · refine fin _ ?_
          rw [e1, c2.1]
          rfl
    rw [if_neg c2] at e1
    have skip2 : ∀ {T U : Prop}, U → (if decide (h = "op") = true then Et K W0 (tTest (tOp qGt (tCB (qLen K) (tCons (tVar 1) tNil)) (tC (.int 4)))) [.val (.str s), .val (.list ((h :: r).map .str)), .val (.list ((h :: r).map num1)), .any, .val .none] (fun b => if b = true then T else U) else (if false = true then T else U)) := fun {T U} u => by
      refine ifc (fun z => lenT 4 _ _ rfl (iff' (decide_eq_false fun y => c2 ⟨of_decide_eq_true z, y⟩) u)) fun _ => iff' rfl u
    refine skip2 (sd_if (et_and (et_tTest (ed_eq (ed_ix (ed_var rfl (ed_int (ix_lst0 (d := .str h) rfl (ed_str ⟨rfl, _, rfl, ?_⟩)))))))))
    rw [str_eqv]
    have lenE : ∀ (Q : Bool → Prop), Q (decide ((h :: r).length = 3)) → Et K W0 (tTest (tOp rEq (tCB (qLen K) (tCons (tVar 1) tNil)) (tC (.int 3)))) [.val (.str s), .val (.list ((h :: r).map .str)), .val (.list ((h :: r).map num1)), .any, .val .none] Q := fun Q hQ => by
      refine et_tTest (ed_eq (ed_len (ed_var rfl ⟨_, rfl, hz, ed_int ⟨rfl, _, rfl, ?_⟩⟩)))
      rw [show (PyData.eqv (.int ((((h :: r).map PyData.str).length : Nat) : Int)) (.int 3)) = decide ((h :: r).length = 3) from len_list _ 3]
      exact hQ
    by_cases c3 : h = "end" ∧ (h :: r).length = 3
    · rw [if_pos c3] at e1
      refine ift (decide_eq_true c3.1) (lenE _ (ift (decide_eq_true c3.2) (sd_asg ?_)))
      obtain ⟨a, b, rfl⟩ : ∃ a b, r = [a, b] := by
        match r, c3.2 with
        | [a, b], _ => exact ⟨a, b, rfl⟩
      refine ed_tup (ea_cons (ed_str (ea_cons (ed_ix (ed_var rfl (ed_int (ix_lst1 (d := num1 a) rfl (ea_cons (ed_ix (ed_var rfl (ed_int (ix_lst2 (d := .str b) rfl (ea_nil ⟨by simp, ?_⟩)))))))))))))
      refine fin _ ?_
      rw [e1, c3.1]
      rfl
    rw [if_neg c3] at e1
    have skip3 : ∀ {T U : Prop}, U → (if decide (h = "end") = true then Et K W0 (tTest (tOp rEq (tCB (qLen K) (tCons (tVar 1) tNil)) (tC (.int 3)))) [.val (.str s), .val (.list ((h :: r).map .str)), .val (.list ((h :: r).map num1)), .any, .val .none] (fun b => if b = true then T else U) else (if false = true then T else U)) := fun {T U} u => by
      refine ifc (fun z => lenE _ (iff' (decide_eq_false fun y => c3 ⟨of_decide_eq_true z, y⟩) u)) fun _ => iff' rfl u
    refine skip3 (sd_if (et_tTest (ed_inT (ed_ix (ed_var rfl (ed_int (ix_lst0 (d := .str h) rfl (ed_tup (ea_cons (ed_str (ea_cons (ed_str (ea_nil ⟨by simp, h, ["start", "comp"], rfl, rfl, _, rfl, ?_⟩)))))))))))))
    have e2 : (["start", "comp"] : List Str).contains h = decide (h = "start" ∨ h = "comp") := by
      rw [Bool.eq_iff_iff]; simp
    rw [e2]
    by_cases c4 : h = "start" ∨ h = "comp"
    · rw [if_pos c4] at e1
      refine ift (decide_eq_true c4) (sd_asg ?_)
      refine ed_catT (ed_tup (ea_cons (ed_ix (ed_var rfl (ed_int (ix_lst0 (d := .str h) rfl (ea_nil ⟨by simp, _, rfl, ed_tupOf (ed_tail (m := 1) rfl (ed_var rfl rfl) ⟨_, rfl, _, rfl, ?_, ?_⟩)⟩)))))))
      · simp only [List.length_cons, List.length_nil, List.length_drop, List.length_map] at h2 ⊢; omega
      · refine fin _ ?_
        rw [e1]
        rfl
    · rw [if_neg c4] at e1
      exact iff' (decide_eq_false c4) (sd_next (fin _ e1.symm))⟩
end
end K61
end

section
set_option Elab.async false
set_option linter.all false
set_option maxRecDepth 100000
set_option maxHeartbeats 4000000
namespace K61
open PySem PySem.Spec L2 TL
open Evl (Ex)
section
variable {K : PySem.W.Frag}
theorem sd_parBuild {W : Wd} {ρ : List En} {ta : TE} {i j : Nat} {wi : TI} {g : TG} {ts tz : TS} {N : List En → Prop} {R : PyData → Prop} (h : Ed K W ta ρ fun x => Sd K W (tSeq (tAsg (tLst tNil) (gName j)) (tSeq (tFor wi g ts) tz)) (ρ.set i (.val x)) N R) :
    Sd K W (tSeq (tPar i j (tCons ta (tCons (tLst tNil) tNil))) (tSeq (tFor wi g ts) tz)) ρ N R := fun W' l σ H D iv e k1 k2 =>
  h W' l σ H _ iv e fun x vx H1 x1 r1 h1 => by
    have q := h1 W' l (σ.set i (some vx)) H1 D x1.inv (EnvD.set i (enval r1) (e.mono x1.ex)) (fun ρ' σ' H' x2 e2 n => k1 ρ' σ' H' (x1.trans x2) e2 n) (fun d v H' x2 r2 p => k2 d v H' (x1.trans x2) r2 p)
    exact ⟨Nat.zero_le _, fun p hp => ⟨vx, .ref p, rfl, q.2 p hp⟩⟩
theorem fed_const (f : PyData → List PyData) (ds : List PyData) : fed (fun _ x => f x) ds = (ds.map f).flatten := by
  have key : ∀ (l : List PyData) (k : Nat), (l.zipIdx k).map (fun p => (fun (_ : Nat) x => f x) p.2 p.1) = l.map f := by
    intro l
    induction l with
    | nil => exact fun _ => rfl
    | cons x r ih =>
      intro k
      show f x :: (r.zipIdx (k + 1)).map _ = _
      rw [ih (k + 1)] <;> rfl
  unfold fed
  rw [key ds 0]
def PQ (ps : List Str) : PyData → List PyData
  | .tuple [.int j, .str w] => put2 ps j.toNat w
  | _ => []
theorem PQ_len (ps : List Str) (x : PyData) : (PQ ps x).length ≤ 20 := by
  unfold PQ
  split
  · exact Nat.le_trans (put2_len _ _ _) (by decide)
  · simp
theorem fed_put (ps : List Str) : fed (fun _ x => PQ ps x) (enumD (ps.map .str)) = (ps.zipIdx.map fun p => put2 ps p.2 p.1).flatten := by
  rw [fed_const]
  congr 1
  unfold enumD
  rw [List.zipIdx_map, List.map_map, List.map_map]
  rfl
theorem enum_at {ps : List Str} {i : Nat} {x : PyData} (h : (enumD (ps.map .str))[i]? = some x) : ∃ w, x = .tuple [.int (i : Int), .str w] ∧ ps[i]? = some w := by
  unfold enumD at h
  rw [List.getElem?_map, List.getElem?_zipIdx, List.getElem?_map] at h
  cases q : ps[i]? with
  | none => rw [q] at h; cases h
  | some w =>
    rw [q] at h
    refine ⟨w, ?_, rfl⟩
    have h2 := Option.some.inj h
    rw [← h2]
    simp
theorem gt_nat (n m : Nat) : decide ((m : Int) < (n : Int)) = decide (m < n) := by
  rw [Bool.eq_iff_iff, decide_eq_true_eq, decide_eq_true_eq]; omega
theorem se_law_read_row : SemD K C_law_read_row (t_law_read_row K) 1 8 := fun ds d ⟨s, e, f, hd⟩ => ⟨by rw [e] <;> rfl, by
  subst e hd
  show Sd K W0 (t_law_read_row K) [.val (.str s), .any, .any, .any, .any, .any, .any, .any] _ _
  unfold t_law_read_row
  obtain ⟨h1, h2, h3⟩ := split_ok (x := s) sepS f
  refine sd_parBuild (ed_split (ed_var rfl ⟨s, rfl, ed_str ⟨_, rfl, sepS.l, Nat.le_trans (Nat.add_le_add_right f.1 2) (by decide), ?_⟩⟩))
  have hq : rowQ s = .tuple ((((Txt.split s " ").zipIdx.map fun p => put2 (Txt.split s " ") p.2 p.1)).flatten) := rfl
  have hqf := rowQ_fine f
  generalize hps : Txt.split s " " = ps at h1 h2 h3 hq
  obtain ⟨h, r, rfl⟩ := List.exists_cons_of_ne_nil h3
  refine sd_build (gs := [3, 4]) (by simp) (by decide) (ei_enum (ed_var rfl ⟨_, rfl, ?_, fun i ρ' => ∃ a b c, ρ' = [.val (.str s), .val (.list ((h :: r).map .str)), .any, a, b, c, .any, .any], fun _ x => PQ (h :: r) x, fun _ x => PQ_len _ x, ⟨.any, .any, .any, rfl⟩, ?_, ?_⟩))
  · unfold enumD
    rw [List.length_map, List.length_zipIdx, List.length_map]; omega
  · rintro i x ρ' hx ⟨a, b, c, rfl⟩
    obtain ⟨w, rfl, hw⟩ := enum_at hx
    have okw := h1 w (List.mem_of_getElem? hw)
    refine eg_tup2 ?_
    show Sb K W0 2 _ [.val (.str s), .val (.list ((h :: r).map .str)), .any, .val (.int (i : Int)), .val (.str w), c, .any, .any] _
    have ep : PQ (h :: r) (.tuple [.int (i : Int), .str w]) = (if (h = "page" ∨ h = "unpage") ∧ 2 < i then [cont2 w]
        else if h = "op" ∧ i = 3 then [.tuple (.str w :: ((((h :: r).drop 4).take 1).map .str ++ ((h :: r).drop 5).map num2))]
        else if h ≠ "op" ∨ i < 3 then [if 0 < i ∧ ¬(h = "end" ∧ i = 2) then num2 w else .str w]
        else []) := by
      show put2 (h :: r) ((i : Int).toNat) w = _
      rw [Int.toNat_natCast] <;> rfl
    have done : ∀ (n : List PyData) (m : En), n = PQ (h :: r) (.tuple [.int (i : Int), .str w]) → n = (fun (_ : Nat) x => PQ (h :: r) x) i (.tuple [.int (i : Int), .str w]) ∧ ∃ a b c, [En.val (.str s), .val (.list ((h :: r).map .str)), .any, .val (.int (i : Int)), .val (.str w), m, .any, .any] = [.val (.str s), .val (.list ((h :: r).map .str)), .any, a, b, c, .any, .any] := fun n m e => ⟨e, _, _, _, rfl⟩
    refine sb_if (et_and (et_tTest (ed_inT (ed_ix (ed_var rfl (ed_int (ix_lst0 (d := .str h) rfl (page_tup ⟨h, NUMS, rfl, rfl, _, rfl, ?_⟩)))))))) 
    rw [num_in]
    have atT : ∀ (n : Nat) (Q : Bool → Prop), Q (decide (n < i)) → Et K W0 (tTest (tOp qGt (tVar 3) (tC (.int (n : Int))))) [.val (.str s), .val (.list ((h :: r).map .str)), .any, .val (.int (i : Int)), .val (.str w), c, .any, .any] Q := fun n Q hQ =>
      et_tTest (ed_gt (ed_var rfl (ed_int ⟨_, _, rfl, rfl, _, rfl, by rw [gt_nat]; exact hQ⟩)))
    by_cases c1 : (h = "page" ∨ h = "unpage") ∧ 2 < i
    · rw [if_pos c1] at ep
      exact ift (decide_eq_true c1.1) (atT 2 _ (ift (decide_eq_true c1.2) (sb_app (ed_call (ea_cons (ed_var rfl (ea_nil (ex_law_read_content okw (done _ _ ep.symm)))))))))
    rw [if_neg c1] at ep
    have skip1 : ∀ {T U : Prop}, U → (if decide (h = "page" ∨ h = "unpage") = true then Et K W0 (tTest (tOp qGt (tVar 3) (tC (.int 2)))) [.val (.str s), .val (.list ((h :: r).map .str)), .any, .val (.int (i : Int)), .val (.str w), c, .any, .any] (fun b => if b = true then T else U) else (if false = true then T else U)) := fun {T U} u =>
      ifc (fun z => atT 2 _ (iff' (decide_eq_false fun y => c1 ⟨of_decide_eq_true z, y⟩) u)) fun _ => iff' rfl u
    refine skip1 (sb_if (et_and (et_tTest (ed_eq (ed_ix (ed_var rfl (ed_int (ix_lst0 (d := .str h) rfl (ed_str ⟨rfl, _, rfl, ?_⟩)))))))))
    rw [str_eqv]
    have atE : ∀ (Q : Bool → Prop), Q (decide (i = 3)) → Et K W0 (tTest (tOp rEq (tVar 3) (tC (.int 3)))) [.val (.str s), .val (.list ((h :: r).map .str)), .any, .val (.int (i : Int)), .val (.str w), c, .any, .any] Q := fun Q hQ =>
      et_tTest (ed_eq (ed_var rfl (ed_int ⟨rfl, _, rfl, by
        rw [show PyData.eqv (.int (i : Int)) (.int 3) = decide (i = 3) from len_eqv i 3]
        exact hQ⟩)))
    by_cases c2 : h = "op" ∧ i = 3
    · rw [if_pos c2] at ep
      refine ift (decide_eq_true c2.1) (atE _ (ift (decide_eq_true c2.2) (sb_asgThen (by decide) ?_)))
      refine ed_cat (ed_cat (ed_lst (ea_cons (ed_var rfl (ea_nil ⟨by simp, _, rfl, ed_mid (m := 4) (n := 5) rfl rfl (ed_var rfl rfl) ⟨_, rfl, ?_, _, rfl, ?_⟩⟩)))))
      · simp only [List.length_cons, List.length_nil, List.length_take, List.length_drop, List.length_map]; omega
      · refine ed_map (gs := [6]) (by decide) (ei_list (ed_tail (m := 5) rfl (ed_var rfl rfl) ⟨_, rfl, by simp only [List.length_drop, List.length_map]; simp only [List.length_cons] at h2 ⊢; omega, N2, fun x hx => ?_, _, rfl, ?_, ?_⟩))
        · obtain ⟨p, rfl, hp⟩ := mem_str (List.mem_of_mem_drop hx)
          exact eg_name (ed_call (ea_cons (ed_var rfl (ea_nil (ex_law_number (h1 p hp) rfl)))))
        · simp only [List.length_append, List.length_cons, List.length_nil, List.length_take, List.length_drop, List.length_map] at h2 ⊢; omega
        · have e5 : ((((h :: r).map PyData.str).drop 5).map N2) = ((h :: r).drop 5).map num2 := by rw [← List.map_drop, map_E (f := num2) (fun _ => rfl)]
          have e6 : (((h :: r).map PyData.str).drop 4).take (5 - 4) = (((h :: r).drop 4).take 1).map PyData.str := by rw [List.map_take, List.map_drop]
          rw [e5, e6]
          refine sb_app (ed_tupOf (ed_var rfl ⟨_, rfl, done _ _ ?_⟩))
          rw [ep]
          rfl
    rw [if_neg c2] at ep
    have skip2 : ∀ {T U : Prop}, U → (if decide (h = "op") = true then Et K W0 (tTest (tOp rEq (tVar 3) (tC (.int 3)))) [.val (.str s), .val (.list ((h :: r).map .str)), .any, .val (.int (i : Int)), .val (.str w), c, .any, .any] (fun b => if b = true then T else U) else (if false = true then T else U)) := fun {T U} u =>
      ifc (fun z => atE _ (iff' (decide_eq_false fun y => c2 ⟨of_decide_eq_true z, y⟩) u)) fun _ => iff' rfl u
    refine skip2 (sb_if (et_or (et_tTest (ed_ne (ed_ix (ed_var rfl (ed_int (ix_lst0 (d := .str h) rfl (ed_str ⟨rfl, _, rfl, ?_⟩)))))))))
    rw [str_eqv]
    have atL : ∀ (Q : Bool → Prop), Q (decide (i < 3)) → Et K W0 (tTest (tOp qLt (tVar 3) (tC (.int 3)))) [.val (.str s), .val (.list ((h :: r).map .str)), .any, .val (.int (i : Int)), .val (.str w), c, .any, .any] Q := fun Q hQ =>
      et_tTest (ed_lt (ed_var rfl (ed_int ⟨_, _, rfl, rfl, _, rfl, by rw [show decide ((i : Int) < 3) = decide (i < 3) from gt_nat 3 i]; exact hQ⟩)))
    by_cases c3 : h ≠ "op" ∨ i < 3
    · rw [if_pos c3] at ep
      have doit : Sb K W0 2 (tDrop (tBM K "list" rAppend (tVar 2) (tCons (tIf (tAnd (tTest (tOp qGt (tVar 3) (tC (.int 0)))) (tNot (tAnd (tTest (tOp rEq (tOp (rIx K) (tVar 1) (tC (.int 0))) (tC (.str "end")))) (tTest (tOp rEq (tVar 3) (tC (.int 2))))))) (tCall (sp_law_number K) [] E0 (tCons (tVar 4) tNil)) (tVar 4)) tNil)))
          [.val (.str s), .val (.list ((h :: r).map .str)), .any, .val (.int (i : Int)), .val (.str w), c, .any, .any] (fun ρ3 app => app = (fun (_ : Nat) x => PQ (h :: r) x) i (.tuple [.int (i : Int), .str w]) ∧ ∃ a b c, ρ3 = [.val (.str s), .val (.list ((h :: r).map .str)), .any, a, b, c, .any, .any]) := by
        refine sb_app (ed_if (et_and (atT 0 _ ?_)))
        have num : 0 < i ∧ ¬(h = "end" ∧ i = 2) → Ed K W0 (tCall (sp_law_number K) [] E0 (tCons (tVar 4) tNil)) [.val (.str s), .val (.list ((h :: r).map .str)), .any, .val (.int (i : Int)), .val (.str w), c, .any, .any] (fun d => [d] = (fun (_ : Nat) x => PQ (h :: r) x) i (.tuple [.int (i : Int), .str w]) ∧ ∃ a b c', [En.val (.str s), .val (.list ((h :: r).map .str)), .any, .val (.int (i : Int)), .val (.str w), c, .any, .any] = [.val (.str s), .val (.list ((h :: r).map .str)), .any, a, b, c', .any, .any]) := fun z => by
          rw [if_pos z] at ep
          exact ed_call (ea_cons (ed_var rfl (ea_nil (ex_law_number okw (done _ _ ep.symm)))))
        have wrd : ¬(0 < i ∧ ¬(h = "end" ∧ i = 2)) → Ed K W0 (tVar 4) [.val (.str s), .val (.list ((h :: r).map .str)), .any, .val (.int (i : Int)), .val (.str w), c, .any, .any] (fun d => [d] = (fun (_ : Nat) x => PQ (h :: r) x) i (.tuple [.int (i : Int), .str w]) ∧ ∃ a b c', [En.val (.str s), .val (.list ((h :: r).map .str)), .any, .val (.int (i : Int)), .val (.str w), c, .any, .any] = [.val (.str s), .val (.list ((h :: r).map .str)), .any, a, b, c', .any, .any]) := fun z => by
          rw [if_neg z] at ep
          exact ed_var rfl (done _ _ ep.symm)
        refine ifc (fun z0 => ?_) fun z0 => iff' rfl (wrd fun z => (of_decide_eq_false z0) z.1)
        have p0 : 0 < i := of_decide_eq_true z0
        refine et_not (et_and (et_tTest (ed_eq (ed_ix (ed_var rfl (ed_int (ix_lst0 (d := .str h) rfl (ed_str ⟨rfl, _, rfl, ?_⟩)))))))) 
        rw [str_eqv]
        refine ifc (fun z1 => et_tTest (ed_eq (ed_var rfl (ed_int ⟨rfl, _, rfl, ?_⟩)))) fun z1 => ift rfl (num ⟨p0, fun z => (of_decide_eq_false z1) z.1⟩)
        rw [show PyData.eqv (.int (i : Int)) (.int 2) = decide (i = 2) from len_eqv i 2]
        by_cases hi2 : i = 2
        · rw [decide_eq_true hi2]
          exact iff' rfl (wrd fun z => z.2 ⟨of_decide_eq_true z1, hi2⟩)
        · rw [decide_eq_false hi2]
          exact ift rfl (num ⟨p0, fun z => hi2 z.2⟩)
      by_cases c4 : h = "op"
      · exact iff' (by rw [decide_eq_true c4] <;> rfl) (atL _ (ift (decide_eq_true (c3.elim (fun z => absurd c4 z) id)) doit))
      · exact ift (by rw [decide_eq_false c4] <;> rfl) (ift rfl doit)
    · rw [if_neg c3] at ep
      have c4 : h = "op" := by
        by_cases z : h = "op"
        · exact z
        · exact absurd (.inl z) c3
      exact iff' (by rw [decide_eq_true c4] <;> rfl) (atL _ (iff' (decide_eq_false fun z => c3 (.inr z)) (sb_next (done _ _ ep.symm))))
  · rintro ρ' ⟨a, b, c, rfl⟩
    rw [fed_put]
    show Sd K W0 _ [.val (.str s), .val (.list ((h :: r).map .str)), .val (.list (((h :: r).zipIdx.map fun p => put2 (h :: r) p.2 p.1).flatten)), a, b, c, .any, .any] _ _
    have e : read2 s = if rowD (rowQ s) = true ∧ rowT (rowQ s) = s then rowQ s else .none := rfl
    rw [e]
    refine sd_seq (sd_asg (ed_tupOf (ed_var rfl ⟨_, rfl, ?_⟩)))
    rw [← hq]
    refine sd_ret (ed_if (et_and (et_tB (ed_call (ea_cons (ed_var rfl (ea_nil (ex_law_is_row hqf ⟨_, rfl, ?_⟩))))))))
    cases hr : rowD (rowQ s) with
    | false => exact iff' rfl (iff' rfl (ed_non (by rw [if_neg (fun z => Bool.false_ne_true z.1)])))
    | true =>
      refine ift rfl (et_tTest (ed_eq (ed_call (ea_cons (ed_var rfl (ea_nil (ex_law_row_text hqf hr (ed_var rfl ⟨rfl, _, rfl, ?_⟩))))))))
      rw [str_eqv]
      by_cases ht : rowT (rowQ s) = s
      · exact ift (decide_eq_true ht) (ed_var rfl (if_pos ⟨rfl, ht⟩).symm)
      · exact iff' (decide_eq_false ht) (ed_non (if_neg (fun z => ht z.2)).symm)⟩
end
end K61
end

section
set_option Elab.async false
set_option linter.all false
set_option maxRecDepth 100000
set_option maxHeartbeats 4000000
/-! plain: both readers give a valid row back from its text -/
namespace K61
open PySem PySem.Spec TL
def plB (c : Nat) : Bool := decide (97 ≤ c ∧ c ≤ 122) || (decide (c = 45) || decide (48 ≤ c ∧ c ≤ 57))
/-- plain signs and those of S -/
def Cls (S : List Nat) (s : Str) : Prop := ∀ c ∈ tl s, plB c = true ∨ c ∈ S
theorem Cls.free {S : List Nat} {s : Str} (h : Cls S s) {n : Nat} (hn : plB n = false) (hS : n ∉ S) : n ∉ tl s := fun hm => (h n hm).elim (fun z => by rw [hn] at z; cases z) hS
theorem Cls.mono {S T : List Nat} {s : Str} (h : Cls S s) (hs : ∀ c ∈ S, c ∈ T) : Cls T s := fun c hc => (h c hc).imp id (hs c)
theorem Cls.app {S : List Nat} {a b : Str} (ha : Cls S a) (hb : Cls S b) : Cls S (a ++ b) := fun c hc => by
  rw [tl_append] at hc
  exact (List.mem_append.mp hc).elim (ha c) (hb c)
theorem cls_join {S : List Nat} {y : Str} (hy : Cls S y) : ∀ {l : List Str}, (∀ x ∈ l, Cls S x) → Cls S (Str.join y l)
  | [], _ => fun c hc => by cases hc
  | [x], h => h x List.mem_cons_self
  | x :: z :: r, h => by
    show Cls S (x ++ y ++ Str.join y (z :: r))
    exact ((h x List.mem_cons_self).app hy).app (cls_join hy fun w hw => h w (List.mem_cons_of_mem _ hw))
theorem let_iff : LET.cps.toList = List.range' 97 26 := by decide +kernel
theorem key_cls {k : Str} (h : keyS k = true) : Cls [] k := fun c hc => by
  have h2 := List.all_eq_true.mp (Bool.and_eq_true_iff.mp h).2 c hc
  have h3 : c ∈ LET.cps.toList := of_decide_eq_true h2
  rw [let_iff, List.mem_range'_1] at h3
  left
  unfold plB
  rw [decide_eq_true (by omega)]
  rfl
theorem num_cls (i : Int) : Cls [] (numS i) := fun c hc => by
  left
  rw [tl_numS] at hc
  have hd : ∀ d ∈ numL i.natAbs, plB d = true := fun d hd => by
    have := numL_digits i.natAbs d hd
    unfold plB
    rw [decide_eq_true (p := 48 ≤ d ∧ d ≤ 57) this]
    simp
  split at hc
  · rcases List.mem_cons.mp hc with e | hc
    · rw [e]; decide
    · exact hd c hc
  · exact hd c hc
theorem lit_cls : Cls [] ("start" : Str) ∧ Cls [] ("page" : Str) ∧ Cls [] ("unpage" : Str) ∧ Cls [] ("end" : Str) ∧ Cls [] ("op" : Str) ∧ Cls [] ("comp" : Str) ∧ Cls [] ("kept" : Str) ∧ Cls [] ("dropped" : Str) ∧ Cls [] ("read" : Str) ∧ Cls [] ("set" : Str) ∧ Cls [] ("add" : Str) ∧ Cls [] ("-" : Str) := by
  have key : ∀ s : Str, (tl s).all plB = true → Cls [] s := fun s h c hc => .inl (List.all_eq_true.mp h c hc)
  exact ⟨key _ (by decide +kernel), key _ (by decide +kernel), key _ (by decide +kernel), key _ (by decide +kernel), key _ (by decide +kernel), key _ (by decide +kernel), key _ (by decide +kernel), key _ (by decide +kernel), key _ (by decide +kernel), key _ (by decide +kernel), key _ (by decide +kernel), key _ (by decide +kernel)⟩
theorem sep_cls {y : Str} {s : Nat} (h : Sep y s) : Cls [s] y := fun c hc => by rw [h.e] at hc; exact .inr hc
theorem no_sep : plB 32 = false ∧ plB 44 = false ∧ plB 47 = false ∧ plB 61 = false := by decide
/-! numbers -/
theorem numL_head : ∀ n : Nat, 1 ≤ n → (numL n).head? ≠ some 48 := fun n => by
  induction n using Nat.strongRecOn with
  | ind n ih =>
    intro hn
    by_cases h : n < 10
    · rw [numL_lt h]
      show some (48 + n) ≠ some 48
      intro e; injection e with e; omega
    · rw [numL_step (by omega)]
      have h1 := ih (n / 10) (by omega) (by omega)
      cases q : numL (n / 10) with
      | nil => exact absurd q (numL_ne _)
      | cons c r =>
        rw [q] at h1
        exact h1
theorem figs_num (n : Nat) : figs (numL n) = numL n ∧ numV (numL n) = (n : Int) := by
  have hd := numL_digits n
  have hv := numL_val n
  cases q : numL n with
  | nil => exact absurd q (numL_ne n)
  | cons c r =>
    rw [q] at hd hv
    have hc : c ≠ 45 := fun e => by have := hd c List.mem_cons_self; omega
    constructor
    · unfold figs
      split
      · rename_i z; injection z with z1 z2; exact absurd z1 hc
      · rfl
    · unfold numV
      split
      · rename_i z; injection z with z1 z2; exact absurd z1 hc
      · rw [hv]
theorem dig_num (n : Nat) : digB (numL n) = true := List.all_eq_true.mpr fun c hc => decide_eq_true (numL_digits n c hc)
theorem num1_num (i : Int) : num1 (numS i) = .int i := by
  have key : figs (tl (numS i)) ≠ [] ∧ digB (figs (tl (numS i))) = true ∧ numV (tl (numS i)) = i := by
    rw [tl_numS]
    split
    · rename_i h
      refine ⟨numL_ne _, dig_num _, ?_⟩
      show -((NumText.digitsVal (numL i.natAbs) : Nat) : Int) = i
      rw [numL_val]; omega
    · rename_i h
      obtain ⟨h1, h2⟩ := figs_num i.natAbs
      rw [h1, h2]
      exact ⟨numL_ne _, dig_num _, by omega⟩
  show (if figs (tl (numS i)) ≠ [] ∧ digB (figs (tl (numS i))) = true then PyData.int (numV (tl (numS i))) else .none) = .int i
  rw [if_pos ⟨key.1, key.2.1⟩, key.2.2]
theorem canon_num (i : Int) : canon (tl (numS i)) = true := by
  rw [tl_numS]
  split
  · rename_i h
    have h1 := numL_head i.natAbs (by omega)
    unfold canon
    split
    · rfl
    · exact decide_eq_true h1
  · rename_i h
    by_cases hz : i.natAbs = 0
    · rw [hz]; rfl
    · have h1 := numL_head i.natAbs (by omega)
      unfold canon
      split
      · rfl
      · rw [(figs_num i.natAbs).1]
        exact decide_eq_true h1
theorem num2_num (i : Int) : num2 (numS i) = .int i := by
  have e : num2 (numS i) = num1 (numS i) := if_pos (canon_num i)
  rw [e, num1_num]
theorem num_ne (i : Int) (h : 0 ≤ i) : numS i ≠ "-" := fun e => by
  have h1 : tl (numS i) = [45] := by rw [e]; exact congrArg tl minus.1
  rw [tl_numS, if_neg (by omega)] at h1
  have h2 := numL_digits i.natAbs 45 (by rw [h1]; simp)
  omega
/-! entries -/
theorem app3 (a y b : Str) : Str.join y [a, b] = a ++ y ++ b := rfl
theorem ent_text {k : Str} {w : Int} (hk : keyS k = true) : ent1 (entT (.tuple [.str k, .int w])) = .tuple [.str k, .int w] ∧ ent2 (entT (.tuple [.str k, .int w])) = .tuple [.str k, .int w] ∧ Cls [61] (entT (.tuple [.str k, .int w])) ∧ entT (.tuple [.str k, .int w]) ≠ Str.empty := by
  have e : entT (.tuple [.str k, .int w]) = k ++ "=" ++ numS w := rfl
  have k1 := key_cls hk
  have n1 := num_cls w
  have kf : (61 : Nat) ∉ tl k := k1.free no_sep.2.2.2 (by simp)
  have nf : (61 : Nat) ∉ tl (numS w) := n1.free no_sep.2.2.2 (by simp)
  refine ⟨?_, ?_, ?_, ?_⟩
  · rw [e]
    unfold ent1
    rw [partition_app (s := 61) (S := []) sepE.e kf, num1_num]
  · have h2 : Txt.split (k ++ "=" ++ numS w) "=" = [k, numS w] := by
      rw [← app3, ← join_eq]
      exact split_join (s := 61) (S := []) sepE.e sepE.k (by simp) fun p hp => by
        simp only [List.mem_cons, List.not_mem_nil, or_false] at hp
        rcases hp with rfl | rfl <;> assumption
    rw [e]
    unfold ent2
    rw [h2]
    show PyData.tuple [.str k, num2 (numS w)] = _
    rw [num2_num]
  · rw [e]
    exact ((k1.mono (by simp)).app (sep_cls sepE)).app (n1.mono (by simp))
  · intro z
    have h3 : (61 : Nat) ∈ tl (entT (.tuple [.str k, .int w])) := by
      rw [e, tl_append, tl_append, sepE.e]; simp
    rw [z] at h3
    cases h3
theorem join_ne {y : Str} : ∀ {l : List Str}, l ≠ [] → (∀ x ∈ l, x ≠ Str.empty) → Str.join y l ≠ Str.empty
  | [x], _, h => h x List.mem_cons_self
  | x :: z :: r, _, h => fun e => by
    have h1 : tl (x ++ y ++ Str.join y (z :: r)) = [] := by
      have : Str.join y (x :: z :: r) = x ++ y ++ Str.join y (z :: r) := rfl
      rw [← this, e] <;> rfl
    rw [tl_append, tl_append, List.append_eq_nil_iff, List.append_eq_nil_iff] at h1
    exact h x List.mem_cons_self (ext_tl h1.1.1)
theorem cont_text {x : PyData} (h : contD x = true) : cont1 (contT x) = x ∧ cont2 (contT x) = x ∧ Cls [61, 44, 47] (contT x) := by
  cases cont_cases h with
  | none =>
    refine ⟨if_pos rfl, if_pos rfl, ?_⟩
    exact lit_cls.2.2.2.2.2.2.2.2.2.2.2.mono (by simp)
  | some low es f h1 h2 h3 h4 =>
    have e : contT (.tuple [.str low, .tuple es, f]) = low ++ "/" ++ Str.join "," (es.map entT) ++ "/" ++ folT f := rfl
    have c1 : Cls [] low := by
      rcases h1 with rfl | h1
      · exact fun c hc => by cases hc
      · exact key_cls h1
    have c2 : Cls [61, 44] (Str.join "," (es.map entT)) := cls_join ((sep_cls sepC).mono (by simp)) fun x hx => by
      obtain ⟨e, he, rfl⟩ := List.mem_map.mp hx
      obtain ⟨k, w, rfl, hk⟩ := h3 e he
      exact (ent_text hk).2.2.1.mono (by simp)
    have c3 : Cls [] (folT f) := by
      rcases h4 with rfl | ⟨i, rfl, hi⟩
      · exact lit_cls.2.2.2.2.2.2.2.2.2.2.2
      · exact num_cls i
    have ns := no_sep.2.2.1
    have h47 : ∀ p ∈ [low, Str.join "," (es.map entT), folT f], (47 : Nat) ∉ tl p := fun p hp => by
      simp only [List.mem_cons, List.not_mem_nil, or_false] at hp
      rcases hp with rfl | rfl | rfl
      · exact c1.free ns (by simp)
      · exact c2.free ns (by simp)
      · exact c3.free ns (by simp)
    have hs : Txt.split (contT (.tuple [.str low, .tuple es, f])) "/" = [low, Str.join "," (es.map entT), folT f] := by
      have e2 : contT (.tuple [.str low, .tuple es, f]) = Str.join "/" [low, Str.join "," (es.map entT), folT f] := by
        rw [e]
        show low ++ "/" ++ Str.join "," (es.map entT) ++ "/" ++ folT f = low ++ "/" ++ (Str.join "," (es.map entT) ++ "/" ++ folT f)
        simp only [Str.append_assoc]
      rw [e2, ← join_eq]
      exact split_join (s := 47) (S := []) sepL.e sepL.k (by simp) h47
    have hm : contT (.tuple [.str low, .tuple es, f]) ≠ "-" := fun z => by
      have z2 : (47 : Nat) ∈ tl (contT (.tuple [.str low, .tuple es, f])) := by
        rw [e, tl_append, tl_append, tl_append, tl_append, sepL.e]; simp
      rw [z, minus.1] at z2
      have z3 : (47 : Nat) ∈ [45] := z2
      exact absurd z3 (by decide)
    have hne : ∀ x ∈ es.map entT, x ≠ Str.empty := fun x hx => by
      obtain ⟨e, he, rfl⟩ := List.mem_map.mp hx
      obtain ⟨k, w, rfl, hk⟩ := h3 e he
      exact (ent_text hk).2.2.2
    have hsc : es ≠ [] → Txt.split (Str.join "," (es.map entT)) "," = es.map entT := fun hes => by
      rw [← join_eq]
      refine split_join (s := 44) (S := []) sepC.e sepC.k (by simpa using hes) fun p hp => ?_
      obtain ⟨e, he, rfl⟩ := List.mem_map.mp hp
      obtain ⟨k, w, rfl, hk⟩ := h3 e he
      exact (ent_text hk).2.2.1.free no_sep.2.1 (by simp)
    have back : ∀ (g : Str → PyData), (∀ e ∈ es, g (entT e) = e) → (if Str.join "," (es.map entT) = Str.empty then [] else (Txt.split (Str.join "," (es.map entT)) ",").map g) = es := fun g hg => by
      cases hes : es with
      | nil => rfl
      | cons a r =>
        rw [← hes]
        have he : es ≠ [] := by rw [hes]; simp
        rw [if_neg (join_ne (by simpa using he) hne), hsc he, List.map_map]
        exact (List.map_congr_left fun e he => hg e he).trans (List.map_id _)
    refine ⟨?_, ?_, ?_⟩
    · unfold cont1
      rw [if_neg hm, hs]
      show PyData.tuple [.str low, .tuple (if Str.join "," (es.map entT) = Str.empty then [] else (Txt.split (Str.join "," (es.map entT)) ",").map ent1), if folT f = "-" then .none else num1 (folT f)] = _
      rw [back ent1 fun e he => by obtain ⟨k, w, rfl, hk⟩ := h3 e he; exact (ent_text hk).1]
      rcases h4 with rfl | ⟨i, rfl, hi⟩
      · rfl
      · rw [if_neg (show folT (.int i) ≠ "-" from num_ne i hi), show num1 (folT (.int i)) = .int i from num1_num i]
    · unfold cont2
      rw [if_neg hm, hs]
      show PyData.tuple [.str low, .tuple (if Str.join "," (es.map entT) = Str.empty then [] else (Txt.split (Str.join "," (es.map entT)) ",").map ent2), fol2 (folT f)] = _
      rw [back ent2 fun e he => by obtain ⟨k, w, rfl, hk⟩ := h3 e he; exact (ent_text hk).2.1]
      rcases h4 with rfl | ⟨i, rfl, hi⟩
      · rfl
      · have e2 : fol2 (folT (.int i)) = .int i := by
          unfold fol2
          rw [if_neg (show folT (.int i) ≠ "-" from num_ne i hi), show num2 (folT (.int i)) = .int i from num2_num i]
        rw [e2]
    · rw [e]
      exact ((((c1.mono (by simp)).app ((sep_cls sepL).mono (by simp))).app (c2.mono (by simp))).app ((sep_cls sepL).mono (by simp))).app (c3.mono (by simp))
end K61
end

section
set_option Elab.async false
set_option linter.all false
set_option maxRecDepth 100000
set_option maxHeartbeats 4000000
/-! plain: the readers agree -/
namespace K61
open PySem PySem.Spec TL
theorem many_cls {h : Str} {n : Nat} (e : manyOf h = some n) : Cls [] h := by
  unfold manyOf at e
  obtain ⟨_, _, _, _, _, _, _, _, c9, c10, c11, _⟩ := lit_cls
  split at e
  · rename_i z; rw [z]; exact c9
  · split at e
    · rename_i z; rw [z]; exact c10
    · split at e
      · rename_i z; rw [z]; exact c11
      · cases e
theorem isI_int {x : PyData} (h : isI x = true) : ∃ i, x = .int i := by
  cases x with
  | int i => exact ⟨i, rfl⟩
  | _ => cases h
theorem ints_back {r : List PyData} (g : Str → PyData) (hg : ∀ i, g (numS i) = .int i) (h : r.all isI = true) : (r.map txt).map g = r := by
  rw [List.map_map]
  refine (List.map_congr_left fun x hx => ?_).trans (List.map_id _)
  obtain ⟨i, rfl⟩ := isI_int (List.all_eq_true.mp h x hx)
  exact hg i
abbrev BIG : List Nat := [61, 44, 47]
theorem split_words {ws : List Str} (hne : ws ≠ []) (h : ∀ w ∈ ws, Cls BIG w) : Txt.split (Str.join " " ws) " " = ws := by
  rw [← join_eq]
  exact split_join (s := 32) (S := []) sepS.e sepS.k hne fun p hp => (h p hp).free no_sep.1 (by decide)
/-- the words of a valid row -/
theorem row_split {d : PyData} (hv : rowD d = true) : Txt.split (rowT d) " " = rowW (itemsD d) := by
  obtain ⟨n1, n2, n3, n4, n5, n6, n7, n8, n9, n10, n11, n12, n13, n14, n15⟩ := lits
  obtain ⟨q1, q2, q3, q4, q5, q6, q7⟩ := lits3
  obtain ⟨c1, c2, c3, c4, c5, c6, c7, c8, c9, c10, c11, c12⟩ := lit_cls
  have up : ∀ {s : Str}, Cls [] s → Cls BIG s := fun h => h.mono (by simp)
  have un := fun i => up (num_cls i)
  unfold rowT
  cases row_cases hv with
  | start a ha =>
    refine split_words (by rw [show rowW (itemsD (.tuple [.str "start", .int a])) = _ from rowW_plain q4 q5 q1]; simp) fun w hw => ?_
    rw [show rowW (itemsD (.tuple [.str "start", .int a])) = [("start" : Str), numS a] from rowW_plain q4 q5 q1] at hw
    simp only [List.mem_cons, List.not_mem_nil, or_false] at hw
    rcases hw with rfl | rfl
    · exact up c1
    · exact un a
  | page a b c d ha hb hc hd =>
    have e : rowW (itemsD (.tuple [.str "page", .int a, .int b, c, d])) = [("page" : Str), numS a, numS b, contT c, contT d] := rowW_page (.inl rfl)
    rw [e]
    refine split_words (by simp) fun w hw => ?_
    simp only [List.mem_cons, List.not_mem_nil, or_false] at hw
    rcases hw with rfl | rfl | rfl | rfl | rfl
    · exact up c2
    · exact un a
    · exact un b
    · exact (cont_text hc).2.2
    · exact (cont_text hd).2.2
  | un a b c ha hb hc =>
    have e : rowW (itemsD (.tuple [.str "unpage", .int a, .int b, c])) = [("unpage" : Str), numS a, numS b, contT c] := rowW_page (.inr rfl)
    rw [e]
    refine split_words (by simp) fun w hw => ?_
    simp only [List.mem_cons, List.not_mem_nil, or_false] at hw
    rcases hw with rfl | rfl | rfl | rfl
    · exact up c3
    · exact un a
    · exact un b
    · exact (cont_text hc).2.2
  | fin a w0 ha hw0 =>
    have e : rowW (itemsD (.tuple [.str "end", .int a, .str w0])) = [("end" : Str), numS a, w0] := rowW_plain n7 n10 q2
    rw [e]
    refine split_words (by simp) fun w hw => ?_
    simp only [List.mem_cons, List.not_mem_nil, or_false] at hw
    rcases hw with rfl | rfl | rfl
    · exact up c4
    · exact un a
    · rcases hw0 with rfl | rfl
      · exact up c7
      · exact up c8
  | comp a b c ha hb hc =>
    have e : rowW (itemsD (.tuple [.str "comp", .int a, .int b, .int c])) = [("comp" : Str), numS a, numS b, numS c] := rowW_plain n9 n12 q3
    rw [e]
    refine split_words (by simp) fun w hw => ?_
    simp only [List.mem_cons, List.not_mem_nil, or_false] at hw
    rcases hw with rfl | rfl | rfl | rfl
    · exact up c6
    · exact un a
    · exact un b
    · exact un c
  | op a b h k r ha hb hk hm hr =>
    have e : rowW (itemsD (.tuple [.str "op", .int a, .int b, .tuple (.str h :: .str k :: r)])) = ("op" : Str) :: numS a :: numS b :: h :: k :: r.map txt := rowW_op
    rw [e]
    refine split_words (by simp) fun w hw => ?_
    simp only [List.mem_cons, List.mem_map] at hw
    rcases hw with rfl | rfl | rfl | rfl | rfl | ⟨x, hx, rfl⟩
    · exact up c5
    · exact un a
    · exact un b
    · exact up (many_cls hm)
    · exact up (key_cls hk)
    · obtain ⟨i, rfl⟩ := isI_int (List.all_eq_true.mp hr x hx)
      exact un i
theorem rowP_back {d : PyData} (hv : rowD d = true) : rowP (rowT d) = d := by
  obtain ⟨n1, n2, n3, n4, n5, n6, n7, n8, n9, n10, n11, n12, n13, n14, n15⟩ := lits
  obtain ⟨q1, q2, q3, q4, q5, q6, q7⟩ := lits3
  have hs := row_split hv
  unfold rowP
  rw [hs]
  cases row_cases hv with
  | start a ha =>
    have e : rowW (itemsD (.tuple [.str "start", .int a])) = [("start" : Str), numS a] := rowW_plain q4 q5 q1
    rw [e]
    simp only [List.headD, q4, q5, q1, q6, false_or, false_and, ↓reduceIte, true_or]
    show PyData.tuple [.str "start", num1 (numS a)] = _
    rw [num1_num]
  | page a b c d ha hb hc hd =>
    have e : rowW (itemsD (.tuple [.str "page", .int a, .int b, c, d])) = [("page" : Str), numS a, numS b, contT c, contT d] := rowW_page (.inl rfl)
    rw [e]
    have z : ((("page" : Str) = "page" ∨ ("page" : Str) = "unpage") ∧ 3 < [("page" : Str), numS a, numS b, contT c, contT d].length) := ⟨.inl rfl, by simp⟩
    show (if _ then PyData.tuple [.str "page", num1 (numS a), num1 (numS b), cont1 (contT c), cont1 (contT d)] else _) = _
    refine (if_pos z).trans ?_
    rw [num1_num, num1_num, (cont_text hc).1, (cont_text hd).1]
  | un a b c ha hb hc =>
    have e : rowW (itemsD (.tuple [.str "unpage", .int a, .int b, c])) = [("unpage" : Str), numS a, numS b, contT c] := rowW_page (.inr rfl)
    rw [e]
    have z : ((("unpage" : Str) = "page" ∨ ("unpage" : Str) = "unpage") ∧ 3 < [("unpage" : Str), numS a, numS b, contT c].length) := ⟨.inr rfl, by simp⟩
    show (if _ then PyData.tuple [.str "unpage", num1 (numS a), num1 (numS b), cont1 (contT c)] else _) = _
    refine (if_pos z).trans ?_
    rw [num1_num, num1_num, (cont_text hc).1]
  | fin a w0 ha hw0 =>
    have e : rowW (itemsD (.tuple [.str "end", .int a, .str w0])) = [("end" : Str), numS a, w0] := rowW_plain n7 n10 q2
    rw [e]
    simp only [List.headD, n7, n10, q2, false_or, false_and, ↓reduceIte, List.length_cons, List.length_nil, true_and]
    show PyData.tuple [.str "end", num1 (numS a), .str w0] = _
    rw [num1_num]
  | comp a b c ha hb hc =>
    have e : rowW (itemsD (.tuple [.str "comp", .int a, .int b, .int c])) = [("comp" : Str), numS a, numS b, numS c] := rowW_plain n9 n12 q3
    rw [e]
    simp only [List.headD, n9, n12, q3, n14, false_or, false_and, ↓reduceIte, or_true]
    show PyData.tuple [.str "comp", num1 (numS a), num1 (numS b), num1 (numS c)] = _
    rw [num1_num, num1_num, num1_num]
  | op a b h k r ha hb hk hm hr =>
    have e : rowW (itemsD (.tuple [.str "op", .int a, .int b, .tuple (.str h :: .str k :: r)])) = ("op" : Str) :: numS a :: numS b :: h :: k :: r.map txt := rowW_op
    rw [e]
    have z : ("op" : Str) = "op" ∧ 4 < (("op" : Str) :: numS a :: numS b :: h :: k :: r.map txt).length := ⟨rfl, by simp⟩
    simp only [List.headD, n8, n11, false_or, false_and, ↓reduceIte]
    refine (if_pos ⟨True.intro, z.2⟩).trans ?_
    show PyData.tuple [.str "op", num1 (numS a), num1 (numS b), .tuple (.str h :: .str k :: (r.map txt).map num1)] = _
    rw [num1_num, num1_num, ints_back num1 num1_num hr]
theorem put_op {ws : List Str} (h : ws.headD Str.empty = "op") {i : Nat} (hi : 4 ≤ i) (w : Str) : put2 ws i w = [] := by
  obtain ⟨n1, n2, n3, n4, n5, n6, n7, n8, n9, n10, n11, n12, n13, n14, n15⟩ := lits
  unfold put2
  simp only [h, n8, n11, false_or, false_and, ↓reduceIte, ne_eq, not_true_eq_false]
  rw [if_neg (by omega), if_neg (by omega)]
theorem flat_nil {ws : List Str} (h : ws.headD Str.empty = "op") : ∀ (l : List Str) (k : Nat), 4 ≤ k → ((l.zipIdx k).map fun p => put2 ws p.2 p.1).flatten = []
  | [], _, _ => rfl
  | x :: r, k, hk => by
    show put2 ws k x ++ ((r.zipIdx (k + 1)).map fun p => put2 ws p.2 p.1).flatten = []
    rw [put_op h hk, flat_nil h r (k + 1) (by omega)] <;> rfl
theorem rowQ_back {d : PyData} (hv : rowD d = true) : rowQ (rowT d) = d := by
  obtain ⟨n1, n2, n3, n4, n5, n6, n7, n8, n9, n10, n11, n12, n13, n14, n15⟩ := lits
  obtain ⟨q1, q2, q3, q4, q5, q6, q7⟩ := lits3
  have hs := row_split hv
  unfold rowQ
  rw [hs]
  cases row_cases hv with
  | start a ha =>
    have e : rowW (itemsD (.tuple [.str "start", .int a])) = [("start" : Str), numS a] := rowW_plain q4 q5 q1
    rw [e]
    have p0 : put2 [("start" : Str), numS a] 0 "start" = [.str "start"] := by simp [put2, q4, q5, q1]
    have p1 : put2 [("start" : Str), numS a] 1 (numS a) = [.int a] := by simp [put2, q4, q5, q1, num2_num]
    show PyData.tuple (put2 _ 0 _ ++ (put2 _ 1 _ ++ [])) = _
    rw [p0, p1] <;> rfl
  | page a b c d ha hb hc hd =>
    have e : rowW (itemsD (.tuple [.str "page", .int a, .int b, c, d])) = [("page" : Str), numS a, numS b, contT c, contT d] := rowW_page (.inl rfl)
    rw [e]
    have p0 : put2 [("page" : Str), numS a, numS b, contT c, contT d] 0 "page" = [.str "page"] := by simp [put2, n8.symm]
    have p1 : put2 [("page" : Str), numS a, numS b, contT c, contT d] 1 (numS a) = [.int a] := by simp [put2, n8.symm, num2_num]
    have p2 : put2 [("page" : Str), numS a, numS b, contT c, contT d] 2 (numS b) = [.int b] := by simp [put2, n8.symm, n7.symm, num2_num]
    have p3 : put2 [("page" : Str), numS a, numS b, contT c, contT d] 3 (contT c) = [c] := by simp [put2, (cont_text hc).2.1]
    have p4 : put2 [("page" : Str), numS a, numS b, contT c, contT d] 4 (contT d) = [d] := by simp [put2, (cont_text hd).2.1]
    show PyData.tuple (put2 _ 0 _ ++ (put2 _ 1 _ ++ (put2 _ 2 _ ++ (put2 _ 3 _ ++ (put2 _ 4 _ ++ []))))) = _
    rw [p0, p1, p2, p3, p4] <;> rfl
  | un a b c ha hb hc =>
    have e : rowW (itemsD (.tuple [.str "unpage", .int a, .int b, c])) = [("unpage" : Str), numS a, numS b, contT c] := rowW_page (.inr rfl)
    rw [e]
    have p0 : put2 [("unpage" : Str), numS a, numS b, contT c] 0 "unpage" = [.str "unpage"] := by simp [put2, n11.symm]
    have p1 : put2 [("unpage" : Str), numS a, numS b, contT c] 1 (numS a) = [.int a] := by simp [put2, n11.symm, num2_num]
    have p2 : put2 [("unpage" : Str), numS a, numS b, contT c] 2 (numS b) = [.int b] := by simp [put2, n11.symm, n10.symm, num2_num]
    have p3 : put2 [("unpage" : Str), numS a, numS b, contT c] 3 (contT c) = [c] := by simp [put2, (cont_text hc).2.1]
    show PyData.tuple (put2 _ 0 _ ++ (put2 _ 1 _ ++ (put2 _ 2 _ ++ (put2 _ 3 _ ++ [])))) = _
    rw [p0, p1, p2, p3] <;> rfl
  | fin a w0 ha hw0 =>
    have e : rowW (itemsD (.tuple [.str "end", .int a, .str w0])) = [("end" : Str), numS a, w0] := rowW_plain n7 n10 q2
    rw [e]
    have p0 : put2 [("end" : Str), numS a, w0] 0 "end" = [.str "end"] := by simp [put2, n7, n10, q2]
    have p1 : put2 [("end" : Str), numS a, w0] 1 (numS a) = [.int a] := by simp [put2, n7, n10, q2, num2_num]
    have p2 : put2 [("end" : Str), numS a, w0] 2 w0 = [.str w0] := by simp [put2, n7, n10, q2]
    show PyData.tuple (put2 _ 0 _ ++ (put2 _ 1 _ ++ (put2 _ 2 _ ++ []))) = _
    rw [p0, p1, p2] <;> rfl
  | comp a b c ha hb hc =>
    have e : rowW (itemsD (.tuple [.str "comp", .int a, .int b, .int c])) = [("comp" : Str), numS a, numS b, numS c] := rowW_plain n9 n12 q3
    rw [e]
    have p0 : put2 [("comp" : Str), numS a, numS b, numS c] 0 "comp" = [.str "comp"] := by simp [put2, n9, n12, q3]
    have p1 : put2 [("comp" : Str), numS a, numS b, numS c] 1 (numS a) = [.int a] := by simp [put2, n9, n12, q3, num2_num]
    have p2 : put2 [("comp" : Str), numS a, numS b, numS c] 2 (numS b) = [.int b] := by simp [put2, n9, n12, q3, n14, num2_num]
    have p3 : put2 [("comp" : Str), numS a, numS b, numS c] 3 (numS c) = [.int c] := by simp [put2, n9, n12, q3, n14, num2_num]
    show PyData.tuple (put2 _ 0 _ ++ (put2 _ 1 _ ++ (put2 _ 2 _ ++ (put2 _ 3 _ ++ [])))) = _
    rw [p0, p1, p2, p3] <;> rfl
  | op a b h k r ha hb hk hm hr =>
    have e : rowW (itemsD (.tuple [.str "op", .int a, .int b, .tuple (.str h :: .str k :: r)])) = ("op" : Str) :: numS a :: numS b :: h :: k :: r.map txt := rowW_op
    rw [e]
    have p0 : put2 (("op" : Str) :: numS a :: numS b :: h :: k :: r.map txt) 0 "op" = [.str "op"] := by simp [put2, n8, n11]
    have p1 : put2 (("op" : Str) :: numS a :: numS b :: h :: k :: r.map txt) 1 (numS a) = [.int a] := by simp [put2, n8, n11, n13, num2_num]
    have p2 : put2 (("op" : Str) :: numS a :: numS b :: h :: k :: r.map txt) 2 (numS b) = [.int b] := by simp [put2, n8, n11, n13, num2_num]
    have p3 : put2 (("op" : Str) :: numS a :: numS b :: h :: k :: r.map txt) 3 h = [.tuple (.str h :: .str k :: (r.map txt).map num2)] := by
      unfold put2
      simp only [List.headD, n8, n11, false_or, false_and, ↓reduceIte, and_self]
      rfl
    have p4 := flat_nil (ws := ("op" : Str) :: numS a :: numS b :: h :: k :: r.map txt) rfl (k :: r.map txt) 4 (Nat.le_refl _)
    show PyData.tuple (put2 _ 0 _ ++ (put2 _ 1 _ ++ (put2 _ 2 _ ++ (put2 _ 3 _ ++ (((k :: r.map txt).zipIdx 4).map fun p => put2 (("op" : Str) :: numS a :: numS b :: h :: k :: r.map txt) p.2 p.1).flatten)))) = _
    rw [p0, p1, p2, p3, p4, ints_back num2 num2_num hr] <;> rfl
/-- THE READERS AGREE -/
theorem readers (s : Str) : read1 s = read2 s := by
  unfold read1 read2
  by_cases h1 : rowD (rowP s) = true ∧ rowT (rowP s) = s
  · have e : rowQ s = rowP s := by
      have := rowQ_back h1.1
      rw [h1.2] at this
      exact this
    rw [if_pos h1, e, if_pos h1]
  · rw [if_neg h1]
    by_cases h2 : rowD (rowQ s) = true ∧ rowT (rowQ s) = s
    · have e : rowP s = rowQ s := by
        have := rowP_back h2.1
        rw [h2.2] at this
        exact this
      rw [e] at h1
      exact absurd h2 h1
    · rw [if_neg h2]
theorem read_back {d : PyData} (h : rowD d = true) : read1 (rowT d) = d := by
  unfold read1
  rw [rowP_back h, if_pos ⟨h, rfl⟩]
theorem read_valid (s : Str) : read2 s = .none ∨ (rowD (read2 s) = true ∧ rowT (read2 s) = s) := by
  unfold read2
  split
  · rename_i h; exact .inr h
  · exact .inl rfl
end K61
end

section
set_option Elab.async false
set_option linter.all false
set_option maxRecDepth 100000
set_option maxHeartbeats 4000000
/-! BadText: made, raised, its field read -/
namespace PySem
namespace K61X
open PySem.W PySem.Calls PyProof.Rows PySem.HandSPX
section
open Builtin Builtin.ObjectAttr
variable {prog : Program} {w : World} {A : Around} {E : Value → Shared → Prop} {R : Result → Shared → Prop} {hp : Heap} {g : Array GenState} {d : Drawn} {t : Nat} {os : OsState}
/-- the first store into an exception over Exception -/
theorem osaE {K : W.Frag} {name : Str} {tk : Tok} {v : Value} {x C : Addr} {fv : Array Value}
    (X : K.In hp) (hx : hp.get? x = some { cls := .ref C, data := .fields fv }) (ho : W.excOver K C [.type "Exception", .type "BaseException", .type "object"] = true) (hh : W.hasDictIn K C = true) (ha : W.findIn K (.ref C) name = some none)
    (hq : ∀ h' tk' dx, (∀ b o, b ≠ x → hp.get? b = some o → h'.get? b = some o) → hp.objs.size ≤ dx → dx ≠ x → h'.get? x = some { cls := .ref C, dict := some dx, data := .fields fv } →
      h'.Ns1 dx (fun y => if y = name then some v else none) → R (.ok (.ret .none)) ⟨h', g, d, tk', os⟩) :
    codeAny (model prog w) A (.call (.builtin "object.__setattr__") ⟨[.ref x, .str name tk, v], []⟩) R ⟨hp, g, d, t, os⟩ := by
  have hxs : x ≠ hp.objs.size := Nat.ne_of_lt (Heap.lt_size hx)
  have ht : W.takerIn K C name = some none := by
    unfold W.takerIn
    rw [ha] <;> rfl
  refine W.osa_openX (od := none) (s := ⟨hp, g, d, t, os⟩) F.store_Exception X ⟨hx, rfl, rfl, trivial⟩ ho ht fun b => ?_
  obtain ⟨cd, hcd, hd0⟩ := W.any_some hh
  have hcls : W.Looks (model prog w) hp (classData C) cd := W.looks_clsIn X hcd
  obtain ⟨nm, bs, mro, ns, qn, hd, sn, sb, ab, col, del⟩ := cd
  dsimp only at hd0
  subst hd0
  show wpAny _ _ (storeInOwnDict (.ref x) (.ref C) (.str name tk) name v b) _ _ _
  unfold storeInOwnDict ownDictForStores
  repeat (first | with_reducible refine store_in_new ?_ ?_ | with_reducible refine wpAny_loadPart_at hx ?_ | with_reducible refine hcls.at ?_ | wp_step)
  · exact ⟨_, #[], _, (Heap.get?_update_ne _ _ _ _ hxs.symm).trans (Heap.get?_push_at rfl rfl), rfl, fun e he => absurd he (by simp), fun _ => rfl⟩
  · intro h' tk' hn' hs
    have hx₁ : (hp.push { cls := .type "dict", data := .dict #[] }).get? x = some { cls := .ref C, data := .fields fv } := Heap.get?_push_of_some _ hx
    refine hq h' tk' hp.objs.size (fun b o hb ho => ?_) (Nat.le_refl _) hxs.symm ?_ hn'
    · exact (hs.2 b (Nat.ne_of_lt (Heap.lt_size ho))).trans ((Heap.get?_update_ne _ _ _ _ hb).trans (Heap.get?_push_of_some _ ho))
    · exact (hs.2 x hxs).trans (Heap.get?_update_self _ hx₁ rfl)
end
/-- what the written part says of BadText, at C, its __init__ at fI -/
structure BtTxt (K : Frag) (mg : Str → Option Value) (C fI : Addr) : Prop where
  gC : mg "BadText" = some (.ref C)
  mk0 : excInitIn K C [.type "Exception", .type "BaseException", .type "object"] "Exception.__new__" = true
  over : excOver K C [.type "Exception", .type "BaseException", .type "object"] = true
  xf : L2.XfC K C
  sa : findIn K (.ref C) "__setattr__" = some (some (.builtin "object.__setattr__"))
  noN : findIn K (.ref C) "thing" = some none
  iC : findIn K (.ref C) "__init__" = some (some (.ref fI))
  tI : typeIn K (.ref fI) = some (.type "function")
  kC : keepIn K (.ref C) = true
  tyC : typeIn K (.ref C) = some (.type "type")
  te : exmOne K (.ref C) (.ref C) = some true
  fn : ∃ fd, L2.FunD K "__init__" "BadText.__init__" (L2.defArgs K61.s_bt_init) (L2.defBody K61.s_bt_init) (L2.defScope K61.s_bt_init) [] [] fI fd
theorem one_size (v : Value) : [v].length ≤ sizeLine := by
  rw [sizeLine_eq]
  exact (by decide : 1 ≤ 16777216)
theorem ldC {M : Model} {s : Shared} {name : Str} {scope : Scope} {L a : Addr} {cd : Value} {m : Str → Option Value} {x : Str} {pos : Pos} {v : Value} {Q : Value → Shared → Prop} {A : Around} {E : Value → Shared → Prop} (hn : s.heap.Ns L m) (hv : m x = some v) (h : Q v s)
    (hk : scope.kind = .function) (hl : (envOfC name scope L a cd).kindOf x = some .local) (hd : (x == ("__debug__" : Str)) = false := by decide) :
    wpAny M A (eval (.Name x pos) (envOfC name scope L a cd)) Q E s := wpAny_Name (wpAny_loadName_local hk hl hn hv h) hd
/-- what __init__ leaves of a fresh exception at x -/
structure InitEnd (h h' : Heap) (x C dx t1 : Addr) (v : Value) : Prop where
  keep : ∀ b o, b ≠ x → h.get? b = some o → h'.get? b = some o
  obj : h'.get? x = some { cls := .ref C, dict := some dx, data := .fields #[.ref t1, .none, .none, .none, .bool false, .none] }
  dbig : h.objs.size ≤ dx
  dne : dx ≠ x
  ns : h'.Ns1 dx (fun y => if y = "thing" then some v else none)
/-- a made BadText -/
structure OwnMade (h h' : Heap) (e C d : Addr) (v : Value) : Prop where
  keep : ∀ b o, h.get? b = some o → h'.get? b = some o
  new : h.objs.size ≤ e
  obj : ∃ oe vs, h'.get? e = some oe ∧ oe.cls = .ref C ∧ oe.dict = some d ∧ oe.data = .fields vs ∧ vs[1]? = some .none
  dbig : h.objs.size ≤ d
  dne : d ≠ e
  ns : h'.Ns1 d (fun y => if y = "thing" then some v else none)
/-- the body's one statement -/
theorem bt_body : ∃ q1 q2 q3 q4 : Pos, L2.defBody K61.s_bt_init = [.Assign [.Attribute (.Name "self" q1) "thing" q2] (.Name "thing" q3) q4] := ⟨_, _, _, _, rfl⟩
theorem bt_scope : (L2.defScope K61.s_bt_init).kind = .function ∧ (L2.defScope K61.s_bt_init).isCoroutine = false ∧ (L2.defScope K61.s_bt_init).isGenerator = false ∧ (L2.defScope K61.s_bt_init).names.lookup ("self" : Str) = some .local ∧ (L2.defScope K61.s_bt_init).names.lookup ("thing" : Str) = some .local := by
  refine ⟨by kernel_rfl, by kernel_rfl, by kernel_rfl, by kernel_rfl, by kernel_rfl⟩
section
variable {prog : Program} {w : World} {A : Around} {E : Value → Shared → Prop} {R : Result → Shared → Prop} {s : Shared} {K : Frag} {mg : Str → Option Value} {C fI : Addr}
theorem bt_init (T : BtTxt K mg C fI) {x t0 : Addr} {v : Value} (X : K.In s.heap) (hlim : s.heap.NoLimit) (hx : s.heap.get? x = some (excO C t0)) (hroom : A.depth < recursionLimit)
    (hq : ∀ h' tk dx, InitEnd s.heap h' x C dx t0 v → R (.ok (.ret .none)) { s with heap := h', toks := tk }) :
    codeAny (model prog w) A (.call (.ref fI) ⟨[.ref x, v], []⟩) R s := by
  obtain ⟨fd, FD⟩ := T.fn
  obtain ⟨oc, od, dV, kV, doc, pm, an, cdv, ct, osl, efd, ho, hcd, hD, hK⟩ := FD.ex
  obtain ⟨q1, q2, q3, q4, hbody⟩ := bt_body
  obtain ⟨sk, sco, sgen, sn1, sn2⟩ := bt_scope
  have hb := FD.bindsA (ps := ["self", "thing"]) (fun _ _ _ _ _ _ us hl => match us, hl with | [_, _], _ => rfl) s [.ref x, v] rfl
  rw [efd] at ho hb
  refine Att.call_fn (binds := [("self", .ref x), ("thing", v)]) X hlim ho hcd hroom hb ?_ (fun s₁ IC => ?_) sco sgen sk
  · show (((L2.defScope K61.s_bt_init).names.lookup ("self" : Str) == some .local || _) && (((L2.defScope K61.s_bt_init).names.lookup ("thing" : Str) == some .local || _) && true)) = true
    rw [sn1, sn2] <;> rfl
  obtain ⟨h₁, tk₁, rfl⟩ := IC.toInCall.same
  have k : ∀ b o, s.heap.get? b = some o → h₁.get? b = some o := IC.toInCall.keep
  have hn := IC.toInCall.ns
  have hxL : s.heap.objs.size ≠ x := Nat.ne_of_gt (Heap.lt_size hx)
  have X₁ : K.In h₁ := X.keeps k
  have hx₁ := k _ _ hx
  have kl1 : (envOfC "BadText.__init__" (L2.defScope K61.s_bt_init) s.heap.objs.size fI cdv).kindOf "self" = some .local := sn1
  have kl2 : (envOfC "BadText.__init__" (L2.defScope K61.s_bt_init) s.heap.objs.size fI cdv).kindOf "thing" = some .local := sn2
  rw [hbody]
  refine wpAny_execs_cons (plainObj_wpAny_Assign_Attribute ?_)
  refine ldC (v := v) hn ?_ (ldC (v := .ref x) hn ?_ ?_ sk kl1) sk kl2
  · show bindL _ _ _ _ = _
    simp only [bindL, kl1, kl2]
    rfl
  · show bindL _ _ _ _ = _
    simp only [bindL, kl1, kl2]
    rfl
  refine set_plain X₁ (ox := excO C t0) (od := none) ⟨hx₁, rfl, rfl, trivial⟩ T.sa ?_
  refine osaE X₁ hx₁ T.over T.xf.hdC T.noN (fun h₃ tk₃ dx k₃ dn dne hx₃ hn₃ => ?_)
  have z : s.heap.objs.size < h₁.objs.size := hn.lt
  exact wpAny_execs_nil (hq h₃ tk₃ dx ⟨fun b o hb e => k₃ b o hb (k b o e), hx₃, Nat.le_of_lt (Nat.lt_of_lt_of_le z dn), dne, hn₃⟩)
theorem bt_made (T : BtTxt K mg C fI) {v : Value} (X : K.In s.heap) (hlim : s.heap.NoLimit) (hroom : A.depth + 1 < recursionLimit)
    (hq : ∀ h' tk e d, OwnMade s.heap h' e C d v → R (.ok (.ret (.ref e))) { s with heap := h', toks := tk }) :
    codeAny (model prog w) A (.call (.ref C) ⟨[v], []⟩) R s := by
  obtain ⟨nm, N, q, bs, bm, hdct, sn, sub, ab, col, dd, k0, k1, k2, k3, k5, hC, hT⟩ := excInit_of X T.mk0
  obtain ⟨hp, g, dr, tk, os⟩ := s
  have k : ∀ b o, hp.get? b = some o → ((hp.push (kdv_tup [v])).push (excO C hp.objs.size)).get? b = some o := fun b o e => Heap.get?_push_of_some _ (Heap.get?_push_of_some _ e)
  have hget : ((hp.push (kdv_tup [v])).push (excO C hp.objs.size)).get? (hp.objs.size + 1) = some (excO C hp.objs.size) := by heap_get
  refine call_own F.excBase_Exception hT hC (looks_findIn X T.iC) (fun self => bind_fn X self T.tI) (one_size v) ?_
  refine bt_init (s := ⟨(hp.push (kdv_tup [v])).push (excO C hp.objs.size), g, dr, tk, os⟩) T (X.keeps k) (hlim.keeps k) hget ?_ fun h' tk' dx ⟨k', hx, dn, dne, hns⟩ => ?_
  · show A.depth + 1 < recursionLimit
    exact hroom
  · have old : ∀ b o, hp.get? b = some o → h'.get? b = some o := fun b o e => k' b o (Nat.ne_of_lt (Nat.lt_succ_of_lt (Heap.lt_size e))) (k b o e)
    have z : hp.objs.size + 1 + 1 ≤ dx := by
      first
        | (simpa only [Heap.size_push] using dn)
        | exact dn
        | (have q := dn; rw [Heap.size_push, Heap.size_push] at q; exact q)
    exact ⟨rfl, hq h' tk' (hp.objs.size + 1) dx ⟨old, Nat.le_succ _, ⟨_, _, hx, rfl, rfl, rfl, rfl⟩, Nat.le_trans (Nat.le_trans (Nat.le_succ _) (Nat.le_succ _)) z, dne, hns⟩⟩
end
end K61X
end PySem
namespace L2
open PySem PySem.Spec PyProof.Rows
theorem relO_one {n : Str} {v : V} {v' : Value} (r : RelV v v') (f : Str) : RelO (List.lookup f [(n, v)]) (if f = n then some v' else none) := by
  by_cases hw : f = n
  · subst hw
    rw [if_pos rfl]
    have q : List.lookup f [(f, v)] = some v := by simp [List.lookup]
    rw [q]
    exact r
  · rw [if_neg hw]
    have qw : (f == n) = false := by simpa using hw
    have q2 : List.lookup f [(n, v)] = none := by simp [List.lookup, qw]
    rw [q2]
    trivial
section
variable {X : Cx} {C fI : Addr}
/-- BadText(e) -/
def tMkBt (C : Addr) (ta : TA) : St → Hp → XK → Prop := fun σ H Q => ta σ H fun vs H1 => ∃ v, vs = [v] ∧ ∀ d, H1 d = none → Q (.ref C) (some d) (upd H1 d (.xd [(("thing" : Str), v)]))
theorem pmk_bt {a : Expr} {ta : TA} {p pos : Pos} {k : Nat} (T : PySem.K61X.BtTxt X.K X.mg C fI) (hr : Room k X.A) (hk : 1 ≤ k) (ha : PA X [a] ta) (hg : Gl X "BadText" := by rfl)
    (he : starEach (a :: []) X.env = (false, eval a X.env) :: starEach [] X.env := by rfl) (hpl : (backTo pos (starEach [] X.env)).any (·.1) = false := by rfl) :
    PMk X (.Call (.Name "BadText" p) [a] [] pos) (tMkBt C ta) := by
  intro pins s σ H Q I h
  refine wpAny_Call_Name_kw (ld_glob I hg T.gC ?_)
  refine PySem.W.callWith_K (h₀ := X.base) I.ok.mod.kin T.kC (thn (ha.run pos pins s σ H _ I h) fun us s1 hh => ?_) he hpl
  obtain ⟨vs, H1, I1, r1, v, ev, q1⟩ := hh
  subst ev
  refine ⟨I1.kIn, ?_⟩
  cases r1 with
  | cons rv rn =>
    rename_i v' us'
    cases rn
    show wpAny _ _ (call (.ref C) [v']) _ _ _
    have hlim := I1.nolimit
    obtain ⟨hp, g, dr, tk, os⟩ := s1
    refine wpAny_call (PySem.K61X.bt_made T I1.kIn hlim (by have := hr.dp; omega) fun h' tk' e d M => ?_)
    show MkP X pins σ Q (.ref e) ⟨h', g, dr, tk', os⟩
    obtain ⟨oe, fv, hoe, hc, hd, hdat, h1⟩ := M.obj
    have hns := M.ns
    obtain ⟨G', g1, g2⟩ := restrict h' fun b => decide (b ≠ e)
    have gk : ∀ b, b ≠ e → G'.get? b = h'.get? b := fun b hb => g1 b (decide_eq_true hb)
    have ge : G'.get? e = none := g2 e (by simp)
    have old : ∀ b o, hp.get? b = some o → G'.get? b = some o := fun b o q => (gk b (Nat.ne_of_lt (Nat.lt_of_lt_of_le (Heap.lt_size q) M.new))).trans (M.keep b o q)
    have ob : ObjOk X.prog X.w (upd H1 d (.xd [(("thing" : Str), v)])) G' d (.xd [(("thing" : Str), v)]) :=
      ⟨_, hns.at (fun o q => (gk d M.dne).trans q), fun f => relO_one rv f⟩
    have J : Inv X pins σ (upd H1 d (.xd [(("thing" : Str), v)])) ⟨G', g, dr, tk', os⟩ := I1.laid (t' := tk') old M.dbig ob
    refine ⟨e, oe, fv, ⟨G', g, dr, tk', os⟩, _, .ref C, some d, rfl, J, fun b o q => ?_, ge, hoe, ⟨hc, hd⟩, hdat, h1, ?_, rfl, I1.bare, raises_own T.xf.exC T.tyC, q1 d (I1.hok.fresh M.dbig)⟩
    · by_cases hb : b = e
      · have q' : G'.get? b = some o := q
        rw [hb, ge] at q'; cases q'
      · exact (gk b hb).symm.trans q
    · rw [upd_ne (Ne.symm M.dne)]
      exact I1.hok.fresh M.new
/-- raise BadText(e) -/
def tRaiseBt (C : Addr) (W : WX) (ta : TA) : TS := fun _ σ H => tMkBt C ta σ H fun cls d H' => W cls d σ H'
theorem ps_raiseBt {a : Expr} {ta : TA} {W : WX} {p pos pos2 : Pos} {k : Nat} (hc : X.calm = true) (T : PySem.K61X.BtTxt X.K X.mg C fI) (hr : Room k X.A) (hk : 1 ≤ k) (tk : Takes X W) (ha : PA X [a] ta) (hg : Gl X "BadText" := by rfl)
    (he : starEach (a :: []) X.env = (false, eval a X.env) :: starEach [] X.env := by rfl) (hpl : (backTo pos (starEach [] X.env)).any (·.1) = false := by rfl) :
    PS X (.Raise (some (.Call (.Name "BadText" p) [a] [] pos)) none pos2) (tRaiseBt C W ta) := ps_raise hc tk (pmk_bt T hr hk ha hg he hpl)
end
end L2
namespace K61
open PySem PySem.Spec PyProof.Rows L2
theorem bt_of {K : PySem.W.Frag} {mg : Str → Option Value} (T : Gs K mg) : PySem.K61X.BtTxt K mg (He.ga K "BadText") (He.ma K (He.ga K "BadText") "__init__") := by
  obtain ⟨m0, m1⟩ := He.ba T.more
  obtain ⟨m2, m3⟩ := He.ba m1
  obtain ⟨m4, m5⟩ := He.ba m3
  obtain ⟨m6, m7⟩ := He.ba m5
  obtain ⟨m8, m9⟩ := He.ba m7
  obtain ⟨m10, m11⟩ := He.ba m9
  obtain ⟨m12, m13⟩ := He.ba m11
  exact ⟨T.g_BadText, m2, m13, xfB_ok m4, He.eqO_ok m6, He.eqO_ok T.n_BadText, He.eqO_ok m10, of_decide_eq_true m12, T.k_BadText, of_decide_eq_true m8, of_decide_eq_true T.x_BadText, T.i_BadText⟩
end K61
end

section
set_option Elab.async false
set_option linter.all false
set_option maxRecDepth 100000
set_option maxHeartbeats 4000000
/-! the program's ends: is_row, row_text, read_row; the law's tried -/
namespace K61
open PySem PySem.Spec PyProof.Rows L2
section
variable {K : PySem.W.Frag}
theorem ex_need_row {x : PyData} {P : PyData → Prop} (f : fine 5 x = true) (hc : rowD x = true) (h : P .none) : ∃ d, C_need_row [x] d ∧ P d := ⟨_, ⟨x, rfl, f, hc, rfl⟩, h⟩
theorem se_is_row_disks : SemD K C_is_row_disks (t_is_row_disks K) 1 1 := fun ds d ⟨x, e, f, hd⟩ => ⟨by rw [e] <;> rfl, by
  subst e hd
  show Sd K W0 (t_is_row_disks K) [.val x] _ _
  exact sd_ret (ed_call (ea_cons (ed_var rfl (ea_nil (ex_is_row_value f rfl)))))⟩
theorem se_need_row : SemD K C_need_row (t_need_row K) 1 1 := fun ds d ⟨x, e, f, hc, hd⟩ => ⟨by rw [e] <;> rfl, by
  subst e hd
  show Sd K W0 (t_need_row K) [.val x] _ _
  exact sd_if (et_not (et_tB (ed_call (ea_cons (ed_var rfl (ea_nil (ex_is_row_value f ⟨_, rfl, iff' (by rw [hc] <;> rfl) (sd_next rfl)⟩)))))))⟩
theorem se_row_text : SemD K C_row_text (t_row_text K) 1 1 := fun ds d ⟨x, e, f, hc, hd⟩ => ⟨by rw [e] <;> rfl, by
  subst e hd
  show Sd K W0 (t_row_text K) [.val x] _ _
  exact sd_seq (sd_drop (ed_call (ea_cons (ed_var rfl (ea_nil (ex_need_row f hc (sd_ret (ed_call (ea_cons (ed_var rfl (ea_nil (ex_text_of_row f hc rfl)))))))))))) ⟩
end
/-! ### read_row -/
/-- what reading a thing gives -/
def rd : PyData → PyData
  | .str s => read1 s
  | _ => .none
/-- texts are small -/
def okTx (x : PyData) : Prop := ∀ s, x = .str s → okS s
theorem ex_row_in {s : Str} {P : PyData → Prop} (f : okS s) (h : P (read1 s)) : ∃ d, C_row_in [.str s] d ∧ P d := ⟨_, ⟨s, rfl, f, rfl⟩, h⟩
def spRead (K : PySem.W.Frag) : Sp := fun vs H Q E => ∃ (W : Wd) (v : V) (x : PyData), vs = [v] ∧ W.inv H ∧ Dq K (hide W H) v x ∧ okTx x ∧
  (rd x ≠ .none → ∀ v' H', Xt W H H' → Dq K (hide W H') v' (rd x) → Q v' H') ∧
  (rd x = .none → ∀ H' d, Xt W H H' → H' d = none → E (.ref (He.ga K "BadText")) (some d) (upd H' d (.xd [(("thing" : Str), v)])))
def t_read_row (K : PySem.W.Frag) (E : XK) : TS :=
  tSeq (tAsg (tIf (tB (tCB (rIsi K) (tCons (tVar 0) (tCons (tC (.ty "str")) tNil)))) (tCall (sp_row_in K) [] E0 (tCons (tVar 0) tNil)) (tC .non)) (gName 1))
    (tSeq (tIfS (tTest (tOp qIsN (tVar 1) (tC .non))) (tRaiseBt (He.ga K "BadText") (fun cls d _ H => E cls d H) (tCons (tVar 0) tNil)) tNext) (tRet (tVar 1)))
theorem sc_read_row : FnScope ["text", "row"] ["text"] (defScope s_read_row) := ⟨rfl, rfl, rfl, by decide +kernel, rfl, by decide +kernel, by decide +kernel⟩
theorem eqv_non (d : PyData) : PyData.eqv d .none = true ↔ d = .none := by
  cases d with
  | none => simp [PyData.eqv]
  | _ => simp [PyData.eqv]
theorem pure_read {K : PySem.W.Frag} (vs : List V) (H : Hp) (Q : VK) (E : XK) (h : spRead K vs H Q E) : t_read_row K E { nx := fun _ H' => Q .non H', rt := Q } (L2.start ["text", "row"] vs) H := by
  obtain ⟨W, v, x, rfl, iv, r, ok, k1, k2⟩ := h
  have h1 : Ed K W0 (tIf (tB (tCB (rIsi K) (tCons (tVar 0) (tCons (tC (.ty "str")) tNil)))) (tCall (sp_row_in K) [] E0 (tCons (tVar 0) tNil)) (tC .non)) [.val x, .any] (fun d => d = rd x) := by
    cases x with
    | str s => exact ed_if (et_tB (ed_isi (by decide) (ed_var rfl ⟨_, rfl, ift rfl (ed_call (ea_cons (ed_var rfl (ea_nil (ex_row_in (ok s rfl) rfl)))))⟩)))
    | _ => exact ed_if (et_tB (ed_isi (by decide) (ed_var rfl ⟨_, rfl, iff' rfl (ed_non rfl)⟩)))
  have e0 : EnvD K (hide W H) [.val x, .any] (L2.start ["text", "row"] [v]) := .cons ⟨v, rfl, r⟩ (.cons True.intro .nil)
  refine h1 W (W0.le W) _ H _ iv e0 fun d v1 H1 x1 r1 hd => ?_
  subst hd
  have e1 : EnvD K (hide W H1) [.val x, .val (rd x)] [some v, some v1] := .cons ⟨v, rfl, r.mono x1.ex⟩ (.cons ⟨v1, rfl, r1⟩ .nil)
  have h2 : Et K W0 (tTest (tOp qIsN (tVar 1) (tC .non))) [.val x, .val (rd x)] (fun b => b = PyData.eqv (rd x) .none) := et_tTest (ed_isN (ed_var rfl ⟨_, rfl, rfl⟩))
  refine h2 W (W0.le W) [some v, some v1] H1 _ x1.inv e1 fun b H2 x2 hb => ?_
  by_cases hn : rd x = .none
  · rw [(eqv_non _).mpr hn] at hb
    subst hb
    refine ift rfl ?_
    exact ⟨v, rfl, v, rfl, fun d hd => k2 hn H2 d (x1.trans x2) hd⟩
  · have hb' : b = false := by
      rw [hb]
      cases q : PyData.eqv (rd x) .none with
      | true => exact absurd ((eqv_non _).mp q) hn
      | false => rfl
    subst hb'
    refine iff' rfl ?_
    exact ⟨v1, rfl, k1 hn v1 H2 (x1.trans x2) (r1.mono x2.ex)⟩
/-- a def that may raise keeps its promise -/
structure OkX (P : Program) (w : World) (K : PySem.W.Frag) (mg : Str → Option Value) (base : Heap) (g : Str) (k : Nat) (ps : List Str) (sp : Sp) : Prop where
  go : ∃ fd, FnOk P w K mg base (L2.CX P w) k (He.ga K g) fd ps sp ∧ Binds K fd ps []
  kp : PySem.W.keepIn K (.ref (He.ga K g)) = true
  gl : mg g = some (.ref (He.ga K g))
theorem ok_read_row {P : Program} {w : World} {K : PySem.W.Frag} {mg : Str → Option Value} {base : Heap} (T : Gs K mg) (G_row_in : OkF P w K mg base "row_in" 5 ["text"] (sp_row_in K)) : OkX P w K mg base "read_row" 6 ["text"] (spRead K) := by
  obtain ⟨fd, F⟩ := T.d_read_row
  have nd := sc_read_row.nd
  refine ⟨⟨fd, F.ok sc_read_row (fun vs H Q E ⟨W, v, x, e, _⟩ => by rw [e] <;> rfl) (fun cdv A outer s H vs Q E hr h => ⟨t_read_row K E, ?_, pure_read vs H Q E h⟩), F.bindsN fun _ _ _ _ _ _ us hl => match us, hl with | [_], _ => rfl⟩, F.kp, T.g_read_row⟩
  exact pss_cons (ps_set (i := 1) nd rfl (Or.inl rfl) (pe_ifExp (pt_val (pe_callB call_isi rfl T.f_isinstance boot_isinstance (pa_cons (pv 0) (pa_cons (pe_bltn rfl T.f_str boot_str rfl) pa_nil)))) (pe_cf G_row_in (hr.mono (by decide)) rfl (pa_cons (pv 0) pa_nil)) pe_non))
    (pss_cons (ps_if (pt_cmpR oq_isN (pv 1) pe_non (nomark _)) (pss_one (ps_raiseBt rfl (bt_of T) hr (by decide) (takes_of rfl rfl rfl rfl) (pa_cons (pv 0) pa_nil))) pss_nil)
      (pss_one (ps_ret (pv 1))))
/-! ### tried -/
def told (x : PyData) : PyData := match rd x with
  | .none => .tuple [.str "BadText", x]
  | d => .tuple [.str "returned", d]
def C_law_tried : Ct := fun ds d => ∃ x, ds = [x] ∧ okTx x ∧ d = told x
def ts_tried (K : PySem.W.Frag) : Addr → Value → Option Addr → TS := fun a cls d => tAsg (tTup (tCons (tC (.str "BadText")) (tCons (tXf a cls d (He.ga K "BadText") "thing" (tVar 2)) tNil))) (gName 1)
def t_try (K : PySem.W.Frag) : TS := fun D σ H =>
  tAsg (tTup (tCons (tC (.str "returned")) (tCons (tCallS (spRead K) (WE (wAs K (.ref (He.ga K "BadText")) 2 (ts_tried K) (fun _ _ _ _ => False) D)) (tCons (tVar 0) tNil)) tNil))) (gName 1) D σ H
def t_law_tried (K : PySem.W.Frag) : TS := tSeq (tAsg (tC .non) (gName 1)) (tSeq (t_try K) (tRet (tVar 1)))
theorem sc_law_tried : FnScope ["_law_text", "_law_told", "e"] ["_law_text"] (defScope s_law_tried) := ⟨rfl, rfl, rfl, by decide +kernel, rfl, by decide +kernel, by decide +kernel⟩
theorem se_law_tried {K : PySem.W.Frag} {mg : Str → Option Value} (T : Gs K mg) : SemD K C_law_tried (t_law_tried K) 1 3 := fun ds d ⟨x, e, ok, hd⟩ => ⟨by rw [e] <;> rfl, by
  subst e hd
  show Sd K W0 (t_law_tried K) [.val x, .any, .any] _ _
  unfold t_law_tried
  refine sd_seq (sd_asg (ed_non ?_))
  refine sd_seq (Sd.mono (N := fun ρ => ρ = [.val x, .val (told x), .any]) (R := fun _ => False) ?_ (fun ρ hρ => ?_) fun _ z => z.elim)
  · show Sd K W0 (t_try K) [.val x, .val .none, .any] _ _
    intro W l σ H D iv en k1 k2
    rcases en with _ | ⟨q1, en⟩
    rcases en with _ | ⟨q2, en⟩
    rcases en with _ | ⟨q3, en⟩
    cases en
    obtain ⟨v, rfl, rv⟩ := q1
    obtain ⟨v2, rfl, r2⟩ := q2
    · refine ⟨v, rfl, W, v, x, rfl, iv, rv, ok, fun hn v' H' x' r' => ?_, fun hn H' dd x' hd => ?_⟩
      · refine ⟨Evl.sz_of (by simp), fun p hp => ?_⟩
        have x2 := Xt.new (o := .tup [.str "returned", v']) x'.inv hp
        have e1 : told x = .tuple [.str "returned", rd x] := by
          unfold told
          split
          · rename_i z; exact absurd z hn
          · rfl
        refine k1 [.val x, .val (told x), .any] _ _ (x'.trans x2) ?_ rfl
        refine .cons ⟨v, rfl, rv.mono (x'.trans x2).ex⟩ (.cons ⟨_, rfl, ?_⟩ (.cons True.intro .nil))
        rw [e1]
        exact new_tup x'.inv hp (.cons (.str _) (.cons r' .nil))
      · refine ⟨true, (bt_of T).te, fun _ a ha => ?_, fun z => nomatch z⟩
        have x2 := Xt.new (o := .xd [(("thing" : Str), v)]) x'.inv hd
        refine ⟨.ref a, rfl, rfl, rfl, dd, _, v, rfl, upd_same, by simp [List.lookup], Evl.sz_of (by simp), fun p hp => ?_⟩
        have x3 := Xt.new (o := .tup [.str "BadText", v]) x2.inv hp
        have e1 : told x = .tuple [.str "BadText", x] := by unfold told; rw [hn]
        refine k1 [.val x, .val (told x), .any] _ _ ((x'.trans x2).trans x3) ?_ rfl
        refine .cons ⟨v, rfl, rv.mono ((x'.trans x2).trans x3).ex⟩ (.cons ⟨_, rfl, ?_⟩ (.cons True.intro .nil))
        rw [e1]
        exact new_tup x2.inv hp (.cons (.str _) (.cons (rv.mono (x'.trans x2).ex) .nil))
  · subst hρ
    exact sd_ret (ed_var rfl rfl)⟩
theorem ok_law_tried {P : Program} {w : World} {K : PySem.W.Frag} {mg : Str → Option Value} {base : Heap} (T : Gs K mg) (G : OkX P w K mg base "read_row" 6 ["text"] (spRead K)) : OkF P w K mg base "_law_tried" 7 ["_law_text"] (spR K C_law_tried) := by
  have nd := sc_law_tried.nd
  refine T.d_law_tried.okD T.g_law_tried sc_law_tried (se_law_tried T) (fun _ _ _ _ _ _ us hl => match us, hl with | [_], _ => rfl) fun cdv A outer s H E hr => ?_
  obtain ⟨fd, F, b⟩ := G.go
  have tX := bt_of T
  exact pss_cons (ps_set (i := 1) nd rfl (Or.inl rfl) pe_non)
    (pss_cons (ps_try_as (i := 2) (tb := fun W => tAsg (tTup (tCons (tC (.str "returned")) (tCons (tCallS (spRead K) (WE W) (tCons (tVar 0) tNil)) tNil))) (gName 1)) (ts := ts_tried K) (Wout := fun _ _ _ _ => False) rfl rfl nd rfl rfl ⟨rfl, by decide, Or.inl tX.gC⟩ L2.takes0
        (fun W pn xe tk _ => pss_one (ps_set (i := 1) nd rfl (Or.inl rfl) (pe_tup (pa_cons pe_str (pa_cons (by exact (pe_callS F (hr.mono (by decide)) rfl G.gl G.kp b (fun σ => L2.passAt tk σ) (by exact (pa_cons (pv 0) pa_nil)))) pa_nil)))))
        (fun a oe cls d pn hz hf => pss_one (ps_set (i := 1) nd rfl (Or.inl rfl) (pe_tup (pa_cons pe_str (pa_cons (by exact (pe_xf tX.xf tX.noN hz hf (pv 2))) pa_nil))))))
      (pss_one (ps_ret (pv 1))))
end K61
end

section
set_option Elab.async false
set_option linter.all false
set_option maxRecDepth 100000
set_option maxHeartbeats 4000000
/-! The deck: a world with a deck in it; what draws may give. -/
namespace K61
open PySem PySem.Spec PyProof.Rows L2
open Evl (Ex)
section
variable {K : PySem.W.Frag} {W : Wd} {ρ : List En} {te ta tb : TE} {tt : TT} {wi : TI} {g : TG} {gs vs : List Nat} {P : PyData → Prop}
/-! ### comprehensions whose items are not fixed -/
theorem paired_app {α β : Type} {F : α → β → Prop} : ∀ {a : List α} {b : List β} {c : List α} {d : List β}, Paired F a b → Paired F c d → Paired F (a ++ c) (b ++ d)
  | _, _, _, _, .nil, h => h
  | _, _, _, _, .cons x r, h => .cons x (paired_app r h)
theorem ed_lcR (hgs : ∀ i ∈ gs, i ∈ vs) (h : Ei K W wi ρ fun ds => ds.length ≤ 100000 ∧ ∃ (sel : PyData → Bool) (F : PyData → PyData → Prop),
    (∀ x ∈ ds, Eg K gs g x (wipeE ρ vs) fun ρ' => Et K W tt ρ' fun b => b = sel x ∧ (b = true → Ed K W te ρ' fun y => F x y)) ∧ ∀ ys, Paired F (ds.filter sel) ys → P (.list ys)) : Ed K W (tLc wi g tt te vs) ρ P := fun W' l σ H Q iv e q =>
  h W' l σ H _ iv e fun ds J H1 x1 ⟨G, Y, w, hG, hY⟩ ⟨hz, sel, F, hs, p⟩ => by
    intro Dl hD
    have ob := W'.out x1.inv hD
    -- behind i turns
    refine lc_it w (fun i H' => Xt W' H1 H' ∧ ∃ acc, H' Dl = some (.lst acc) ∧ acc.length ≤ i ∧ ∃ ys, DqAll K (hide (W'.add Dl (.lst acc)) H') acc ys ∧ Paired F ((ds.take i).filter sel) ys) ?_ (fun i H' _ pv => hG H' pv.1.ex) ?_ ?_
    · exact ⟨Xt.new x1.inv hD, [], upd_same, Nat.le_refl _, [], .nil, .nil⟩
    · rintro i x H2 H3 hi ⟨y2, acc, hacc, hl, ys, ra, pa⟩ hyx
      obtain ⟨d, hd⟩ : ∃ d, ds[i]? = some d := ⟨ds[i], by simp [hi]⟩
      have iv2 : (W'.add Dl (.lst acc)).inv H2 := ⟨y2.inv, hacc⟩
      obtain ⟨y3, hr⟩ := hY i H2 x H3 hi y2.ex hyx (W'.add Dl (.lst acc)) (fun _ hb => List.mem_cons_of_mem _ hb) iv2
      obtain ⟨d', hd', rx⟩ := hr fun b hb => by
        rcases List.mem_cons.mp hb with z | z
        · rw [z]; exact .inl hD
        · exact .inr z
      rw [hd] at hd'
      cases hd'
      have hmem : d ∈ ds := List.mem_of_getElem? hd
      have l2 : W.le (W'.add Dl (.lst acc)) := l.trans (W'.le_add _ _ ob)
      have e3 : EnvD K (hide (W'.add Dl (.lst acc)) H3) ρ σ := by
        refine e.mono fun a o z => ?_
        have h0 : a ∉ W'.B := fun q => by rw [hide_in q] at z; cases z
        have z1 := x1.ex a o z
        rw [hide_out h0] at z1
        have h1 : a ≠ Dl := ne_of_none z1 hD
        have h2 : a ∉ (W'.add Dl (.lst acc)).B := fun q => (List.mem_cons.mp q).elim h1 h0
        have z2 := y2.ex a o (by rw [hide_out h0]; exact z1)
        rw [hide_out h0] at z2
        have z3 := y3.ex a o (by rw [hide_out h2]; exact z2)
        exact z3
      refine hs d hmem (W'.add Dl (.lst acc)) x (L2.wipe σ vs) H3 _ (e3.wipe vs) rx fun ρ' σ' e' ht hw => ⟨(hw vs hgs).trans (wipe_wipe σ vs), ?_⟩
      refine ht (W'.add Dl (.lst acc)) l2 σ' H3 _ y3.inv e' fun b H4 y4 ⟨hb, hel⟩ => ?_
      have t4 : ds.take (i + 1) = ds.take i ++ [d] := by rw [List.take_succ, hd]; rfl
      have step : ∀ {H'}, Xt (W'.add Dl (.lst acc)) H2 H' → Xt W' H1 H' := fun {H'} z => y2.trans (Xt.le (W'.le_add _ _ ob) z fun b hb hnb o ho => by
        rcases List.mem_cons.mp hb with q | q
        · rw [q] at ho ⊢
          rw [hacc] at ho
          rw [z.inv.2, ho]
        · exact absurd q hnb)
      cases b with
      | false =>
        refine ⟨step (y3.trans y4), acc, y4.inv.2, by omega, ys, ra.mono (y3.trans y4).ex, ?_⟩
        rw [t4, List.filter_append, List.filter_cons, if_neg (by rw [← hb]; decide)]
        simp only [List.filter_nil, List.append_nil]
        exact pa
      | true =>
        refine hel rfl (W'.add Dl (.lst acc)) l2 σ' H4 _ y4.inv (e'.mono y4.ex) fun y vy H5 y5 r5 hy => ?_
        have x5 := y3.trans (y4.trans y5)
        refine ⟨acc, y5.inv.2, Evl.sz_lt (by omega), ?_, acc ++ [vy], upd_same, by rw [List.length_append]; simp; omega, ys ++ [y], ?_, ?_⟩
        · have s5 := step x5
          have k5 : ∀ b ∈ W'.B, (upd H5 Dl (.lst (acc ++ [vy]))) b = H5 b := fun b hb => upd_ne fun z => ob (z ▸ hb)
          refine ⟨W'.keep s5.inv k5, fun a o z => ?_⟩
          have z5 := s5.ex a o z
          have h0 : a ∉ W'.B := fun q => by rw [hide_in q] at z; cases z
          rw [hide_out h0] at z z5
          rw [hide_out h0, upd_ne (ne_of_none z hD)]
          exact z5
        · have hh : hide (W'.add Dl (.lst (acc ++ [vy]))) (upd H5 Dl (.lst (acc ++ [vy]))) = hide (W'.add Dl (.lst acc)) H5 := by
            funext a
            by_cases ha : a ∈ Dl :: W'.B
            · rw [hide_in (W := W'.add Dl (.lst (acc ++ [vy]))) ha, hide_in (W := W'.add Dl (.lst acc)) ha]
            · rw [hide_out (W := W'.add Dl (.lst (acc ++ [vy]))) ha, hide_out (W := W'.add Dl (.lst acc)) ha, upd_ne fun z => ha (by rw [z]; exact List.mem_cons_self)]
          rw [hh]
          exact (ra.mono x5.ex).append (.one r5)
        · rw [t4, List.filter_append, List.filter_cons, if_pos hb.symm, List.filter_nil]
          exact paired_app pa (.cons hy .nil)
    · rintro H' ⟨y, acc, hacc, _, ys, ra, pa⟩
      rw [List.take_length] at pa
      exact q _ _ H' (x1.trans y) (.lst (by rw [hide_out ob]; exact hacc) (ra.mono (hide_le (W'.le_add _ _ ob) H'))) (p ys pa)
/-! ### x or y, by an int -/
theorem ed_orI (h : Ed K W ta ρ fun x => ∃ i, x = .int i ∧ (i ≠ 0 → P (.int i)) ∧ (i = 0 → Ed K W tb ρ P)) : Ed K W (tOrT K ta tb) ρ P := fun W' l σ H Q iv e q => h W' l σ H _ iv e fun x v H1 x1 r1 ⟨i, hx, p1, p2⟩ => by
  subst hx
  cases r1
  refine ⟨(i != 0), rfl, ?_⟩
  by_cases z : i = 0
  · subst z
    exact p2 rfl W' l σ H1 _ x1.inv (e.mono x1.ex) fun d v H2 x2 r2 p => q d v H2 (x1.trans x2) r2 p
  · rw [if_pos (by simp [z])]
    exact q _ _ H1 x1 (.int i) (p1 z)
/-! ### a text taken n times -/
def qMulS : R2 := fun x y H Q => ∃ s n, x = .str s ∧ y = .int n ∧ (0 ≤ n ∧ n ≤ 1000 ∧ s.length ≤ 1000) ∧ Q (.str (Txt.mul s n)) H
theorem oq_mulS {X : Cx} : OpR X (binaryOp .Mult) qMulS := by
  intro pins s σ H x y v u Q I rx ry h
  obtain ⟨i, n, rfl, rfl, ⟨h1, h2, h3⟩, q⟩ := h
  obtain ⟨t, rfl⟩ := rx
  obtain ⟨t', rfl⟩ := ry
  have hm : i.length * n.toNat ≤ 1000 * 1000 := Nat.mul_le_mul h3 (by omega)
  refine SB.mul ⟨?_, ?_, ?_⟩ fun t' k => ⟨.str (Txt.mul i n), H, I.tok _, ⟨_, rfl⟩, q⟩
  · rw [decide_eq_false (by omega), decide_eq_false (by omega)]; rfl
  · intro hn _ hlt
    have hn' : 0 < n := by omega
    have h4 := (Int.ediv_lt_iff_lt_mul hn').mp hlt
    have h5 : (i.length : Int) * n ≤ 1000 * 1000 := Int.mul_le_mul (by omega) h2 h1 (by decide)
    omega
  · intro _ _
    have h6 : ¬ (PySem.Builtin.Str.tooLong (i.length * n.toNat) = true) := by
      unfold PySem.Builtin.Str.tooLong
      intro z
      have := of_decide_eq_true z
      rw [sizeLine_eq] at this
      omega
    exact Bool.eq_false_iff.mpr h6
theorem ed_mulS (h : Ed K W ta ρ fun x => Ed K W tb ρ fun y => ∃ s n, x = .str s ∧ y = .int n ∧ (0 ≤ n ∧ n ≤ 1000 ∧ s.length ≤ 1000) ∧ P (.str (Txt.mul s n))) : Ed K W (tOp qMulS ta tb) ρ P := fun W' l σ H Q iv e q =>
  h W' l σ H _ iv e fun x vx H1 x1 r1 h1 => h1 W' l σ H1 _ x1.inv (e.mono x1.ex) fun y vy H2 x2 r2 ⟨s, n, hx, hy, c, p⟩ => by
    subst hx hy
    cases r1
    cases r2
    exact ⟨s, n, rfl, rfl, c, q _ _ H2 (x1.trans x2) (.str _) p⟩
/-! ### the world of a deck -/
def dkv (L : Addr) (m n : Int) : List (Key × V) := [(Sum.inr "left", .ref L), (Sum.inr "mixed", .int m), (Sum.inr "draws", .int n)]
def DKI (D L : Addr) (H : Hp) : Prop := ∃ (m n : Int) (cells : List Int), H D = some (.dK (dkv L m n)) ∧ H L = some (.lst (cells.map V.int)) ∧ cells.length ≤ 63
def DKW (D L : Addr) : Wd where
  B := [D, L]
  inv := DKI D L
  keep := fun {H H'} ⟨m, n, c, h1, h2, h3⟩ k => ⟨m, n, c, (k D List.mem_cons_self).trans h1, (k L (List.mem_cons_of_mem _ List.mem_cons_self)).trans h2, h3⟩
  trk := fun {H b} ⟨m, n, c, h1, h2, h3⟩ hb => by
    rcases List.mem_cons.mp hb with e | hb
    · rw [e, h1]; exact fun z => nomatch z
    · rcases List.mem_cons.mp hb with e | hb
      · rw [e, h2]; exact fun z => nomatch z
      · cases hb
variable {D L : Addr}
theorem DKI.ne {H : Hp} (h : DKI D L H) : D ≠ L := by
  obtain ⟨m, n, c, h1, h2, h3⟩ := h
  intro e
  subst e
  rw [h1] at h2
  cases h2
theorem dk_mut {W' : Wd} (l : (DKW D L).le W') {H H' : Hp} (iv : W'.inv H) (same : ∀ a, a ≠ D → a ≠ L → H' a = H a) (i : DKI D L H') : Xt W' H H' := by
  have hd : D ∈ W'.B := l.b D List.mem_cons_self
  have hl : L ∈ W'.B := l.b L (List.mem_cons_of_mem _ List.mem_cons_self)
  refine ⟨l.s H H' iv (fun a _ hn => same a (fun z => hn (z ▸ List.mem_cons_self)) fun z => hn (z ▸ List.mem_cons_of_mem _ List.mem_cons_self)) i, ?_⟩
  have e : hide W' H' = hide W' H := funext fun a => by
    by_cases ha : a ∈ W'.B
    · rw [hide_in ha, hide_in ha]
    · rw [hide_out ha, hide_out ha]
      exact same a (fun z => ha (z ▸ hd)) fun z => ha (z ▸ hl)
  rw [e]
  exact Ex.refl _
theorem dget_mixed {H : Hp} {m n : Int} (h : H D = some (.dK (dkv L m n))) : DGet H D (.str "mixed") (some (.int m)) := DGet.k (k := Sum.inr "mixed") h
theorem dget_draws {H : Hp} {m n : Int} (h : H D = some (.dK (dkv L m n))) : DGet H D (.str "draws") (some (.int n)) := DGet.k (k := Sum.inr "draws") h
theorem dget_left {H : Hp} {m n : Int} (h : H D = some (.dK (dkv L m n))) : DGet H D (.str "left") (some (.ref L)) := DGet.k (k := Sum.inr "left") h
theorem ed_mixed (h0 : ρ[0]? = some (.raw (.ref D))) (p : ∀ m, P (.int m)) : Ed K (DKW D L) (tDGet (tVar 0) (tC (.str "mixed"))) ρ P := fun W' l σ H Q iv e q => by
  obtain ⟨o, h1, h2⟩ := e.get h0
  obtain ⟨m, n, c, i1, i2, i3⟩ := l.i _ iv
  exact ⟨.ref D, by rw [h1, h2], D, .int m, rfl, dget_mixed i1, q _ _ H (Xt.refl iv) (.int m) (p m)⟩
theorem ed_draws (h0 : ρ[0]? = some (.raw (.ref D))) (p : ∀ m, P (.int m)) : Ed K (DKW D L) (tDGet (tVar 0) (tC (.str "draws"))) ρ P := fun W' l σ H Q iv e q => by
  obtain ⟨o, h1, h2⟩ := e.get h0
  obtain ⟨m, n, c, i1, i2, i3⟩ := l.i _ iv
  exact ⟨.ref D, by rw [h1, h2], D, .int n, rfl, dget_draws i1, q _ _ H (Xt.refl iv) (.int n) (p n)⟩
theorem put_draws (L : Addr) (m n k : Int) : putK (dkv L m n) (Sum.inr "draws") (.int k) = dkv L m k := by rfl
theorem sd_putDraws {N : List En → Prop} {R : PyData → Prop} (h0 : ρ[0]? = some (.raw (.ref D))) (h : Ed K (DKW D L) te ρ fun d => (∃ i, d = .int i) ∧ N ρ) : Sd K (DKW D L) (sDPut (tVar 0) (tC (.str "draws")) te) ρ N R := fun W' l σ H E iv e k1 k2 =>
  h W' l σ H _ iv e fun d v H1 x1 r1 ⟨⟨i, hd⟩, n0⟩ => by
    subst hd
    cases r1
    obtain ⟨o, h1, h2⟩ := e.get h0
    obtain ⟨m, n, c, i1, i2, i3⟩ := l.i _ x1.inv
    have dn : D ≠ L := (l.i _ x1.inv).ne
    refine ⟨.ref D, by rw [h1, h2], D, upd H1 D (.dK (dkv L m i)), rfl, ?_, ?_⟩
    · have := DPut.k (k := Sum.inr "draws") (v := .int i) i1 (Evl.sz_lt (by simp [dkv]))
      rw [put_draws] at this
      exact this
    · have x2 : Xt W' H1 (upd H1 D (.dK (dkv L m i))) := dk_mut l x1.inv (fun a h _ => upd_ne h) ⟨m, i, c, upd_same, by rw [upd_ne fun z => dn z.symm]; exact i2, i3⟩
      exact k1 ρ σ _ (x1.trans x2) (e.mono (x1.trans x2).ex) n0
theorem ints_all {H : Hp} : ∀ l : List Int, DpAll K H (l.map V.int) (l.map .int)
  | [] => .nil
  | i :: l => .cons (.int i) (ints_all l)
theorem lay_ints : ∀ l : List Int, PyData.canLayAll0 (l.map .int) = true ∧ PyData.depthAll (l.map .int) ≤ 0
  | [] => ⟨rfl, Nat.le_refl _⟩
  | x :: r => by
    obtain ⟨a, b⟩ := lay_ints r
    refine ⟨Bool.and_eq_true_iff.mpr ⟨rfl, a⟩, ?_⟩
    show max 0 _ ≤ 0
    exact Nat.max_le.mpr ⟨Nat.le_refl _, b⟩
theorem shaped_ints (l : List Int) : SeqAt.shaped (.list (l.map .int)) = true := by
  obtain ⟨a, b⟩ := lay_ints l
  refine Bool.and_eq_true_iff.mpr ⟨a, decide_eq_true ?_⟩
  show PyData.depthAll _ + 1 ≤ 64
  omega
theorem eqv_ints (l : List Int) : PyData.eqv (.list (l.map .int)) (.list []) = decide (l = []) := by cases l <;> rfl
/-- an int that changes nothing -/
def Er (K : PySem.W.Frag) (te : TE) (ρ : List En) : Prop := ∀ (h : Hp) (σ : L2.St), EnvD K h ρ σ → ∃ k : Int, ∀ (H : Hp) (Q : VK), Q (.int k) H → te σ H Q
theorem er_var {i : Nat} {k : Int} (h : ρ[i]? = some (.val (.int k))) : Er K (tVar i) ρ := fun h' σ e => by
  obtain ⟨o, h1, v, rfl, r⟩ := e.get h
  cases r
  exact ⟨k, fun H Q q => ⟨_, h1, q⟩⟩
theorem er_int {k : Int} : Er K (tC (.int k)) ρ := fun _ _ _ => ⟨k, fun H Q q => q⟩
theorem er_pow {a b : Int} (h : CPow a b) : Er K (tOp qPow (tC (.int a)) (tC (.int b))) ρ := fun _ _ _ => ⟨_, fun H Q q => ⟨a, b, rfl, rfl, h, q⟩⟩
theorem er_divMax {i j : Nat} {a b : Int} (ha : ρ[i]? = some (.val (.int a))) (hb : ρ[j]? = some (.val (.int b))) (h1 : b < 1073741824) : Er K (tOp qDiv (tVar i) (tCB qMax2 (tCons (tC (.int 2)) (tCons (tVar j) tNil)))) ρ := fun h' σ e => by
  obtain ⟨o, e1, v, rfl, r⟩ := e.get ha
  obtain ⟨o2, e2, v2, rfl, r2⟩ := e.get hb
  cases r
  cases r2
  refine ⟨_, fun H Q q => ⟨_, e1, _, e2, 2, b, rfl, a, _, rfl, rfl, ?_, q⟩⟩
  show 0 < _ ∧ _ < _
  split <;> omega
/-- if deck['left'] != []: x = deck['left'].pop(); if a >= b: deck['left'].append(y); ..; .. -/
theorem sd_left {tr tu : TS} {ty : TE} {i : Nat} {N : List En → Prop} {R : PyData → Prop} (h0 : ρ[0]? = some (.raw (.ref D))) (hi : i ≠ 0) (n0 : N ρ) (ha : ∀ c, Er K ta (ρ.set i (.val (.int c)))) (hb : ∀ c, Er K tb (ρ.set i (.val (.int c)))) (hy : ∀ c, Er K ty (ρ.set i (.val (.int c))))
    (h : ∀ c, Sd K (DKW D L) tr (ρ.set i (.val (.int c))) (fun _ => False) R) (h' : ∀ c, Sd K (DKW D L) tu (ρ.set i (.val (.int c))) N R) :
    Sd K (DKW D L) (tIfS (tTest (tOp (rNeD K) (tDGet (tVar 0) (tC (.str "left"))) (tLst tNil))) (tSeq (tAsg (tBM0 K "list" rPop (tDGet (tVar 0) (tC (.str "left")))) (gName i))
      (tSeq (tIfS (tTest (tOp qGe ta tb)) (tSeq (tDrop (tBM K "list" rAppend (tDGet (tVar 0) (tC (.str "left"))) (tCons ty tNil))) tr) tNext) tu)) tNext) ρ N R := fun W' l σ H E iv e k1 k2 => by
  obtain ⟨o, h1, h2⟩ := e.get h0
  obtain ⟨m, n, c, i1, i2, i3⟩ := l.i _ iv
  have dn : D ≠ L := (l.i _ iv).ne
  refine ⟨.ref D, by rw [h1, h2], D, .ref L, rfl, dget_left i1, by decide, fun p hp => ?_⟩
  have x1 := Xt.new (o := .lst []) iv hp
  have j2 : upd H p (.lst []) L = some (.lst (c.map V.int)) := by rw [upd_ne (ne_of_none i2 hp)]; exact i2
  have j1 : upd H p (.lst []) D = some (.dK (dkv L m n)) := by rw [upd_ne (ne_of_none i1 hp)]; exact i1
  refine ⟨.list (c.map .int), .list [], .lst (SqL.of j2) (ints_all c), .lst (SqL.of upd_same) .nil, shaped_ints c, rfl, ?_⟩
  rw [eqv_ints]
  refine ⟨_, rfl, ?_⟩
  by_cases hc : c = []
  · rw [decide_eq_true hc]
    exact k1 ρ σ _ x1 (e.mono x1.ex) n0
  · rw [decide_eq_false hc]
    obtain ⟨c', z, rfl⟩ : ∃ c' z, c = c' ++ [z] := ⟨c.dropLast, c.getLast hc, (List.dropLast_concat_getLast hc).symm⟩
    have i3' : c'.length ≤ 62 := by simp at i3; omega
    refine ⟨.ref D, by rw [h1, h2], D, .ref L, rfl, dget_left j1, .inl ⟨rfl, _, SqL.of j2⟩, L, _, .int z, rfl, rfl, j2, by simp, ?_⟩
    have dl : ((c' ++ [z]).map V.int).dropLast = c'.map V.int := by simp
    rw [dl]
    have x2 : Xt W' (upd H p (.lst [])) (upd (upd H p (.lst [])) L (.lst (c'.map V.int))) := dk_mut l x1.inv (fun a _ h => upd_ne h)
      ⟨m, n, c', by rw [upd_ne dn]; exact j1, upd_same, by omega⟩
    have e2 : EnvD K (hide W' (upd (upd H p (.lst [])) L (.lst (c'.map V.int)))) (ρ.set i (.val (.int z))) (σ.set i (some (.int z))) := EnvD.set i ⟨.int z, rfl, .int z⟩ (e.mono (x1.trans x2).ex)
    obtain ⟨ka, qa⟩ := ha z _ _ e2
    obtain ⟨kb, qb⟩ := hb z _ _ e2
    obtain ⟨ky, qy⟩ := hy z _ _ e2
    refine qa _ _ (qb _ _ ⟨ka, kb, rfl, rfl, _, rfl, ?_⟩)
    by_cases hge : kb ≤ ka
    · rw [decide_eq_true hge]
      have s0 : (σ.set i (some (.int z)))[0]? = some (some (.ref D)) := by rw [List.getElem?_set_ne hi, h1, h2]
      have l2 : upd (upd H p (.lst [])) L (.lst (c'.map V.int)) D = some (.dK (dkv L m n)) := by rw [upd_ne dn]; exact j1
      refine ⟨.ref D, s0, D, .ref L, rfl, dget_left l2, .inl ⟨rfl, _, SqL.of upd_same⟩, qy _ _ ⟨L, _, .int ky, rfl, rfl, upd_same, Evl.sz_lt (by simp; omega), ?_⟩⟩
      have e3 : c'.map V.int ++ [.int ky] = (c' ++ [ky]).map V.int := by simp
      rw [e3]
      have x3 : Xt W' (upd (upd H p (.lst [])) L (.lst (c'.map V.int))) (upd (upd (upd H p (.lst [])) L (.lst (c'.map V.int))) L (.lst ((c' ++ [ky]).map V.int))) := dk_mut l x2.inv (fun a _ h => upd_ne h)
        ⟨m, n, c' ++ [ky], by rw [upd_ne dn]; exact l2, upd_same, by simp; omega⟩
      exact h z W' l _ _ { E with nx := tu E } x3.inv (e2.mono x3.ex) (fun ρ' σ' H' x e' n' => n'.elim) fun d v H' x r p => k2 d v H' (((x1.trans x2).trans x3).trans x) r p
    · rw [decide_eq_false hge]
      exact h' z W' l _ _ E x2.inv e2 (fun ρ' σ' H' x e' n' => k1 ρ' σ' H' ((x1.trans x2).trans x) e' n') fun d v H' x r p => k2 d v H' ((x1.trans x2).trans x) r p
/-! ### deck defs' promises -/
def spDk (K : PySem.W.Frag) (pre : List PyData → Prop) (R : List PyData → PyData → Prop) : Sp := fun vs H Q _ => ∃ (W : Wd) (D L : Addr) (us : List V) (ds : List PyData), (DKW D L).le W ∧ W.inv H ∧ vs = .ref D :: us ∧ DqAll K (hide W H) us ds ∧ pre ds ∧
  ∀ d v H', Xt W H H' → Dq K (hide W H') v d → R ds d → Q v H'
theorem ed_dk {pre : List PyData → Prop} {R : List PyData → PyData → Prop} {E : XK} {t : TA} (h0 : ρ[0]? = some (.raw (.ref D))) (h : Ea K (DKW D L) t ρ fun ds => pre ds ∧ ∀ d, R ds d → P d) : Ed K (DKW D L) (tCall (spDk K pre R) [] E (tCons (tVar 0) t)) ρ P := fun W' l σ H Q iv e q => by
  obtain ⟨o, h1, h2⟩ := e.get h0
  refine ⟨.ref D, by rw [h1, h2], ?_⟩
  exact h W' l σ H _ iv e fun ds vs H1 x1 r1 ⟨c, p⟩ => ⟨W', D, L, vs, ds, l, x1.inv, List.append_nil _, r1, c, fun d v H' x r z => q d v H' (x1.trans x) r (p d z)⟩
def SemDk (K : PySem.W.Frag) (pre : List PyData → Prop) (R : List PyData → PyData → Prop) (t : TS) (n m : Nat) : Prop := ∀ ds, pre ds → ds.length + 1 = n ∧ ∀ D L, Sd K (DKW D L) t (.raw (.ref D) :: (ds.map En.val ++ List.replicate (m - n) .any)) (fun _ => R ds .none) (R ds)
end
section
variable {P : Program} {w : World} {K : PySem.W.Frag} {mg : Str → Option Value} {base : Heap}
theorem DefOk.okDk {g n : Str} {st : Stmt} {N ps : List Str} {k : Nat} {pre : List PyData → Prop} {R : List PyData → PyData → Prop} {t : TS} (F0 : DefOk K g n st) (gl : mg g = some (.ref (He.ga K g))) (S : FnScope N ps (defScope st)) (h : SemDk K pre R t ps.length N.length)
    (hb : ∀ (kV doc pm : Value) (an : Option Addr) (cdv ct : Value) (us : List Value), us.length = ps.length → bindArgs (PySem.W.fnOf n n (defArgs st) (defBody st) (defScope st) .none kV doc pm an cdv ct) ⟨us, []⟩ = pure (ps.zip us))
    (der : ∀ (cdv : Value) (A : Around) (outer : List Env) (s : Shared) (H : Hp) (E : XK), Room k (A.deeper (envOfC n (defScope st) s.heap.objs.size (He.ga K g) cdv)) → PSs (cxOf CX0 P w K mg base N n (defScope st) (He.ga K g) cdv A outer s H E).nox (defBody st) t) :
    OkF P w K mg base g (k + 1) ps (spDk K pre R) := by
  obtain ⟨fd, F⟩ := F0
  refine ⟨⟨fd, F.ok S (fun vs H Q E ⟨W, D, L, us, ds, l, iv, ev, r, c, q⟩ => by rw [ev, List.length_cons, r.length]; exact (h ds c).1) (fun cdv A outer s H vs Q E hr hsp => ⟨t, PSs.nox (der cdv A outer s H E hr), ?_⟩), F.bindsN hb⟩, F.kp, gl⟩
  obtain ⟨W, D, L, us, ds, l, iv, ev, r, c, q⟩ := hsp
  have hs := h ds c
  have e : L2.start N vs = some (.ref D) :: (us.map some ++ List.replicate (N.length - ps.length) none) := by
    unfold L2.start
    rw [ev, List.length_cons, r.length, hs.1]
    rfl
  rw [e]
  refine hs.2 D L W l _ H _ iv (.cons rfl (EnvD.app (DqAll.vals r) (any_env _))) (fun ρ' σ' H' x _ hd => ?_) (fun d' v H' x r' hd => ?_)
  · exact q .none .non H' x .non hd
  · exact q d' v H' x r' hd
end
end K61
end

section
set_option Elab.async false
set_option linter.all false
set_option maxRecDepth 100000
set_option maxHeartbeats 4000000
namespace K61
open PySem PySem.Spec PyProof.Rows L2
abbrev Pre := List PyData → Prop
abbrev Ref := List PyData → PyData → Prop
/-! ### what the deck's defs promise -/
def pre_law_draw : Pre := fun ds => ∃ m : Int, ds = [.int m] ∧ 0 < m ∧ m < 1073741824
def R_law_draw : Ref := fun ds d => ∃ m r : Int, ds = [.int m] ∧ d = .int r ∧ 0 ≤ r ∧ r < m
def pre_law_pick : Pre := fun ds => ∃ xs, ds = [.list xs] ∧ xs ≠ [] ∧ xs.length ≤ 1000
def R_law_pick : Ref := fun ds d => ∃ xs, ds = [.list xs] ∧ d ∈ xs
abbrev pre0 : Pre := fun ds => ds = []
def KEYS : List Str := ["a", "b", "c", "ab", "z", "abcdefghi", "m", "k", "zz", "ba", "qqkquuwwb", "y"]
abbrev pre_law_key : Pre := pre0
def R_law_key : Ref := fun _ d => ∃ s ∈ KEYS, d = .str s
abbrev pre_law_worth : Pre := pre0
def R_law_worth : Ref := fun _ d => ∃ i : Int, d = .int i ∧ i.natAbs ≤ 999999999
abbrev pre_law_content : Pre := pre0
def R_law_content : Ref := fun _ d => fine 3 d = true ∧ contD d = true ∧ (contT d).length ≤ 83
abbrev pre_law_operation : Pre := pre0
def R_law_operation : Ref := fun _ d => ∃ xs, d = .tuple xs ∧ fine 1 d = true ∧ opD d = true ∧ xs.length ≤ 4 ∧ ∀ x ∈ xs, (txt x).length ≤ 10
abbrev pre_law_row : Pre := pre0
def R_law_row : Ref := fun _ d => ∃ xs, d = .tuple xs ∧ fine 5 d = true ∧ rowD d = true ∧ (rowT d).length ≤ 193 ∧ ∀ p ∈ rowW xs, p.length ≤ 83
def ODD1 : List PyData := [.none, .bool true, .bool false, .int (-1), .int 0, .int 1, .int 2, .int (10 ^ (39 : Int).toNat), .str "", .str "a", .str "A", .str "abcdefghij", .str "a b", .str "a\n", .str "\n", .tuple [], .tuple [.int 0], .list [], .dict [], .list [.str "a"], .tuple [.str "a"]]
def ODD2 : List PyData := [.str "kept", .str "open", .str "-", .str "//-", .tuple [.str "read", .str "a"], .tuple [.str "", .tuple [], .none], .tuple [.str "start", .int 1], .tuple [.tuple [], .int 0], .tuple [.str "", .str "a"], .int 3, .dict [(.str "a", .int 1)]]
def ODD3 : List PyData := [.str "read a", .str "start 1", .tuple [.str "get", .str "a"], .tuple [.str "page", .int 0, .int 0, .none, .none], .tuple [.str (Txt.mul "a" 16)], .str (Txt.mul "a" 16)]
def ODDS : List PyData := ODD1 ++ ODD2 ++ ODD3
abbrev pre_law_odd : Pre := pre0
def R_law_odd : Ref := fun _ d => d ∈ ODDS
def pre_law_changed : Pre := fun ds => ∃ s, ds = [.str s] ∧ s.length ≤ 277 ∧ s.cps.all (· < 0x110000) = true
def R_law_changed : Ref := fun ds d => ∃ s t, ds = [.str s] ∧ d = .str t ∧ t.cps.all (· < 0x110000) = true ∧ ∀ w, (∀ p ∈ Txt.split s " ", p.length ≤ w) → t.length ≤ s.length + 1 + max w 40
abbrev sp_law_draw (K : PySem.W.Frag) : Sp := spDk K pre_law_draw R_law_draw
abbrev sp_law_pick (K : PySem.W.Frag) : Sp := spDk K pre_law_pick R_law_pick
abbrev sp_law_key (K : PySem.W.Frag) : Sp := spDk K pre_law_key R_law_key
abbrev sp_law_worth (K : PySem.W.Frag) : Sp := spDk K pre_law_worth R_law_worth
abbrev sp_law_content (K : PySem.W.Frag) : Sp := spDk K pre_law_content R_law_content
abbrev sp_law_operation (K : PySem.W.Frag) : Sp := spDk K pre_law_operation R_law_operation
abbrev sp_law_row (K : PySem.W.Frag) : Sp := spDk K pre_law_row R_law_row
abbrev sp_law_odd (K : PySem.W.Frag) : Sp := spDk K pre_law_odd R_law_odd
abbrev sp_law_changed (K : PySem.W.Frag) : Sp := spDk K pre_law_changed R_law_changed
theorem boot_max : bootBuiltins "max" = some (.builtin "max") := by decide +kernel
/-! ### _law_draw: slots _law_deck, _law_many, _law_mark, _law_cell -/
def t_law_draw (K : PySem.W.Frag) : TS :=
  (tSeq (sDPut (tVar 0) (tC (.str "draws")) (tOp qAdd (tDGet (tVar 0) (tC (.str "draws"))) (tC (.int 1)))) (tSeq (tAsg (tOp qAdd (tDGet (tVar 0) (tC (.str "mixed"))) (tOp qMul (tC (.int 58309)) (tDGet (tVar 0) (tC (.str "draws"))))) (gName 2)) (tSeq (tIfS (tTest (tOp (rNeD K) (tDGet (tVar 0) (tC (.str "left"))) (tLst tNil))) (tSeq (tAsg (tBM0 K "list" rPop (tDGet (tVar 0) (tC (.str "left")))) (gName 3)) (tSeq (tIfS (tTest (tOp qGe (tVar 3) (tOp qPow (tC (.int 10)) (tC (.int 18))))) (tSeq (tDrop (tBM K "list" rAppend (tDGet (tVar 0) (tC (.str "left"))) (tCons (tOp qDiv (tVar 3) (tCB qMax2 (tCons (tC (.int 2)) (tCons (tVar 1) tNil)))) tNil))) (tRet (tOp qMod (tCB qIntI (tCons (tVar 3) tNil)) (tVar 1)))) tNext) (tAsg (tOp qAdd (tVar 2) (tOp qMod (tCB qIntI (tCons (tVar 3) tNil)) (tC (.int 2147483587)))) (gName 2)))) tNext) (tSeq (tAsg (tOp qMod (tCB qIntI (tCons (tOp qAdd (tOp qMul (tVar 2) (tC (.int 39373))) (tC (.int 41))) tNil)) (tC (.int 2147483629))) (gName 2)) (tSeq (tAsg (tOp qMod (tCB qIntI (tCons (tOp qAdd (tOp qAdd (tOp qMul (tVar 2) (tVar 2)) (tOp qMul (tC (.int 46147)) (tDGet (tVar 0) (tC (.str "draws"))))) (tC (.int 7))) tNil)) (tC (.int 2147483563))) (gName 2)) (tRet (tOp qMod (tCB qIntI (tCons (tOp qDiv (tOp qMod (tCB qIntI (tCons (tOp qMul (tVar 2) (tC (.int 48271))) tNil)) (tC (.int 2147483647))) (tC (.int 64))) tNil)) (tVar 1))))))))
theorem sc_law_draw : FnScope ["_law_deck", "_law_many", "_law_mark", "_law_cell"] ["_law_deck", "_law_many"] (defScope s_law_draw) := ⟨rfl, rfl, rfl, by decide +kernel, rfl, by decide +kernel, by decide +kernel⟩
theorem ok_law_draw {P : Program} {w : World} {K : PySem.W.Frag} {mg : Str → Option Value} {base : Heap} (T : Gs K mg) (h : SemDk K pre_law_draw R_law_draw (t_law_draw K) 2 4) : OkF P w K mg base "_law_draw" 1 ["_law_deck", "_law_many"] (sp_law_draw K) := by
  have nd := sc_law_draw.nd
  refine T.d_law_draw.okDk T.g_law_draw sc_law_draw h (fun _ _ _ _ _ _ us hl => match us, hl with | [_, _], _ => rfl) fun cdv A outer s H E hr => ?_
  exact (pss_cons (ps_dput (hu_of hr) (pv 0) pe_str (pe_op oq_add (pe_dget (hu_of hr) (pv 0) pe_str (fun _ _ => rfl)) pe_int) rfl)
      (pss_cons (ps_set (i := 2) nd rfl (Or.inl rfl) (pe_op oq_add (pe_dget (hu_of hr) (pv 0) pe_str (fun _ _ => rfl)) (pe_op oq_mul pe_int (pe_dget (hu_of hr) (pv 0) pe_str (fun _ _ => rfl)))))
      (pss_cons (ps_if (pt_cmpR (op_neD hr.units) (pe_dget (hu_of hr) (pv 0) pe_str (fun _ _ => rfl)) (pe_lst pa_nil) (nomark _)) (pss_cons (ps_set (i := 3) nd rfl (Or.inl rfl) (pe_bm0 PySem.F.plainAttrs_list PySem.F.slot_list_pop PySem.F.type_list_pop mt_pop (pe_dget (hu_of hr) (pv 0) pe_str (fun _ _ => rfl))))
      (pss_cons (ps_if (pt_cmpR oq_ge (pv 3) (pe_op oq_pow pe_int pe_int) (nomark _)) (pss_cons (ps_expr (pe_bm PySem.F.plainAttrs_list PySem.F.slot_list_append PySem.F.type_list_append mt_append (pe_dget (hu_of hr) (pv 0) pe_str (fun _ _ => rfl)) (pa_cons (pe_op oq_div (pv 3) (pe_callB (cq_max2 rfl) rfl T.f_max boot_max (pa_cons pe_int (pa_cons (pv 1) pa_nil)))) pa_nil)))
      (pss_one (ps_ret (pe_op oq_mod (pe_callTy cq_intI rfl T.f_int boot_int (pa_cons (pv 3) pa_nil)) (pv 1))))) pss_nil)
      (pss_one (ps_set (i := 2) nd rfl (Or.inl rfl) (pe_op oq_add (pv 2) (pe_op oq_mod (pe_callTy cq_intI rfl T.f_int boot_int (pa_cons (pv 3) pa_nil)) pe_int)))))) pss_nil)
      (pss_cons (ps_set (i := 2) nd rfl (Or.inl rfl) (pe_op oq_mod (pe_callTy cq_intI rfl T.f_int boot_int (pa_cons (pe_op oq_add (pe_op oq_mul (pv 2) pe_int) pe_int) pa_nil)) pe_int))
      (pss_cons (ps_set (i := 2) nd rfl (Or.inl rfl) (pe_op oq_mod (pe_callTy cq_intI rfl T.f_int boot_int (pa_cons (pe_op oq_add (pe_op oq_add (pe_op oq_mul (pv 2) (pv 2)) (pe_op oq_mul pe_int (pe_dget (hu_of hr) (pv 0) pe_str (fun _ _ => rfl)))) pe_int) pa_nil)) pe_int))
      (pss_one (ps_ret (pe_op oq_mod (pe_callTy cq_intI rfl T.f_int boot_int (pa_cons (pe_op oq_div (pe_op oq_mod (pe_callTy cq_intI rfl T.f_int boot_int (pa_cons (pe_op oq_mul (pv 2) pe_int) pa_nil)) pe_int) pe_int) pa_nil)) (pv 1)))))))))
/-! ### _law_pick: slots _law_deck, _law_some -/
def t_law_pick (K : PySem.W.Frag) : TS :=
  (tRet (tOp (rIx K) (tVar 1) (tCall (sp_law_draw K) [] E0 (tCons (tVar 0) (tCons (tCB (qLen K) (tCons (tVar 1) tNil)) tNil)))))
theorem sc_law_pick : FnScope ["_law_deck", "_law_some"] ["_law_deck", "_law_some"] (defScope s_law_pick) := ⟨rfl, rfl, rfl, by decide +kernel, rfl, by decide +kernel, by decide +kernel⟩
theorem ok_law_pick {P : Program} {w : World} {K : PySem.W.Frag} {mg : Str → Option Value} {base : Heap} (T : Gs K mg) (G_law_draw : OkF P w K mg base "_law_draw" 1 ["_law_deck", "_law_many"] (sp_law_draw K)) (h : SemDk K pre_law_pick R_law_pick (t_law_pick K) 2 2) : OkF P w K mg base "_law_pick" 2 ["_law_deck", "_law_some"] (sp_law_pick K) := by
  have nd := sc_law_pick.nd
  refine T.d_law_pick.okDk T.g_law_pick sc_law_pick h (fun _ _ _ _ _ _ us hl => match us, hl with | [_, _], _ => rfl) fun cdv A outer s H E hr => ?_
  exact (pss_one (ps_ret (pe_ix ix_seq (pv 1) (pe_cf G_law_draw (hr.mono (by decide)) rfl (pa_cons (pv 0) (pa_cons (pe_callB cq_len rfl T.f_len boot_len (pa_cons (pv 1) pa_nil)) pa_nil))) (fun _ _ => rfl))))
/-! ### _law_key: slots _law_deck, _law_some -/
def t_law_key (K : PySem.W.Frag) : TS :=
  (tSeq (tAsg (tLst (tCons (tC (.str "a")) (tCons (tC (.str "b")) (tCons (tC (.str "c")) (tCons (tC (.str "ab")) (tCons (tC (.str "z")) (tCons (tC (.str "abcdefghi")) (tCons (tC (.str "m")) (tCons (tC (.str "k")) (tCons (tC (.str "zz")) (tCons (tC (.str "ba")) tNil))))))))))) (gName 1)) (tSeq (tIfS (tTest (tOp qGt (tCall (sp_law_draw K) [] E0 (tCons (tVar 0) (tCons (tC (.int 4)) tNil))) (tC (.int 0)))) (tRet (tCall (sp_law_pick K) [] E0 (tCons (tVar 0) (tCons (tVar 1) tNil)))) tNext) (tRet (tCall (sp_law_pick K) [] E0 (tCons (tVar 0) (tCons (tLst (tCons (tC (.str "qqkquuwwb")) (tCons (tC (.str "y")) tNil))) tNil))))))
theorem sc_law_key : FnScope ["_law_deck", "_law_some"] ["_law_deck"] (defScope s_law_key) := ⟨rfl, rfl, rfl, by decide +kernel, rfl, by decide +kernel, by decide +kernel⟩
theorem ok_law_key {P : Program} {w : World} {K : PySem.W.Frag} {mg : Str → Option Value} {base : Heap} (T : Gs K mg) (G_law_pick : OkF P w K mg base "_law_pick" 2 ["_law_deck", "_law_some"] (sp_law_pick K)) (G_law_draw : OkF P w K mg base "_law_draw" 1 ["_law_deck", "_law_many"] (sp_law_draw K)) (h : SemDk K pre_law_key R_law_key (t_law_key K) 1 2) : OkF P w K mg base "_law_key" 3 ["_law_deck"] (sp_law_key K) := by
  have nd := sc_law_key.nd
  refine T.d_law_key.okDk T.g_law_key sc_law_key h (fun _ _ _ _ _ _ us hl => match us, hl with | [_], _ => rfl) fun cdv A outer s H E hr => ?_
  exact (pss_cons (ps_set (i := 1) nd rfl (Or.inl rfl) (pe_lst (pa_cons pe_str (pa_cons pe_str (pa_cons pe_str (pa_cons pe_str (pa_cons pe_str (pa_cons pe_str (pa_cons pe_str (pa_cons pe_str (pa_cons pe_str (pa_cons pe_str pa_nil))))))))))))
      (pss_cons (ps_if (pt_cmpR oq_gt (pe_cf G_law_draw (hr.mono (by decide)) rfl (pa_cons (pv 0) (pa_cons pe_int pa_nil))) pe_int (nomark _)) (pss_one (ps_ret (pe_cf G_law_pick (hr.mono (by decide)) rfl (pa_cons (pv 0) (pa_cons (pv 1) pa_nil))))) pss_nil)
      (pss_one (ps_ret (pe_cf G_law_pick (hr.mono (by decide)) rfl (pa_cons (pv 0) (pa_cons (pe_lst (pa_cons pe_str (pa_cons pe_str pa_nil))) pa_nil)))))))
/-! ### _law_worth: slots _law_deck -/
def t_law_worth (K : PySem.W.Frag) : TS :=
  (tRet (tCall (sp_law_pick K) [] E0 (tCons (tVar 0) (tCons (tLst (tCons (tC (.int 1)) (tCons (tC (.int 5)) (tCons (tUn qNeg (tC (.int 1))) (tCons (tC (.int 0)) (tCons (tC (.int 7)) (tCons (tC (.int 999999999)) (tCons (tUn qNeg (tC (.int 999999999))) (tCons (tOp qSub (tCall (sp_law_draw K) [] E0 (tCons (tVar 0) (tCons (tC (.int 1000)) tNil))) (tC (.int 500))) (tCons (tC (.int 12)) (tCons (tC (.int 100)) tNil))))))))))) tNil))))
theorem sc_law_worth : FnScope ["_law_deck"] ["_law_deck"] (defScope s_law_worth) := ⟨rfl, rfl, rfl, by decide +kernel, rfl, by decide +kernel, by decide +kernel⟩
theorem ok_law_worth {P : Program} {w : World} {K : PySem.W.Frag} {mg : Str → Option Value} {base : Heap} (T : Gs K mg) (G_law_pick : OkF P w K mg base "_law_pick" 2 ["_law_deck", "_law_some"] (sp_law_pick K)) (G_law_draw : OkF P w K mg base "_law_draw" 1 ["_law_deck", "_law_many"] (sp_law_draw K)) (h : SemDk K pre_law_worth R_law_worth (t_law_worth K) 1 1) : OkF P w K mg base "_law_worth" 3 ["_law_deck"] (sp_law_worth K) := by
  have nd := sc_law_worth.nd
  refine T.d_law_worth.okDk T.g_law_worth sc_law_worth h (fun _ _ _ _ _ _ us hl => match us, hl with | [_], _ => rfl) fun cdv A outer s H E hr => ?_
  exact (pss_one (ps_ret (pe_cf G_law_pick (hr.mono (by decide)) rfl (pa_cons (pv 0) (pa_cons (pe_lst (pa_cons pe_int (pa_cons pe_int (pa_cons (pe_un uq_neg pe_int) (pa_cons pe_int (pa_cons pe_int (pa_cons pe_int (pa_cons (pe_un uq_neg pe_int) (pa_cons (pe_op oq_sub (pe_cf G_law_draw (hr.mono (by decide)) rfl (pa_cons (pv 0) (pa_cons pe_int pa_nil))) pe_int) (pa_cons pe_int (pa_cons pe_int pa_nil))))))))))) pa_nil)))))
/-! ### _law_content: slots _law_deck, _law_way, _law_low, _law_keys, _law_turn, _law_entries, _law_key_here -/
def t_law_content (K : PySem.W.Frag) : TS :=
  (tSeq (tAsg (tTup (tCons (tCall (sp_law_draw K) [] E0 (tCons (tVar 0) (tCons (tC (.int 6)) tNil))) (tCons (tCall (sp_law_pick K) [] E0 (tCons (tVar 0) (tCons (tLst (tCons (tC (.str "")) (tCons (tC (.str "")) (tCons (tCall (sp_law_key K) [] E0 (tCons (tVar 0) tNil)) tNil)))) tNil))) tNil))) (gTup K 2 (gCons (gName 1) (gCons (gName 2) gNil)))) (tSeq (tIfS (tTest (tOp rEq (tVar 1) (tC (.int 0)))) (tRet (tC .non)) tNext) (tSeq (tAsg (tSortSet K (tLc (iRng1 (tCons (tCall (sp_law_draw K) [] E0 (tCons (tVar 0) (tCons (tC (.int 4)) tNil))) tNil)) (gName 4) tYes (tCall (sp_law_key K) [] E0 (tCons (tVar 0) tNil)) [4])) (gName 3)) (tSeq (tAsg (tCB (qTup K) (tCons (tLc (iList K (tVar 3)) (gName 6) (tTest (tOp qGeS (tVar 6) (tVar 2))) (tTup (tCons (tVar 6) (tCons (tOrT K (tCall (sp_law_worth K) [] E0 (tCons (tVar 0) tNil)) (tC (.int 3))) tNil))) [6]) tNil)) (gName 5)) (tRet (tTup (tCons (tVar 2) (tCons (tVar 5) (tCons (tCall (sp_law_pick K) [] E0 (tCons (tVar 0) (tCons (tLst (tCons (tC .non) (tCons (tC .non) (tCons (tC (.int 0)) (tCons (tC (.int 1)) (tCons (tC (.int 2)) (tCons (tC (.int 7)) (tCons (tC (.int 999999999)) tNil)))))))) tNil))) tNil)))))))))
theorem sc_law_content : FnScope ["_law_deck", "_law_way", "_law_low", "_law_keys", "_law_turn", "_law_entries", "_law_key_here"] ["_law_deck"] (defScope s_law_content) := ⟨rfl, rfl, rfl, by decide +kernel, rfl, by decide +kernel, by decide +kernel⟩
theorem ok_law_content {P : Program} {w : World} {K : PySem.W.Frag} {mg : Str → Option Value} {base : Heap} (T : Gs K mg) (G_law_draw : OkF P w K mg base "_law_draw" 1 ["_law_deck", "_law_many"] (sp_law_draw K)) (G_law_pick : OkF P w K mg base "_law_pick" 2 ["_law_deck", "_law_some"] (sp_law_pick K)) (G_law_key : OkF P w K mg base "_law_key" 3 ["_law_deck"] (sp_law_key K)) (G_law_worth : OkF P w K mg base "_law_worth" 3 ["_law_deck"] (sp_law_worth K)) (h : SemDk K pre_law_content R_law_content (t_law_content K) 1 7) : OkF P w K mg base "_law_content" 4 ["_law_deck"] (sp_law_content K) := by
  have nd := sc_law_content.nd
  refine T.d_law_content.okDk T.g_law_content sc_law_content h (fun _ _ _ _ _ _ us hl => match us, hl with | [_], _ => rfl) fun cdv A outer s H E hr => ?_
  exact (pss_cons (ps_asg (pe_tup (pa_cons (pe_cf G_law_draw (hr.mono (by decide)) rfl (pa_cons (pv 0) (pa_cons pe_int pa_nil))) (pa_cons (pe_cf G_law_pick (hr.mono (by decide)) rfl (pa_cons (pv 0) (pa_cons (pe_lst (pa_cons pe_str (pa_cons pe_str (pa_cons (pe_cf G_law_key (hr.mono (by decide)) rfl (pa_cons (pv 0) pa_nil)) pa_nil)))) pa_nil))) pa_nil))) (pg_tup rfl (pgs_cons (pg_name (i := 1) nd rfl (Or.inl rfl)) (pgs_cons (pg_name (i := 2) nd rfl (Or.inr rfl)) pgs_nil))))
      (pss_cons (ps_if (pt_cmpR op_eq (pv 1) pe_int (nomark _)) (pss_one (ps_ret pe_non)) pss_nil)
      (pss_cons (ps_set (i := 3) nd rfl (Or.inl rfl) (pe_sortSet rfl rfl T.f_sorted rfl T.f_set (pe_lc (own := [("_law_turn", 4)]) (g := (gName 4)) (tt := tYes) rfl nd (pi_range1 rfl T.f_range (pa_cons (pe_cf G_law_draw (hr.mono (by decide)) rfl (pa_cons (pv 0) (pa_cons pe_int pa_nil))) pa_nil)) (blkOk_by (own := [("_law_turn", 4)]) (N := ["_law_deck", "_law_way", "_law_low", "_law_keys", "_law_turn", "_law_entries", "_law_key_here"]) (sc := defScope s_law_content) (by decide +kernel)) (fun _ _ _ _ _ => (pg_name (i := 4) nd rfl (Or.inl rfl))) (fun _ _ _ _ _ => pts_nil) (fun _ _ _ _ _ => (pe_cf G_law_key (hr.mono (by decide)) rfl (pa_cons (pv 0) pa_nil))))))
      (pss_cons (ps_set (i := 5) nd rfl (Or.inl rfl) (pe_callTy cq_tup rfl T.f_tuple boot_tuple (pa_cons (pe_lc (own := [("_law_key_here", 6)]) (g := (gName 6)) (tt := (tTest (tOp qGeS (tVar 6) (tVar 2)))) rfl nd (pi_list (pv 3)) (blkOk_by (own := [("_law_key_here", 6)]) (N := ["_law_deck", "_law_way", "_law_low", "_law_keys", "_law_turn", "_law_entries", "_law_key_here"]) (sc := defScope s_law_content) (by decide +kernel)) (fun _ _ _ _ _ => (pg_name (i := 6) nd rfl (Or.inl rfl))) (fun _ _ _ _ _ => (pts_one (pt_cmpR oq_geS (pv 6) (pv 2) (nomark _)))) (fun _ _ _ _ _ => (pe_tup (pa_cons (pv 6) (pa_cons (pe_orT (pe_cf G_law_worth (hr.mono (by decide)) rfl (pa_cons (pv 0) pa_nil)) (pe_one pe_int)) pa_nil))))) pa_nil)))
      (pss_one (ps_ret (pe_tup (pa_cons (pv 2) (pa_cons (pv 5) (pa_cons (pe_cf G_law_pick (hr.mono (by decide)) rfl (pa_cons (pv 0) (pa_cons (pe_lst (pa_cons pe_non (pa_cons pe_non (pa_cons pe_int (pa_cons pe_int (pa_cons pe_int (pa_cons pe_int (pa_cons pe_int pa_nil)))))))) pa_nil))) pa_nil))))))))))
/-! ### _law_operation: slots _law_deck, _law_way, _law_key_here -/
def t_law_operation (K : PySem.W.Frag) : TS :=
  (tSeq (tPar 1 2 (tCons (tCall (sp_law_draw K) [] E0 (tCons (tVar 0) (tCons (tC (.int 4)) tNil))) (tCons (tCall (sp_law_key K) [] E0 (tCons (tVar 0) tNil)) tNil))) (tSeq (tIfS (tTest (tOp rEq (tVar 1) (tC (.int 0)))) (tRet (tTup (tCons (tC (.str "read")) (tCons (tVar 2) tNil)))) tNext) (tRet (tIf (tTest (tOp qLt (tVar 1) (tC (.int 3)))) (tTup (tCons (tC (.str "add")) (tCons (tVar 2) (tCons (tCall (sp_law_worth K) [] E0 (tCons (tVar 0) tNil)) tNil)))) (tTup (tCons (tC (.str "set")) (tCons (tVar 2) (tCons (tCall (sp_law_worth K) [] E0 (tCons (tVar 0) tNil)) (tCons (tCall (sp_law_worth K) [] E0 (tCons (tVar 0) tNil)) tNil)))))))))
theorem sc_law_operation : FnScope ["_law_deck", "_law_way", "_law_key_here"] ["_law_deck"] (defScope s_law_operation) := ⟨rfl, rfl, rfl, by decide +kernel, rfl, by decide +kernel, by decide +kernel⟩
theorem ok_law_operation {P : Program} {w : World} {K : PySem.W.Frag} {mg : Str → Option Value} {base : Heap} (T : Gs K mg) (G_law_draw : OkF P w K mg base "_law_draw" 1 ["_law_deck", "_law_many"] (sp_law_draw K)) (G_law_key : OkF P w K mg base "_law_key" 3 ["_law_deck"] (sp_law_key K)) (G_law_worth : OkF P w K mg base "_law_worth" 3 ["_law_deck"] (sp_law_worth K)) (h : SemDk K pre_law_operation R_law_operation (t_law_operation K) 1 3) : OkF P w K mg base "_law_operation" 4 ["_law_deck"] (sp_law_operation K) := by
  have nd := sc_law_operation.nd
  refine T.d_law_operation.okDk T.g_law_operation sc_law_operation h (fun _ _ _ _ _ _ us hl => match us, hl with | [_], _ => rfl) fun cdv A outer s H E hr => ?_
  exact (pss_cons (ps_par rfl nd rfl rfl (by decide) rfl rfl (pa_cons (pe_cf G_law_draw (hr.mono (by decide)) rfl (pa_cons (pv 0) (pa_cons pe_int pa_nil))) (pa_cons (pe_cf G_law_key (hr.mono (by decide)) rfl (pa_cons (pv 0) pa_nil)) pa_nil)) rfl)
      (pss_cons (ps_if (pt_cmpR op_eq (pv 1) pe_int (nomark _)) (pss_one (ps_ret (pe_tup (pa_cons pe_str (pa_cons (pv 2) pa_nil))))) pss_nil)
      (pss_one (ps_ret (pe_ifExp (pt_cmpR oq_lt (pv 1) pe_int (nomark _)) (pe_tup (pa_cons pe_str (pa_cons (pv 2) (pa_cons (pe_cf G_law_worth (hr.mono (by decide)) rfl (pa_cons (pv 0) pa_nil)) pa_nil)))) (pe_tup (pa_cons pe_str (pa_cons (pv 2) (pa_cons (pe_cf G_law_worth (hr.mono (by decide)) rfl (pa_cons (pv 0) pa_nil)) (pa_cons (pe_cf G_law_worth (hr.mono (by decide)) rfl (pa_cons (pv 0) pa_nil)) pa_nil))))))))))
/-! ### _law_row: slots _law_deck, _law_way, _law_some, _law_turn -/
def t_law_row (K : PySem.W.Frag) : TS :=
  (tSeq (tPar 1 2 (tCons (tCall (sp_law_draw K) [] E0 (tCons (tVar 0) (tCons (tC (.int 8)) tNil))) (tCons (tLc (iRng1 (tCons (tC (.int 3)) tNil)) (gName 3) tYes (tCall (sp_law_pick K) [] E0 (tCons (tVar 0) (tCons (tLst (tCons (tC (.int 0)) (tCons (tC (.int 1)) (tCons (tC (.int 2)) (tCons (tC (.int 3)) (tCons (tC (.int 10)) (tCons (tC (.int 999999999)) (tCons (tCall (sp_law_draw K) [] E0 (tCons (tVar 0) (tCons (tC (.int 200)) tNil))) tNil)))))))) tNil))) [3]) tNil))) (tSeq (tIfS (tTest (tOp qLt (tVar 1) (tC (.int 2)))) (tRet (tTup (tCons (tC (.str "page")) (tCons (tOp (rIx K) (tVar 2) (tC (.int 0))) (tCons (tOp (rIx K) (tVar 2) (tC (.int 1))) (tCons (tCall (sp_law_content K) [] E0 (tCons (tVar 0) tNil)) (tCons (tCall (sp_law_content K) [] E0 (tCons (tVar 0) tNil)) tNil))))))) tNext) (tSeq (tIfS (tTest (tOp qLt (tVar 1) (tC (.int 4)))) (tRet (tTup (tCons (tC (.str "op")) (tCons (tOp (rIx K) (tVar 2) (tC (.int 0))) (tCons (tOp (rIx K) (tVar 2) (tC (.int 1))) (tCons (tCall (sp_law_operation K) [] E0 (tCons (tVar 0) tNil)) tNil)))))) tNext) (tSeq (tIfS (tTest (tOp rEq (tVar 1) (tC (.int 4)))) (tRet (tTup (tCons (tC (.str "unpage")) (tCons (tOp (rIx K) (tVar 2) (tC (.int 0))) (tCons (tOp (rIx K) (tVar 2) (tC (.int 1))) (tCons (tCall (sp_law_content K) [] E0 (tCons (tVar 0) tNil)) tNil)))))) tNext) (tSeq (tIfS (tTest (tOp rEq (tVar 1) (tC (.int 5)))) (tRet (tTup (tCons (tC (.str "comp")) (tCons (tOp (rIx K) (tVar 2) (tC (.int 0))) (tCons (tOp (rIx K) (tVar 2) (tC (.int 1))) (tCons (tOp (rIx K) (tVar 2) (tC (.int 2))) tNil)))))) tNext) (tRet (tIf (tTest (tOp rEq (tVar 1) (tC (.int 6)))) (tTup (tCons (tC (.str "start")) (tCons (tOp (rIx K) (tVar 2) (tC (.int 0))) tNil))) (tTup (tCons (tC (.str "end")) (tCons (tOp (rIx K) (tVar 2) (tC (.int 0))) (tCons (tCall (sp_law_pick K) [] E0 (tCons (tVar 0) (tCons (tLst (tCons (tC (.str "kept")) (tCons (tC (.str "dropped")) tNil))) tNil))) tNil)))))))))))
theorem sc_law_row : FnScope ["_law_deck", "_law_way", "_law_some", "_law_turn"] ["_law_deck"] (defScope s_law_row) := ⟨rfl, rfl, rfl, by decide +kernel, rfl, by decide +kernel, by decide +kernel⟩
theorem ok_law_row {P : Program} {w : World} {K : PySem.W.Frag} {mg : Str → Option Value} {base : Heap} (T : Gs K mg) (G_law_draw : OkF P w K mg base "_law_draw" 1 ["_law_deck", "_law_many"] (sp_law_draw K)) (G_law_pick : OkF P w K mg base "_law_pick" 2 ["_law_deck", "_law_some"] (sp_law_pick K)) (G_law_content : OkF P w K mg base "_law_content" 4 ["_law_deck"] (sp_law_content K)) (G_law_operation : OkF P w K mg base "_law_operation" 4 ["_law_deck"] (sp_law_operation K)) (h : SemDk K pre_law_row R_law_row (t_law_row K) 1 4) : OkF P w K mg base "_law_row" 5 ["_law_deck"] (sp_law_row K) := by
  have nd := sc_law_row.nd
  refine T.d_law_row.okDk T.g_law_row sc_law_row h (fun _ _ _ _ _ _ us hl => match us, hl with | [_], _ => rfl) fun cdv A outer s H E hr => ?_
  exact (pss_cons (ps_par rfl nd rfl rfl (by decide) rfl rfl (pa_cons (pe_cf G_law_draw (hr.mono (by decide)) rfl (pa_cons (pv 0) (pa_cons pe_int pa_nil))) (pa_cons (pe_lc (own := [("_law_turn", 3)]) (g := (gName 3)) (tt := tYes) rfl nd (pi_range1 rfl T.f_range (pa_cons pe_int pa_nil)) (blkOk_by (own := [("_law_turn", 3)]) (N := ["_law_deck", "_law_way", "_law_some", "_law_turn"]) (sc := defScope s_law_row) (by decide +kernel)) (fun _ _ _ _ _ => (pg_name (i := 3) nd rfl (Or.inl rfl))) (fun _ _ _ _ _ => pts_nil) (fun _ _ _ _ _ => (pe_cf G_law_pick (hr.mono (by decide)) rfl (pa_cons (pv 0) (pa_cons (pe_lst (pa_cons pe_int (pa_cons pe_int (pa_cons pe_int (pa_cons pe_int (pa_cons pe_int (pa_cons pe_int (pa_cons (pe_cf G_law_draw (hr.mono (by decide)) rfl (pa_cons (pv 0) (pa_cons pe_int pa_nil))) pa_nil)))))))) pa_nil))))) pa_nil)) rfl)
      (pss_cons (ps_if (pt_cmpR oq_lt (pv 1) pe_int (nomark _)) (pss_one (ps_ret (pe_tup (pa_cons pe_str (pa_cons (pe_ix ix_seq (pv 2) pe_int (fun _ _ => rfl)) (pa_cons (pe_ix ix_seq (pv 2) pe_int (fun _ _ => rfl)) (pa_cons (pe_cf G_law_content (hr.mono (by decide)) rfl (pa_cons (pv 0) pa_nil)) (pa_cons (pe_cf G_law_content (hr.mono (by decide)) rfl (pa_cons (pv 0) pa_nil)) pa_nil)))))))) pss_nil)
      (pss_cons (ps_if (pt_cmpR oq_lt (pv 1) pe_int (nomark _)) (pss_one (ps_ret (pe_tup (pa_cons pe_str (pa_cons (pe_ix ix_seq (pv 2) pe_int (fun _ _ => rfl)) (pa_cons (pe_ix ix_seq (pv 2) pe_int (fun _ _ => rfl)) (pa_cons (pe_cf G_law_operation (hr.mono (by decide)) rfl (pa_cons (pv 0) pa_nil)) pa_nil))))))) pss_nil)
      (pss_cons (ps_if (pt_cmpR op_eq (pv 1) pe_int (nomark _)) (pss_one (ps_ret (pe_tup (pa_cons pe_str (pa_cons (pe_ix ix_seq (pv 2) pe_int (fun _ _ => rfl)) (pa_cons (pe_ix ix_seq (pv 2) pe_int (fun _ _ => rfl)) (pa_cons (pe_cf G_law_content (hr.mono (by decide)) rfl (pa_cons (pv 0) pa_nil)) pa_nil))))))) pss_nil)
      (pss_cons (ps_if (pt_cmpR op_eq (pv 1) pe_int (nomark _)) (pss_one (ps_ret (pe_tup (pa_cons pe_str (pa_cons (pe_ix ix_seq (pv 2) pe_int (fun _ _ => rfl)) (pa_cons (pe_ix ix_seq (pv 2) pe_int (fun _ _ => rfl)) (pa_cons (pe_ix ix_seq (pv 2) pe_int (fun _ _ => rfl)) pa_nil))))))) pss_nil)
      (pss_one (ps_ret (pe_ifExp (pt_cmpR op_eq (pv 1) pe_int (nomark _)) (pe_tup (pa_cons pe_str (pa_cons (pe_ix ix_seq (pv 2) pe_int (fun _ _ => rfl)) pa_nil))) (pe_tup (pa_cons pe_str (pa_cons (pe_ix ix_seq (pv 2) pe_int (fun _ _ => rfl)) (pa_cons (pe_cf G_law_pick (hr.mono (by decide)) rfl (pa_cons (pv 0) (pa_cons (pe_lst (pa_cons pe_str (pa_cons pe_str pa_nil))) pa_nil))) pa_nil))))))))))))
/-! ### _law_odd: slots _law_deck, _law_some -/
def t_law_odd (K : PySem.W.Frag) : TS :=
  (tSeq (tAsg (tLst (tCons (tC .non) (tCons (tC (.bl true)) (tCons (tC (.bl false)) (tCons (tUn qNeg (tC (.int 1))) (tCons (tC (.int 0)) (tCons (tC (.int 1)) (tCons (tC (.int 2)) (tCons (tOp qPow (tC (.int 10)) (tC (.int 39))) (tCons (tC (.str "")) (tCons (tC (.str "a")) (tCons (tC (.str "A")) (tCons (tC (.str "abcdefghij")) (tCons (tC (.str "a b")) (tCons (tC (.str "a\n")) (tCons (tC (.str "\n")) (tCons (tTup tNil) (tCons (tTup (tCons (tC (.int 0)) tNil)) (tCons (tLst tNil) (tCons tDNewK (tCons (tLst (tCons (tC (.str "a")) tNil)) (tCons (tTup (tCons (tC (.str "a")) tNil)) tNil)))))))))))))))))))))) (gName 1)) (tSeq (tAsg (tOp rCat (tVar 1) (tLst (tCons (tC (.str "kept")) (tCons (tC (.str "open")) (tCons (tC (.str "-")) (tCons (tC (.str "//-")) (tCons (tTup (tCons (tC (.str "read")) (tCons (tC (.str "a")) tNil))) (tCons (tTup (tCons (tC (.str "")) (tCons (tTup tNil) (tCons (tC .non) tNil)))) (tCons (tTup (tCons (tC (.str "start")) (tCons (tC (.int 1)) tNil))) (tCons (tTup (tCons (tTup tNil) (tCons (tC (.int 0)) tNil))) (tCons (tTup (tCons (tC (.str "")) (tCons (tC (.str "a")) tNil))) (tCons (tC (.int 3)) (tCons (tDisp (litT [("a", .int 1)])) tNil))))))))))))) (gName 1)) (tRet (tCall (sp_law_pick K) [] E0 (tCons (tVar 0) (tCons (tOp rCat (tVar 1) (tLst (tCons (tC (.str "read a")) (tCons (tC (.str "start 1")) (tCons (tTup (tCons (tC (.str "get")) (tCons (tC (.str "a")) tNil))) (tCons (tTup (tCons (tC (.str "page")) (tCons (tC (.int 0)) (tCons (tC (.int 0)) (tCons (tC .non) (tCons (tC .non) tNil)))))) (tCons (tTup (tCons (tOp qMulS (tC (.str "a")) (tC (.int 16))) tNil)) (tCons (tOp qMulS (tC (.str "a")) (tC (.int 16))) tNil)))))))) tNil))))))
theorem sc_law_odd : FnScope ["_law_deck", "_law_some"] ["_law_deck"] (defScope s_law_odd) := ⟨rfl, rfl, rfl, by decide +kernel, rfl, by decide +kernel, by decide +kernel⟩
theorem ok_law_odd {P : Program} {w : World} {K : PySem.W.Frag} {mg : Str → Option Value} {base : Heap} (T : Gs K mg) (G_law_pick : OkF P w K mg base "_law_pick" 2 ["_law_deck", "_law_some"] (sp_law_pick K)) (h : SemDk K pre_law_odd R_law_odd (t_law_odd K) 1 2) : OkF P w K mg base "_law_odd" 3 ["_law_deck"] (sp_law_odd K) := by
  have nd := sc_law_odd.nd
  refine T.d_law_odd.okDk T.g_law_odd sc_law_odd h (fun _ _ _ _ _ _ us hl => match us, hl with | [_], _ => rfl) fun cdv A outer s H E hr => ?_
  exact (pss_cons (ps_set (i := 1) nd rfl (Or.inl rfl) (pe_lst (pa_cons pe_non (pa_cons pe_bl (pa_cons pe_bl (pa_cons (pe_un uq_neg pe_int) (pa_cons pe_int (pa_cons pe_int (pa_cons pe_int (pa_cons (pe_op oq_pow pe_int pe_int) (pa_cons pe_str (pa_cons pe_str (pa_cons pe_str (pa_cons pe_str (pa_cons pe_str (pa_cons pe_str (pa_cons pe_str (pa_cons (pe_tup pa_nil) (pa_cons (pe_tup (pa_cons pe_int pa_nil)) (pa_cons (pe_lst pa_nil) (pa_cons pe_dnewK (pa_cons (pe_lst (pa_cons pe_str pa_nil)) (pa_cons (pe_tup (pa_cons pe_str pa_nil)) pa_nil)))))))))))))))))))))))
      (pss_cons (ps_set (i := 1) nd rfl (Or.inl rfl) (pe_op op_cat (pv 1) (pe_lst (pa_cons pe_str (pa_cons pe_str (pa_cons pe_str (pa_cons pe_str (pa_cons (pe_tup (pa_cons pe_str (pa_cons pe_str pa_nil))) (pa_cons (pe_tup (pa_cons pe_str (pa_cons (pe_tup pa_nil) (pa_cons pe_non pa_nil)))) (pa_cons (pe_tup (pa_cons pe_str (pa_cons pe_int pa_nil))) (pa_cons (pe_tup (pa_cons (pe_tup pa_nil) (pa_cons pe_int pa_nil))) (pa_cons (pe_tup (pa_cons pe_str (pa_cons pe_str pa_nil))) (pa_cons pe_int (pa_cons (pe_disp (pps_cons pe_str pe_int pps_nil) rfl rfl (fun z => by cases z) (by decide)) pa_nil))))))))))))))
      (pss_one (ps_ret (pe_cf G_law_pick (hr.mono (by decide)) rfl (pa_cons (pv 0) (pa_cons (pe_op op_cat (pv 1) (pe_lst (pa_cons pe_str (pa_cons pe_str (pa_cons (pe_tup (pa_cons pe_str (pa_cons pe_str pa_nil))) (pa_cons (pe_tup (pa_cons pe_str (pa_cons pe_int (pa_cons pe_int (pa_cons pe_non (pa_cons pe_non pa_nil)))))) (pa_cons (pe_tup (pa_cons (pe_op oq_mulS pe_str pe_int) pa_nil)) (pa_cons (pe_op oq_mulS pe_str pe_int) pa_nil)))))))) pa_nil)))))))
/-! ### _law_changed: slots _law_deck, _law_text, _law_way, _law_at, _law_some, _law_words, _law_to -/
def t_law_changed (K : PySem.W.Frag) : TS :=
  (tSeq (tPar 2 3 (tCons (tCall (sp_law_draw K) [] E0 (tCons (tVar 0) (tCons (tC (.int 7)) tNil))) (tCons (tCall (sp_law_draw K) [] E0 (tCons (tVar 0) (tCons (tOp qAdd (tCB (qLen K) (tCons (tVar 1) tNil)) (tC (.int 1))) tNil))) tNil))) (tSeq (tAsg (tLst (tCons (tC (.str " ")) (tCons (tC (.str "-")) (tCons (tC (.str "/")) (tCons (tC (.str ",")) (tCons (tC (.str "=")) (tCons (tC (.str "0")) (tCons (tC (.str "1")) (tCons (tC (.str "a")) (tCons (tC (.str "z")) (tCons (tC (.str "A")) (tCons (tC (.str "+")) (tCons (tC (.str ".")) (tCons (tC (.str "_")) (tCons (tC (.str "9")) (tCons (tC (.str "\n")) (tCons (tC (.str "|")) tNil))))))))))))))))) (gName 4)) (tSeq (tIfS (tTest (tOp rEq (tVar 2) (tC (.int 0)))) (tRet (tOp qAddS (tOp qAddS (tSl rSlS (tVar 1) tNoPart (tPart (tVar 3))) (tCall (sp_law_pick K) [] E0 (tCons (tVar 0) (tCons (tVar 4) tNil)))) (tSl rSlS (tVar 1) (tPart (tVar 3)) tNoPart))) tNext) (tSeq (tIfS (tTest (tOp rEq (tVar 2) (tC (.int 1)))) (tRet (tOp qAddS (tSl rSlS (tVar 1) tNoPart (tPart (tVar 3))) (tSl rSlS (tVar 1) (tPart (tOp qAdd (tVar 3) (tC (.int 1)))) tNoPart))) tNext) (tSeq (tIfS (tTest (tOp rEq (tVar 2) (tC (.int 2)))) (tRet (tOp qAddS (tOp qAddS (tSl rSlS (tVar 1) tNoPart (tPart (tVar 3))) (tCall (sp_law_pick K) [] E0 (tCons (tVar 0) (tCons (tVar 4) tNil)))) (tSl rSlS (tVar 1) (tPart (tOp qAdd (tVar 3) (tC (.int 1)))) tNoPart))) tNext) (tSeq (tAsg (tM1 qSplit (tVar 1) (tC (.str " "))) (gName 5)) (tSeq (tAsg (tCall (sp_law_draw K) [] E0 (tCons (tVar 0) (tCons (tCB (qLen K) (tCons (tVar 5) tNil)) tNil))) (gName 6)) (tSeq (tIfS (tTest (tOp rEq (tVar 2) (tC (.int 3)))) (tRet (tM1 (qJoin K) (tC (.str " ")) (tOp rCat (tSl (rSlL K) (tVar 5) tNoPart (tPart (tVar 6))) (tSl (rSlL K) (tVar 5) (tPart (tOp qAdd (tVar 6) (tC (.int 1)))) tNoPart)))) tNext) (tSeq (tIfS (tTest (tOp rEq (tVar 2) (tC (.int 4)))) (tRet (tM1 (qJoin K) (tC (.str " ")) (tOp rCat (tSl (rSlL K) (tVar 5) tNoPart (tPart (tOp qAdd (tVar 6) (tC (.int 1))))) (tSl (rSlL K) (tVar 5) (tPart (tVar 6)) tNoPart)))) tNext) (tSeq (tAsg (tLst (tCons (tC (.str "00")) (tCons (tC (.str "01")) (tCons (tC (.str "-0")) (tCons (tC (.str "-1")) (tCons (tC (.str "+1")) (tCons (tC (.str "1.0")) (tCons (tC (.str "")) (tCons (tC (.str "-")) (tCons (tC (.str "//-")) (tCons (tC (.str "/a=0/-")) (tCons (tC (.str "/a=1,b=2/-")) (tCons (tC (.str "/b=1,a=2/-")) (tCons (tC (.str "b/a=1/-")) (tCons (tC (.str "//")) (tCons (tC (.str "kept")) (tCons (tC (.str "read")) tNil))))))))))))))))) (gName 4)) (tSeq (tAsg (tOp rCat (tVar 4) (tLst (tCons (tC (.str "add")) (tCons (tC (.str "a")) (tCons (tC (.str "999999999")) (tCons (tOp qMulS (tC (.str "10")) (tC (.int 20))) (tCons (tC (.str "1_0")) (tCons (tC (.str "/a=1,a=1/-")) (tCons (tC (.str "/a=1,b=1,c=1,d=1/-")) (tCons (tC (.str "/a=-0/-")) (tCons (tC (.str "//01")) (tCons (tC (.str "a/a=1/0")) (tCons (tOp (rIx K) (tVar 5) (tC (.int 0))) (tCons (tC (.str "page")) tNil)))))))))))))) (gName 4)) (tRet (tM1 (qJoin K) (tC (.str " ")) (tOp rCat (tOp rCat (tSl (rSlL K) (tVar 5) tNoPart (tPart (tVar 6))) (tLst (tCons (tCall (sp_law_pick K) [] E0 (tCons (tVar 0) (tCons (tVar 4) tNil))) tNil))) (tSl (rSlL K) (tVar 5) (tPart (tOp qAdd (tVar 6) (tCB qIntI (tCons (tOp rEq (tVar 2) (tC (.int 5))) tNil)))) tNoPart)))))))))))))))
theorem sc_law_changed : FnScope ["_law_deck", "_law_text", "_law_way", "_law_at", "_law_some", "_law_words", "_law_to"] ["_law_deck", "_law_text"] (defScope s_law_changed) := ⟨rfl, rfl, rfl, by decide +kernel, rfl, by decide +kernel, by decide +kernel⟩
theorem ok_law_changed {P : Program} {w : World} {K : PySem.W.Frag} {mg : Str → Option Value} {base : Heap} (T : Gs K mg) (G_law_draw : OkF P w K mg base "_law_draw" 1 ["_law_deck", "_law_many"] (sp_law_draw K)) (G_law_pick : OkF P w K mg base "_law_pick" 2 ["_law_deck", "_law_some"] (sp_law_pick K)) (h : SemDk K pre_law_changed R_law_changed (t_law_changed K) 2 7) : OkF P w K mg base "_law_changed" 3 ["_law_deck", "_law_text"] (sp_law_changed K) := by
  have nd := sc_law_changed.nd
  refine T.d_law_changed.okDk T.g_law_changed sc_law_changed h (fun _ _ _ _ _ _ us hl => match us, hl with | [_, _], _ => rfl) fun cdv A outer s H E hr => ?_
  exact (pss_cons (ps_par rfl nd rfl rfl (by decide) rfl rfl (pa_cons (pe_cf G_law_draw (hr.mono (by decide)) rfl (pa_cons (pv 0) (pa_cons pe_int pa_nil))) (pa_cons (pe_cf G_law_draw (hr.mono (by decide)) rfl (pa_cons (pv 0) (pa_cons (pe_op oq_add (pe_callB cq_len rfl T.f_len boot_len (pa_cons (pv 1) pa_nil)) pe_int) pa_nil))) pa_nil)) rfl)
      (pss_cons (ps_set (i := 4) nd rfl (Or.inl rfl) (pe_lst (pa_cons pe_str (pa_cons pe_str (pa_cons pe_str (pa_cons pe_str (pa_cons pe_str (pa_cons pe_str (pa_cons pe_str (pa_cons pe_str (pa_cons pe_str (pa_cons pe_str (pa_cons pe_str (pa_cons pe_str (pa_cons pe_str (pa_cons pe_str (pa_cons pe_str (pa_cons pe_str pa_nil))))))))))))))))))
      (pss_cons (ps_if (pt_cmpR op_eq (pv 2) pe_int (nomark _)) (pss_one (ps_ret (pe_op oq_addS (pe_op oq_addS (pe_slice sl_str (pv 1) po_none (po_some (pv 3))) (pe_cf G_law_pick (hr.mono (by decide)) rfl (pa_cons (pv 0) (pa_cons (pv 4) pa_nil)))) (pe_slice sl_str (pv 1) (po_some (pv 3)) po_none)))) pss_nil)
      (pss_cons (ps_if (pt_cmpR op_eq (pv 2) pe_int (nomark _)) (pss_one (ps_ret (pe_op oq_addS (pe_slice sl_str (pv 1) po_none (po_some (pv 3))) (pe_slice sl_str (pv 1) (po_some (pe_op oq_add (pv 3) pe_int)) po_none)))) pss_nil)
      (pss_cons (ps_if (pt_cmpR op_eq (pv 2) pe_int (nomark _)) (pss_one (ps_ret (pe_op oq_addS (pe_op oq_addS (pe_slice sl_str (pv 1) po_none (po_some (pv 3))) (pe_cf G_law_pick (hr.mono (by decide)) rfl (pa_cons (pv 0) (pa_cons (pv 4) pa_nil)))) (pe_slice sl_str (pv 1) (po_some (pe_op oq_add (pv 3) pe_int)) po_none)))) pss_nil)
      (pss_cons (ps_set (i := 5) nd rfl (Or.inl rfl) (pe_split (pv 1) pe_str))
      (pss_cons (ps_set (i := 6) nd rfl (Or.inl rfl) (pe_cf G_law_draw (hr.mono (by decide)) rfl (pa_cons (pv 0) (pa_cons (pe_callB cq_len rfl T.f_len boot_len (pa_cons (pv 5) pa_nil)) pa_nil))))
      (pss_cons (ps_if (pt_cmpR op_eq (pv 2) pe_int (nomark _)) (pss_one (ps_ret (pe_join pe_str (pe_op op_cat (pe_slice sl_list (pv 5) po_none (po_some (pv 6))) (pe_slice sl_list (pv 5) (po_some (pe_op oq_add (pv 6) pe_int)) po_none))))) pss_nil)
      (pss_cons (ps_if (pt_cmpR op_eq (pv 2) pe_int (nomark _)) (pss_one (ps_ret (pe_join pe_str (pe_op op_cat (pe_slice sl_list (pv 5) po_none (po_some (pe_op oq_add (pv 6) pe_int))) (pe_slice sl_list (pv 5) (po_some (pv 6)) po_none))))) pss_nil)
      (pss_cons (ps_set (i := 4) nd rfl (Or.inl rfl) (pe_lst (pa_cons pe_str (pa_cons pe_str (pa_cons pe_str (pa_cons pe_str (pa_cons pe_str (pa_cons pe_str (pa_cons pe_str (pa_cons pe_str (pa_cons pe_str (pa_cons pe_str (pa_cons pe_str (pa_cons pe_str (pa_cons pe_str (pa_cons pe_str (pa_cons pe_str (pa_cons pe_str pa_nil))))))))))))))))))
      (pss_cons (ps_set (i := 4) nd rfl (Or.inl rfl) (pe_op op_cat (pv 4) (pe_lst (pa_cons pe_str (pa_cons pe_str (pa_cons pe_str (pa_cons (pe_op oq_mulS pe_str pe_int) (pa_cons pe_str (pa_cons pe_str (pa_cons pe_str (pa_cons pe_str (pa_cons pe_str (pa_cons pe_str (pa_cons (pe_ix ix_seq (pv 5) pe_int (fun _ _ => rfl)) (pa_cons pe_str pa_nil)))))))))))))))
      (pss_one (ps_ret (pe_join pe_str (pe_op op_cat (pe_op op_cat (pe_slice sl_list (pv 5) po_none (po_some (pv 6))) (pe_lst (pa_cons (pe_cf G_law_pick (hr.mono (by decide)) rfl (pa_cons (pv 0) (pa_cons (pv 4) pa_nil))) pa_nil))) (pe_slice sl_list (pv 5) (po_some (pe_op oq_add (pv 6) (pe_callTy cq_intI rfl T.f_int boot_int (pa_cons (pe_cmpR op_eq (pv 2) pe_int (nomark _)) pa_nil)))) po_none))))))))))))))))
end K61
end

section
set_option Elab.async false
set_option linter.all false
set_option maxRecDepth 100000
set_option maxHeartbeats 4000000
/-! what the deck's defs compute, by data -/
namespace K61
open PySem PySem.Spec PyProof.Rows L2 TL
variable {K : PySem.W.Frag}
theorem small_mul {i j : Int} (h1 : 0 ≤ i) (h2 : i < 2147483648) : CMul i j := Or.inl ⟨by omega, by omega⟩
theorem se_law_draw : SemDk K pre_law_draw R_law_draw (t_law_draw K) 2 4 := fun ds ⟨m, e, m0, m1⟩ => ⟨by rw [e] <;> rfl, fun D L => by
  subst e
  show Sd K (DKW D L) (t_law_draw K) [.raw (.ref D), .val (.int m), .any, .any] _ _
  unfold t_law_draw
  have fin : ∀ r : Int, R_law_draw [.int m] (.int (r % m)) := fun r => ⟨m, r % m, rfl, rfl, Int.emod_nonneg _ (by omega), Int.emod_lt_of_pos _ m0⟩
  have rest : ∀ (k : Int) (x : En), Sd K (DKW D L) (tSeq (tAsg (tOp qMod (tCB qIntI (tCons (tOp qAdd (tOp qMul (tVar 2) (tC (.int 39373))) (tC (.int 41))) tNil)) (tC (.int 2147483629))) (gName 2)) (tSeq (tAsg (tOp qMod (tCB qIntI (tCons (tOp qAdd (tOp qAdd (tOp qMul (tVar 2) (tVar 2)) (tOp qMul (tC (.int 46147)) (tDGet (tVar 0) (tC (.str "draws"))))) (tC (.int 7))) tNil)) (tC (.int 2147483563))) (gName 2)) (tRet (tOp qMod (tCB qIntI (tCons (tOp qDiv (tOp qMod (tCB qIntI (tCons (tOp qMul (tVar 2) (tC (.int 48271))) tNil)) (tC (.int 2147483647))) (tC (.int 64))) tNil)) (tVar 1))))) [.raw (.ref D), .val (.int m), .val (.int k), x] (fun _ => R_law_draw [.int m] .none) (R_law_draw [.int m]) := fun k x => by
    refine sd_seq (sd_asg (ed_mod (ed_intI (ed_add (ed_mul (ed_var rfl (ed_int ⟨k, 39373, rfl, rfl, Or.inr (by decide), ed_int ⟨_, _, rfl, rfl, ⟨_, rfl, ?_⟩⟩⟩)))))))
    refine ed_int ⟨_, _, rfl, rfl, by decide, ?_⟩
    have h1 : 0 ≤ (k * 39373 + 41) % 2147483629 := Int.emod_nonneg _ (by decide)
    have h2 : (k * 39373 + 41) % 2147483629 < 2147483629 := Int.emod_lt_of_pos _ (by decide)
    refine sd_seq (sd_asg (ed_mod (ed_intI (ed_add (ed_add (ed_mul (ed_var rfl (ed_var rfl ⟨_, _, rfl, rfl, small_mul h1 (by omega), ?_⟩))))))))
    refine ed_mul (ed_int (ed_draws rfl fun b => ⟨_, _, rfl, rfl, Or.inl (by decide), ⟨_, _, rfl, rfl, ?_⟩⟩))
    refine ed_int ⟨_, _, rfl, rfl, ⟨_, rfl, ?_⟩⟩
    refine ed_int ⟨_, _, rfl, rfl, by decide, ?_⟩
    refine sd_ret (ed_mod (ed_intI (ed_div (ed_mod (ed_intI (ed_mul (ed_var rfl ?_)))))))
    refine ed_int ⟨_, _, rfl, rfl, Or.inr (by decide), ⟨_, rfl, ?_⟩⟩
    refine ed_int ⟨_, _, rfl, rfl, by decide, ?_⟩
    refine ed_int ⟨_, _, rfl, rfl, ⟨by decide, by decide⟩, ⟨_, rfl, ?_⟩⟩
    exact ed_var rfl ⟨_, _, rfl, rfl, m0, fin _⟩
  refine sd_seq (sd_putDraws rfl (ed_add (ed_draws rfl fun k => ed_int ⟨_, _, rfl, rfl, ⟨_, rfl⟩, ?_⟩)))
  refine sd_seq (sd_asg (ed_add (ed_mixed rfl fun a => ed_mul (ed_int (ed_draws rfl fun b => ⟨_, _, rfl, rfl, Or.inl (by decide), ⟨_, _, rfl, rfl, ?_⟩⟩)))))
  refine sd_seq (sd_left (i := 3) rfl (by decide) (rest _ _) (fun c => er_var rfl) (fun c => er_pow ⟨by decide, by decide, by decide⟩) (fun c => er_divMax rfl rfl m1) (fun c => ?_) fun c => ?_)
  · exact sd_ret (ed_mod (ed_intI (ed_var rfl ⟨_, rfl, ed_var rfl ⟨_, _, rfl, rfl, m0, fin _⟩⟩)))
  · refine sd_asg (ed_add (ed_var rfl (ed_mod (ed_intI (ed_var rfl ⟨_, rfl, ?_⟩)))))
    refine ed_int ⟨_, _, rfl, rfl, by decide, ⟨_, _, rfl, rfl, ?_⟩⟩
    exact rest _ _⟩
theorem ex_draw {m : Int} {P : PyData → Prop} (m0 : 0 < m) (m1 : m < 1073741824) (h : ∀ r : Int, 0 ≤ r → r < m → P (.int r)) : pre_law_draw [.int m] ∧ ∀ d, R_law_draw [.int m] d → P d :=
  ⟨⟨m, rfl, m0, m1⟩, fun d ⟨m', r, e, hd, h1, h2⟩ => by cases e; subst hd; exact h r h1 h2⟩
theorem atD_list {xs : List PyData} {r : Int} (h1 : 0 ≤ r) (h2 : r < (xs.length : Nat)) : ∃ d ∈ xs, atD (.list xs) r = some d := by
  obtain ⟨n, rfl⟩ := Int.eq_ofNat_of_zero_le h1
  have hn : n < xs.length := by omega
  refine ⟨xs[n], List.getElem_mem hn, ?_⟩
  show atI xs n = _
  unfold atI
  have : ixN xs.length (n : Int) = some n := by
    unfold ixN
    simp [hn]
  rw [this]
  simp [hn]
theorem se_law_pick : SemDk K pre_law_pick R_law_pick (t_law_pick K) 2 2 := fun ds ⟨xs, e, x0, x1⟩ => ⟨by rw [e] <;> rfl, fun D L => by
  subst e
  show Sd K (DKW D L) (t_law_pick K) [.raw (.ref D), .val (.list xs)] _ _
  have hl : 0 < xs.length := List.length_pos_iff.mpr x0
  refine sd_ret (ed_ix (ed_var rfl (ed_dk rfl (ea_cons (ed_len (ed_var rfl ⟨xs.length, rfl, Evl.sz_of (by omega), ea_nil (ex_draw (by omega) (by omega) fun r h1 h2 => ?_)⟩))))))
  obtain ⟨d, hd, ha⟩ := atD_list h1 h2
  exact ⟨r, d, rfl, ha, (fun s hs => by cases hs), xs, rfl, hd⟩⟩
theorem ex_pick {xs : List PyData} {P : PyData → Prop} (h0 : xs ≠ []) (h1 : xs.length ≤ 1000) (h : ∀ d ∈ xs, P d) : pre_law_pick [.list xs] ∧ ∀ d, R_law_pick [.list xs] d → P d :=
  ⟨⟨xs, rfl, h0, h1⟩, fun d ⟨ys, e, hd⟩ => by cases e; exact h d hd⟩
theorem ex_key {P : PyData → Prop} (h : ∀ s ∈ KEYS, P (.str s)) : pre_law_key [] ∧ ∀ d, R_law_key [] d → P d := ⟨rfl, fun d ⟨s, hs, hd⟩ => by subst hd; exact h s hs⟩
theorem ex_worth {P : PyData → Prop} (h : ∀ i : Int, i.natAbs ≤ 999999999 → P (.int i)) : pre_law_worth [] ∧ ∀ d, R_law_worth [] d → P d := ⟨rfl, fun d ⟨i, hi, hd⟩ => by subst hi; exact h i hd⟩
theorem ex_content {P : PyData → Prop} (h : ∀ d, fine 3 d = true → contD d = true → (contT d).length ≤ 83 → P d) : pre_law_content [] ∧ ∀ d, R_law_content [] d → P d := ⟨rfl, fun d ⟨h1, h2, h3⟩ => h d h1 h2 h3⟩
theorem ex_operation {P : PyData → Prop} (h : ∀ xs, fine 1 (.tuple xs) = true → opD (.tuple xs) = true → xs.length ≤ 4 → (∀ x ∈ xs, (txt x).length ≤ 10) → P (.tuple xs)) : pre_law_operation [] ∧ ∀ d, R_law_operation [] d → P d :=
  ⟨rfl, fun d ⟨xs, e, h1, h2, h3, h4⟩ => by subst e; exact h xs h1 h2 h3 h4⟩
theorem mem_cons {α : Type} {P : α → Prop} {a : α} {l : List α} (h : P a) (t : ∀ d ∈ l, P d) : ∀ d ∈ a :: l, P d := fun d hd => (List.mem_cons.mp hd).elim (fun e => e ▸ h) (t d)
theorem mem_nil {α : Type} {P : α → Prop} : ∀ d ∈ ([] : List α), P d := fun _ h => absurd h List.not_mem_nil
theorem mem_strs {P : PyData → Prop} {l : List Str} (h : ∀ s ∈ l, P (.str s)) : ∀ d ∈ l.map PyData.str, P d := fun d hd => by
  obtain ⟨s, hs, rfl⟩ := List.mem_map.mp hd
  exact h s hs
theorem se_law_key : SemDk K pre_law_key R_law_key (t_law_key K) 1 2 := fun ds e => ⟨by rw [e] <;> rfl, fun D L => by
  cases e
  show Sd K (DKW D L) (t_law_key K) [.raw (.ref D), .any] _ _
  unfold t_law_key
  refine sd_seq (sd_asg (ed_lst ?_))
  repeat (refine ea_cons (ed_str ?_))
  refine ea_nil ⟨by simp, ?_⟩
  refine sd_seq (sd_if (et_tTest (ed_gt (ed_dk rfl (ea_cons (ed_int (ea_nil (ex_draw (by decide) (by decide) fun r h1 h2 => ed_int ⟨_, _, rfl, rfl, ⟨_, rfl, ?_⟩⟩))))))))
  refine ifc (fun _ => ?_) fun _ => sd_next ?_
  · refine sd_ret (ed_dk rfl (ea_cons (ed_var rfl (ea_nil (ex_pick (by simp) (by simp) ?_)))))
    exact mem_strs (l := ["a", "b", "c", "ab", "z", "abcdefghi", "m", "k", "zz", "ba"]) fun s hs => ⟨s, by
      show s ∈ (["a", "b", "c", "ab", "z", "abcdefghi", "m", "k", "zz", "ba"] : List Str) ++ (["qqkquuwwb", "y"] : List Str)
      exact List.mem_append_left _ hs, rfl⟩
  · refine sd_ret (ed_dk rfl (ea_cons (ed_lst (ea_cons (ed_str (ea_cons (ed_str (ea_nil ⟨by simp, ea_nil (ex_pick (by simp) (by simp) ?_)⟩))))))))
    exact mem_strs (l := ["qqkquuwwb", "y"]) fun s hs => ⟨s, by
      show s ∈ (["a", "b", "c", "ab", "z", "abcdefghi", "m", "k", "zz", "ba"] : List Str) ++ (["qqkquuwwb", "y"] : List Str)
      exact List.mem_append_right _ hs, rfl⟩⟩
theorem se_law_worth : SemDk K pre_law_worth R_law_worth (t_law_worth K) 1 1 := fun ds e => ⟨by rw [e] <;> rfl, fun D L => by
  cases e
  show Sd K (DKW D L) (t_law_worth K) [.raw (.ref D)] _ _
  unfold t_law_worth
  refine sd_ret (ed_dk rfl (ea_cons (ed_lst ?_)))
  repeat (refine ea_cons (ed_int ?_))
  refine ea_cons (ed_neg (ed_int ⟨_, rfl, ?_⟩))
  repeat (refine ea_cons (ed_int ?_))
  refine ea_cons (ed_neg (ed_int ⟨_, rfl, ?_⟩))
  refine ea_cons (ed_sub (ed_dk rfl (ea_cons (ed_int (ea_nil (ex_draw (by decide) (by decide) fun r h1 h2 => ed_int ⟨_, _, rfl, rfl, ?_⟩))))))
  repeat (refine ea_cons (ed_int ?_))
  refine ea_nil ⟨by simp, ea_nil (ex_pick (by simp) (by simp) ?_)⟩
  have ok : ∀ i : Int, i.natAbs ≤ 999999999 → R_law_worth [] (.int i) := fun i hi => ⟨i, rfl, hi⟩
  repeat (refine mem_cons (ok _ (by omega)) ?_)
  exact mem_nil⟩
/-! ### numbers' texts -/
theorem small_fine {k : Nat} {i : Int} (h : i.natAbs ≤ 999999999) : fine k (.int i) = true := by
  refine int_fine ?_
  by_cases z : i.natAbs = 0
  · rw [z]; decide
  · refine (Nat.log2_lt z).mpr (Nat.lt_of_le_of_lt h ?_)
    exact Nat.lt_of_lt_of_le (by decide : 999999999 < 2 ^ 30) (Nat.pow_le_pow_right (by decide) (by decide))
theorem small_len {i : Int} (h : i.natAbs ≤ 999999999) : (numS i).length ≤ 10 ∧ (0 ≤ i → (numS i).length ≤ 9) := by
  have h2 : (numL i.natAbs).length ≤ 9 := numL_len (by decide) (Nat.lt_of_le_of_lt h (by decide))
  rw [len_tl, tl_numS]
  split
  · rw [List.length_cons]; exact ⟨by omega, fun _ => by omega⟩
  · exact ⟨by omega, fun _ => h2⟩
theorem keys_ok : ∀ s ∈ KEYS, keyS s = true ∧ s.length ≤ 9 ∧ s.cps.all (· < 0x110000) = true := by decide +kernel
theorem key_fine {k : Nat} {s : Str} (h : s ∈ KEYS) : fine k (.str s) = true := str_fine (by have := (keys_ok s h).2.1; omega) (keys_ok s h).2.2
theorem fine1 {l : List PyData} {k : Nat} (hl : l.length ≤ 600) (h : ∀ x ∈ l, fine k x = true) : fine (k + 1) (.tuple l) = true := tup_fine hl h
theorem se_law_operation : SemDk K pre_law_operation R_law_operation (t_law_operation K) 1 3 := fun ds e => ⟨by rw [e] <;> rfl, fun D L => by
  cases e
  show Sd K (DKW D L) (t_law_operation K) [.raw (.ref D), .any, .any] _ _
  unfold t_law_operation
  refine sd_seq (sd_par (ed_dk rfl (ea_cons (ed_int (ea_nil (ex_draw (by decide) (by decide) fun r h1 h2 => ed_dk rfl (ea_nil (ex_key fun s hs => ?_))))))))
  have hk := keys_ok s hs
  refine sd_seq (sd_if (et_tTest (ed_eq (ed_var rfl (ed_int ⟨rfl, _, rfl, ?_⟩)))))
  refine ifc (fun _ => ?_) fun _ => sd_next ?_
  · refine sd_ret (ed_tup (ea_cons (ed_str (ea_cons (ed_var rfl (ea_nil ⟨by simp, ?_⟩))))))
    refine ⟨_, rfl, fine1 (by simp) (mem_cons (str_fine (by decide +kernel) (by decide +kernel)) (mem_cons (key_fine hs) mem_nil)), ?_, by simp, mem_cons (by decide) (mem_cons (by show s.length ≤ 10; omega) mem_nil)⟩
    show (keyS s && _) = true
    rw [hk.1]; rfl
  · refine sd_ret (ed_if (et_tTest (ed_lt (ed_var rfl (ed_int ⟨_, _, rfl, rfl, _, rfl, ?_⟩)))))
    refine ifc (fun _ => ?_) fun _ => ?_
    · refine ed_tup (ea_cons (ed_str (ea_cons (ed_var rfl (ea_cons (ed_dk rfl (ea_nil (ex_worth fun i hi => ea_nil ⟨by simp, ?_⟩))))))))
      refine ⟨_, rfl, fine1 (by simp) (mem_cons (str_fine (by decide +kernel) (by decide +kernel)) (mem_cons (key_fine hs) (mem_cons (small_fine hi) mem_nil))), ?_, by simp, mem_cons (by decide) (mem_cons (by show s.length ≤ 10; omega) (mem_cons (small_len hi).1 mem_nil))⟩
      show (keyS s && _) = true
      rw [hk.1]; rfl
    · refine ed_tup (ea_cons (ed_str (ea_cons (ed_var rfl (ea_cons (ed_dk rfl (ea_nil (ex_worth fun i hi => ea_cons (ed_dk rfl (ea_nil (ex_worth fun j hj => ea_nil ⟨by simp, ?_⟩))))))))))) 
      refine ⟨_, rfl, fine1 (by simp) (mem_cons (str_fine (by decide +kernel) (by decide +kernel)) (mem_cons (key_fine hs) (mem_cons (small_fine hi) (mem_cons (small_fine hj) mem_nil)))), ?_, by simp, mem_cons (by decide) (mem_cons (by show s.length ≤ 10; omega) (mem_cons (small_len hi).1 (mem_cons (small_len hj).1 mem_nil)))⟩
      show (keyS s && _) = true
      rw [hk.1]; rfl⟩
end K61
end

section
set_option Elab.async false
set_option linter.all false
set_option maxRecDepth 100000
set_option maxHeartbeats 4000000
namespace K61
open PySem PySem.Spec PyProof.Rows L2 TL
variable {K : PySem.W.Frag}
/-! ### contents -/
theorem paired_keys : ∀ {l ys : List PyData}, Paired (fun _ y => ∃ k ∈ KEYS, y = .str k) l ys → ∃ ks : List Str, ys = ks.map .str ∧ ks.length = l.length ∧ ∀ k ∈ ks, k ∈ KEYS
  | _, _, .nil => ⟨[], rfl, rfl, fun _ h => absurd h List.not_mem_nil⟩
  | _, _, .cons ⟨k, hk, e⟩ r => by
    obtain ⟨ks, h1, h2, h3⟩ := paired_keys r
    exact ⟨k :: ks, by rw [e, h1]; rfl, by simp [h2], mem_cons hk h3⟩
theorem uniq_memK : ∀ (l acc : List Str) (x : Str), x ∈ l.foldl addT acc → x ∈ acc ∨ x ∈ l
  | [], acc, x, h => .inl h
  | y :: r, acc, x, h => by
    rcases uniq_memK r (addT acc y) x h with h1 | h1
    · by_cases hy : y ∈ acc
      · have e : addT acc y = acc := if_pos hy
        rw [e] at h1; exact .inl h1
      · have e : addT acc y = acc ++ [y] := if_neg hy
        rw [e] at h1
        rcases List.mem_append.mp h1 with h2 | h2
        · exact .inl h2
        · exact .inr (by rw [List.mem_singleton.mp h2]; exact List.mem_cons_self)
    · exact .inr (List.mem_cons_of_mem _ h1)
def selK (l : Str) : PyData → Bool
  | .str k => !ltS k l
  | _ => false
def entF (x y : PyData) : Prop := ∃ (k : Str) (w : Int), x = .str k ∧ y = .tuple [.str k, .int w] ∧ w ≠ 0 ∧ w.natAbs ≤ 999999999
def entOf (p : Str × Int) : PyData := .tuple [.str p.1, .int p.2]
theorem paired_ents (l : Str) : ∀ (ys : List Str) (es : List PyData), Paired entF ((ys.map PyData.str).filter (selK l)) es → ∃ ps : List (Str × Int), es = ps.map entOf ∧ (ps.map (·.1)).Sublist ys ∧ ∀ p ∈ ps, ltS p.1 l = false ∧ p.2 ≠ 0 ∧ p.2.natAbs ≤ 999999999
  | [], es, h => by
    cases h
    exact ⟨[], rfl, .slnil, fun _ h => absurd h List.not_mem_nil⟩
  | y :: ys, es, h => by
    rw [List.map_cons, List.filter_cons] at h
    cases hs : ltS y l with
    | true =>
      have : selK l (.str y) = false := by show (!ltS y l) = false; rw [hs]; rfl
      rw [this] at h
      obtain ⟨ps, h1, h2, h3⟩ := paired_ents l ys es h
      exact ⟨ps, h1, .cons _ h2, h3⟩
    | false =>
      have : selK l (.str y) = true := by show (!ltS y l) = true; rw [hs]; rfl
      rw [if_pos this] at h
      cases h with
      | cons h0 hr =>
        obtain ⟨k, w, e1, e2, w0, w1⟩ := h0
        cases e1
        obtain ⟨ps, h1, h2, h3⟩ := paired_ents l ys _ hr
        exact ⟨(y, w) :: ps, by rw [h1, e2]; rfl, .cons_cons _ h2, mem_cons ⟨hs, w0, w1⟩ h3⟩
theorem content_fin {l : Str} (hl : l = Str.empty ∨ l ∈ KEYS) {ps : List (Str × Int)} (h3 : ps.length ≤ 3) (hk : ∀ p ∈ ps, p.1 ∈ KEYS) (hr : (ps.map (·.1)).Pairwise LtS) (hp : ∀ p ∈ ps, ltS p.1 l = false ∧ p.2 ≠ 0 ∧ p.2.natAbs ≤ 999999999)
    {f : PyData} (hf : f = .none ∨ ∃ i : Int, f = .int i ∧ 0 ≤ i ∧ i.natAbs ≤ 999999999) : R_law_content [] (.tuple [.str l, .tuple (ps.map entOf), f]) := by
  have l9 : l.length ≤ 9 ∧ l.cps.all (· < 0x110000) = true := by
    rcases hl with e | h
    · rw [e]; exact ⟨by decide, by decide +kernel⟩
    · exact (keys_ok l h).2
  refine ⟨?_, ?_, ?_⟩
  · refine fine1 (by simp) (mem_cons (str_fine (by omega) l9.2) (mem_cons (fine1 (by rw [List.length_map]; omega) fun x hx => ?_) (mem_cons ?_ mem_nil)))
    · obtain ⟨p, hp', rfl⟩ := List.mem_map.mp hx
      exact fine1 (by simp) (mem_cons (key_fine (hk p hp')) (mem_cons (small_fine (hp p hp').2.2) mem_nil))
    · rcases hf with e | ⟨i, e, i0, i1⟩
      · rw [e]; rfl
      · rw [e]; exact small_fine i1
  · show ((decide (l = Str.empty) || keyS l) && (decide ((ps.map entOf).length ≤ 3) && ((ps.map entOf).all (entD l) && (risS ((ps.map entOf).map keyOf) && (isN f || isC f))))) = true
    have a1 : (decide (l = Str.empty) || keyS l) = true := by
      rcases hl with e | h
      · rw [decide_eq_true e]; rfl
      · rw [(keys_ok l h).1]; simp
    have a2 : decide ((ps.map entOf).length ≤ 3) = true := decide_eq_true (by rw [List.length_map]; exact h3)
    have a3 : (ps.map entOf).all (entD l) = true := by
      refine List.all_eq_true.mpr fun x hx => ?_
      obtain ⟨p, hp', rfl⟩ := List.mem_map.mp hx
      show (keyS p.1 && (decide (p.2 ≠ 0) && !ltS p.1 l)) = true
      rw [(keys_ok _ (hk p hp')).1, decide_eq_true (hp p hp').2.1, (hp p hp').1]; rfl
    have a4 : risS ((ps.map entOf).map keyOf) = true := by
      rw [List.map_map]
      exact (ris_iff _).mpr hr
    have a5 : (isN f || isC f) = true := by
      rcases hf with e | ⟨i, e, i0, i1⟩
      · rw [e]; rfl
      · rw [e]; exact decide_eq_true i0
    rw [a1, a2, a3, a4, a5]; rfl
  · show (l ++ "/" ++ Str.join "," ((ps.map entOf).map entT) ++ "/" ++ folT f).length ≤ 83
    have b1 : (folT f).length ≤ 9 := by
      rcases hf with e | ⟨i, e, i0, i1⟩
      · rw [e]; decide
      · rw [e]; exact (small_len i1).2 i0
    have b2 := join_len "," ((ps.map entOf).map entT)
    have b3 := sum_le (B := 20) (l := (ps.map entOf).map entT) fun x hx => by
      obtain ⟨y, hy, rfl⟩ := List.mem_map.mp hx
      obtain ⟨p, hp', rfl⟩ := List.mem_map.mp hy
      show (p.1 ++ "=" ++ numS p.2).length ≤ 20
      rw [cat_len, cat_len, lit_len.1]
      have c1 := (keys_ok _ (hk p hp')).2.1
      have c2 := (small_len (hp p hp').2.2).1
      omega
    rw [cat_len, cat_len, cat_len, cat_len, lit_len.2.1]
    rw [lit_len.2.2.1] at b2
    simp only [List.length_map] at b2 b3
    omega
theorem se_law_content : SemDk K pre_law_content R_law_content (t_law_content K) 1 7 := fun ds e => ⟨by rw [e] <;> rfl, fun D L => by
  cases e
  show Sd K (DKW D L) (t_law_content K) [.raw (.ref D), .any, .any, .any, .any, .any, .any] _ _
  unfold t_law_content
  refine sd_seq (sd_asgG (gs := [1, 2]) (ed_tup (ea_cons (ed_dk rfl (ea_cons (ed_int (ea_nil (ex_draw (by decide) (by decide) fun r h1 h2 => ?_))))))))
  refine ea_cons (ed_dk rfl (ea_cons (ed_lst (ea_cons (ed_str (ea_cons (ed_str (ea_cons (ed_dk rfl (ea_nil (ex_key fun s hs => ea_nil ⟨by simp, ea_nil (ex_pick (by simp) (by simp) ?_)⟩)))))))))))
  intro d hd
  have hd' : ∃ l, d = .str l ∧ (l = Str.empty ∨ l ∈ KEYS) := mem_cons (P := fun d => ∃ l, d = .str l ∧ (l = Str.empty ∨ l ∈ KEYS)) ⟨_, rfl, .inl rfl⟩ (mem_cons ⟨_, rfl, .inl rfl⟩ (mem_cons ⟨_, rfl, .inr hs⟩ mem_nil)) d hd
  obtain ⟨l, rfl, hl⟩ := hd'
  refine ea_nil ⟨by simp, eg_tup2 ?_⟩
  refine sd_seq (sd_if (et_tTest (ed_eq (ed_var rfl (ed_int ⟨rfl, _, rfl, ?_⟩)))))
  refine ifc (fun _ => sd_ret (ed_non ⟨rfl, rfl, by decide⟩)) fun _ => sd_next ?_
  refine sd_seq (sd_asg (ed_sortSet (ed_lcR (gs := [4]) (by simp) (ei_range (ed_dk rfl (ea_cons (ed_int (ea_nil (ex_draw (by decide) (by decide) fun n g1 g2 => ?_)))))))))
  obtain ⟨m, rfl⟩ := Int.eq_ofNat_of_zero_le g1
  refine ⟨m, rfl, by omega, by simp [rangeD]; omega, fun _ => true, fun _ y => ∃ k ∈ KEYS, y = .str k, fun x _ => eg_name (et_yes ⟨rfl, fun _ => ed_dk rfl (ea_nil (ex_key fun k hk => ⟨k, hk, rfl⟩))⟩), fun ys hys => ?_⟩
  rw [filter_all] at hys
  obtain ⟨ks, rfl, k1, k2⟩ := paired_keys hys
  have k3 : ks.length ≤ 3 := by rw [k1]; simp [rangeD]; omega
  refine ⟨ks, rfl, by omega, fun ys pm hsrt => ?_⟩
  have hy : ys.Pairwise LtS := strict_of (Srt_iff ys hsrt) (pm.nodup_iff.mpr (fold_uniq ks [] List.nodup_nil))
  have y3 : ys.length ≤ 3 := by
    have := uniqT_len ks []
    have e : ys.length = (uniqT ks).length := pm.length_eq
    have e2 : (uniqT ks).length ≤ ks.length := by show (ks.foldl addT []).length ≤ ks.length; simpa using this
    omega
  have yk : ∀ y ∈ ys, y ∈ KEYS := fun y hy => by
    rcases uniq_memK ks [] y (pm.mem_iff.mp hy) with z | z
    · cases z
    · exact k2 y z
  refine sd_seq (sd_asg (ed_tupOf (ed_lcR (gs := [6]) (by simp) (ei_list (ed_var rfl ⟨_, rfl, by simp; omega, selK l, entF, fun x hx => ?_, fun es hes => ?_⟩)))))
  · obtain ⟨k, hk, rfl⟩ := List.mem_map.mp hx
    refine eg_name (et_tTest (ed_geS (ed_var rfl (ed_var rfl ⟨_, _, rfl, rfl, _, rfl, rfl, fun _ => ?_⟩))))
    refine ed_tup (ea_cons (ed_var rfl (ea_cons (ed_orI (ed_dk rfl (ea_nil (ex_worth fun i hi => ⟨i, rfl, fun h0 => ?_, fun _ => ?_⟩)))))))
    · exact ea_nil ⟨by simp, k, i, rfl, rfl, h0, hi⟩
    · exact ed_int (ea_nil ⟨by simp, k, 3, rfl, rfl, by decide, by decide⟩)
  · obtain ⟨ps, rfl, p1, p2⟩ := paired_ents l ys es hes
    refine ⟨_, rfl, ?_⟩
    have q1 : ps.length ≤ 3 := by have := p1.length_le; simp at this; omega
    have q2 : ∀ p ∈ ps, p.1 ∈ KEYS := fun p hp => yk _ (p1.subset (List.mem_map_of_mem hp))
    have fin : ∀ f, (f = .none ∨ ∃ i : Int, f = .int i ∧ 0 ≤ i ∧ i.natAbs ≤ 999999999) → R_law_content [] (.tuple [.str l, .tuple (ps.map entOf), f]) := fun f hf => content_fin hl q1 q2 (hy.sublist p1) p2 hf
    refine sd_ret (ed_tup (ea_cons (ed_var rfl (ea_cons (ed_var rfl (ea_cons (ed_dk rfl (ea_cons (ed_lst (ea_cons (ed_non (ea_cons (ed_non ?_)))))))))))))
    repeat (refine ea_cons (ed_int ?_))
    refine ea_nil ⟨by simp, ea_nil (ex_pick (by simp) (by simp) ?_)⟩
    refine mem_cons (ea_nil ⟨by simp, fin _ (.inl rfl)⟩) (mem_cons (ea_nil ⟨by simp, fin _ (.inl rfl)⟩) ?_)
    repeat (refine mem_cons (ea_nil ⟨by simp, fin _ (.inr ⟨_, rfl, by decide, by decide⟩)⟩) ?_)
    exact mem_nil⟩
end K61
end

section
set_option Elab.async false
set_option linter.all false
set_option maxRecDepth 100000
set_option maxHeartbeats 4000000
namespace K61
open PySem PySem.Spec PyProof.Rows L2 TL
variable {K : PySem.W.Frag}
/-! ### rows -/
def num9 (i : Int) : Prop := 0 ≤ i ∧ i.natAbs ≤ 999999999
theorem len_row {xs : List PyData} {ws : List Str} (hw : rowW xs = ws) (h : ∀ p ∈ ws, p.length ≤ 83) (hs : (ws.map (·.length)).sum + ws.length ≤ 193) : (rowT (.tuple xs)).length ≤ 193 ∧ ∀ p ∈ rowW xs, p.length ≤ 83 := by
  refine ⟨?_, by rw [hw]; exact h⟩
  show (Str.join " " (rowW xs)).length ≤ 193
  rw [hw]
  have := join_len " " ws
  rw [lit_len.2.2.2.2] at this
  omega
theorem word_len : ("page" : Str).length = 4 ∧ ("unpage" : Str).length = 6 ∧ ("op" : Str).length = 2 ∧ ("comp" : Str).length = 4 ∧ ("start" : Str).length = 5 ∧ ("end" : Str).length = 3 ∧ ("kept" : Str).length = 4 ∧ ("dropped" : Str).length = 7 := by decide +kernel
theorem str_k {k : Nat} (s : Str) (h : (decide (s.length ≤ 600) && s.cps.all (· < 0x110000)) = true := by decide +kernel) : fine k (.str s) = true := by cases k <;> exact h
theorem up34 {d : PyData} {j : Nat} : ∀ n, fine j d = true → fine (j + n) d = true
  | 0, h => h
  | n + 1, h => fine_up _ d (up34 n h)
theorem row_page {a b : Int} (ha : num9 a) (hb : num9 b) {c d : PyData} (hc : R_law_content [] c) (hd : R_law_content [] d) : R_law_row [] (.tuple [.str "page", .int a, .int b, c, d]) := by
  refine ⟨_, rfl, ?_, ?_, ?_⟩
  · exact fine1 (by simp) (mem_cons (str_k _) (mem_cons (small_fine ha.2) (mem_cons (small_fine hb.2) (mem_cons (up34 1 hc.1) (mem_cons (up34 1 hd.1) mem_nil)))))
  · show (decide (0 ≤ a) && rPage [.int b, c, d]) = true
    show (decide (0 ≤ a) && (decide (0 ≤ b) && (contD c && contD d))) = true
    rw [decide_eq_true ha.1, decide_eq_true hb.1, hc.2.1, hd.2.1]; rfl
  · have l1 := (small_len ha.2).2 ha.1
    have l2 := (small_len hb.2).2 hb.1
    have l3 := hc.2.2
    have l4 := hd.2.2
    have l5 := word_len
    refine len_row (ws := ["page", numS a, numS b, contT c, contT d]) rfl (mem_cons (by omega) (mem_cons (by omega) (mem_cons (by omega) (mem_cons l3 (mem_cons l4 mem_nil))))) ?_
    simp only [List.map_cons, List.map_nil, List.sum_cons, List.sum_nil, List.length_cons, List.length_nil]
    omega
theorem row_unpage {a b : Int} (ha : num9 a) (hb : num9 b) {c : PyData} (hc : R_law_content [] c) : R_law_row [] (.tuple [.str "unpage", .int a, .int b, c]) := by
  refine ⟨_, rfl, ?_, ?_, ?_⟩
  · exact fine1 (by simp) (mem_cons (str_k _) (mem_cons (small_fine ha.2) (mem_cons (small_fine hb.2) (mem_cons (up34 1 hc.1) mem_nil))))
  · show (decide (0 ≤ a) && (decide (0 ≤ b) && contD c)) = true
    rw [decide_eq_true ha.1, decide_eq_true hb.1, hc.2.1]; rfl
  · have l1 := (small_len ha.2).2 ha.1
    have l2 := (small_len hb.2).2 hb.1
    have l3 := hc.2.2
    have l5 := word_len
    refine len_row (ws := ["unpage", numS a, numS b, contT c]) rfl (mem_cons (by omega) (mem_cons (by omega) (mem_cons (by omega) (mem_cons l3 mem_nil)))) ?_
    simp only [List.map_cons, List.map_nil, List.sum_cons, List.sum_nil, List.length_cons, List.length_nil]
    omega
theorem row_op {a b : Int} (ha : num9 a) (hb : num9 b) {xs : List PyData} (h1 : fine 1 (.tuple xs) = true) (h2 : opD (.tuple xs) = true) (h3 : xs.length ≤ 4) (h4 : ∀ x ∈ xs, (txt x).length ≤ 10) : R_law_row [] (.tuple [.str "op", .int a, .int b, .tuple xs]) := by
  refine ⟨_, rfl, ?_, ?_, ?_⟩
  · exact fine1 (by simp) (mem_cons (str_k _) (mem_cons (small_fine ha.2) (mem_cons (small_fine hb.2) (mem_cons (up34 3 h1) mem_nil))))
  · show (decide (0 ≤ a) && (decide (0 ≤ b) && opD (.tuple xs))) = true
    rw [decide_eq_true ha.1, decide_eq_true hb.1, h2]; rfl
  · have l1 := (small_len ha.2).2 ha.1
    have l2 := (small_len hb.2).2 hb.1
    have l5 := word_len
    have l4 : ∀ p ∈ xs.map txt, p.length ≤ 10 := fun p hp => by
      obtain ⟨x, hx, rfl⟩ := List.mem_map.mp hp
      exact h4 x hx
    have l6 := sum_le l4
    refine len_row (ws := "op" :: numS a :: numS b :: xs.map txt) rfl (mem_cons (by omega) (mem_cons (by omega) (mem_cons (by omega) fun p hp => Nat.le_trans (l4 p hp) (by decide)))) ?_
    simp only [List.map_cons, List.sum_cons, List.length_cons, List.length_map] at l6 ⊢
    omega
theorem row_comp {a b c : Int} (ha : num9 a) (hb : num9 b) (hc : num9 c) : R_law_row [] (.tuple [.str "comp", .int a, .int b, .int c]) := by
  refine ⟨_, rfl, ?_, ?_, ?_⟩
  · exact fine1 (by simp) (mem_cons (str_k _) (mem_cons (small_fine ha.2) (mem_cons (small_fine hb.2) (mem_cons (small_fine hc.2) mem_nil))))
  · show (decide (0 ≤ a) && (decide (0 ≤ b) && decide (0 ≤ c))) = true
    rw [decide_eq_true ha.1, decide_eq_true hb.1, decide_eq_true hc.1]; rfl
  · have l1 := (small_len ha.2).2 ha.1
    have l2 := (small_len hb.2).2 hb.1
    have l3 := (small_len hc.2).2 hc.1
    have l5 := word_len
    refine len_row (ws := ["comp", numS a, numS b, numS c]) rfl (mem_cons (by omega) (mem_cons (by omega) (mem_cons (by omega) (mem_cons (by omega) mem_nil)))) ?_
    simp only [List.map_cons, List.map_nil, List.sum_cons, List.sum_nil, List.length_cons, List.length_nil]
    omega
theorem row_start {a : Int} (ha : num9 a) : R_law_row [] (.tuple [.str "start", .int a]) := by
  refine ⟨_, rfl, ?_, ?_, ?_⟩
  · exact fine1 (by simp) (mem_cons (str_k _) (mem_cons (small_fine ha.2) mem_nil))
  · show (decide (0 ≤ a) && true) = true
    rw [decide_eq_true ha.1]; rfl
  · have l1 := (small_len ha.2).2 ha.1
    have l5 := word_len
    refine len_row (ws := ["start", numS a]) rfl (mem_cons (by omega) (mem_cons (by omega) mem_nil)) ?_
    simp only [List.map_cons, List.map_nil, List.sum_cons, List.sum_nil, List.length_cons, List.length_nil]
    omega
theorem row_end {a : Int} (ha : num9 a) {w : Str} (hw : w = "kept" ∨ w = "dropped") : R_law_row [] (.tuple [.str "end", .int a, .str w]) := by
  have l5 := word_len
  have l6 : w.length ≤ 7 := by rcases hw with e | e <;> rw [e] <;> omega
  refine ⟨_, rfl, ?_, ?_, ?_⟩
  · refine fine1 (by simp) (mem_cons (str_k _) (mem_cons (small_fine ha.2) (mem_cons ?_ mem_nil)))
    rcases hw with e | e <;> rw [e] <;> exact str_k _
  · show (decide (0 ≤ a) && decide (w = "kept" ∨ w = "dropped")) = true
    rw [decide_eq_true ha.1, decide_eq_true hw]; rfl
  · have l1 := (small_len ha.2).2 ha.1
    refine len_row (ws := ["end", numS a, w]) rfl (mem_cons (by omega) (mem_cons (by omega) (mem_cons (by omega) mem_nil))) ?_
    simp only [List.map_cons, List.map_nil, List.sum_cons, List.sum_nil, List.length_cons, List.length_nil]
    omega
theorem range3 : rangeD 3 = [.int 0, .int 1, .int 2] := rfl
theorem se_law_row : SemDk K pre_law_row R_law_row (t_law_row K) 1 4 := fun ds e => ⟨by rw [e] <;> rfl, fun D L => by
  cases e
  show Sd K (DKW D L) (t_law_row K) [.raw (.ref D), .any, .any, .any] _ _
  unfold t_law_row
  refine sd_seq (sd_par (ed_dk rfl (ea_cons (ed_int (ea_nil (ex_draw (by decide) (by decide) fun r h1 h2 => ?_))))))
  refine ed_lcR (gs := [3]) (by simp) (ei_range (ed_int ⟨3, rfl, by decide, by simp [rangeD], fun _ => true, fun _ y => ∃ i, y = .int i ∧ num9 i, fun x _ => eg_name (et_yes ⟨rfl, fun _ => ?_⟩), fun ys hys => ?_⟩))
  · refine ed_dk rfl (ea_cons (ed_lst ?_))
    repeat (refine ea_cons (ed_int ?_))
    refine ea_cons (ed_dk rfl (ea_cons (ed_int (ea_nil (ex_draw (by decide) (by decide) fun n n0 n1 => ea_nil ⟨by simp, ea_nil (ex_pick (by simp) (by simp) ?_)⟩)))))
    repeat (refine mem_cons ⟨_, rfl, by omega, by omega⟩ ?_)
    exact mem_nil
  · rw [filter_all, range3] at hys
    rcases hys with _ | ⟨⟨a, rfl, ha⟩, hys⟩
    rcases hys with _ | ⟨⟨b, rfl, hb⟩, hys⟩
    rcases hys with _ | ⟨⟨c, rfl, hc⟩, hys⟩
    cases hys
    have i0 : ∀ {ρ : List En} {P : PyData → Prop}, ρ[2]? = some (.val (.list [.int a, .int b, .int c])) → P (.int a) → Ed K (DKW D L) (tOp (rIx K) (tVar 2) (tC (.int 0))) ρ P := fun h p => ed_ix (ed_var h (ed_int ⟨_, _, rfl, rfl, (fun s hs => by cases hs), p⟩))
    have i1 : ∀ {ρ : List En} {P : PyData → Prop}, ρ[2]? = some (.val (.list [.int a, .int b, .int c])) → P (.int b) → Ed K (DKW D L) (tOp (rIx K) (tVar 2) (tC (.int 1))) ρ P := fun h p => ed_ix (ed_var h (ed_int ⟨_, _, rfl, rfl, (fun s hs => by cases hs), p⟩))
    have i2 : ∀ {ρ : List En} {P : PyData → Prop}, ρ[2]? = some (.val (.list [.int a, .int b, .int c])) → P (.int c) → Ed K (DKW D L) (tOp (rIx K) (tVar 2) (tC (.int 2))) ρ P := fun h p => ed_ix (ed_var h (ed_int ⟨_, _, rfl, rfl, (fun s hs => by cases hs), p⟩))
    refine sd_seq (sd_if (et_tTest (ed_lt (ed_var rfl (ed_int ⟨_, _, rfl, rfl, _, rfl, ?_⟩)))))
    refine ifc (fun _ => ?_) fun _ => sd_next ?_
    · refine sd_ret (ed_tup (ea_cons (ed_str (ea_cons (i0 rfl (ea_cons (i1 rfl ?_)))))))
      refine ea_cons (ed_dk rfl (ea_nil (ex_content fun d d1 d2 d3 => ?_)))
      refine ea_cons (ed_dk rfl (ea_nil (ex_content fun e e1 e2 e3 => ea_nil ⟨by simp, ?_⟩)))
      exact row_page ha hb ⟨d1, d2, d3⟩ ⟨e1, e2, e3⟩
    refine sd_seq (sd_if (et_tTest (ed_lt (ed_var rfl (ed_int ⟨_, _, rfl, rfl, _, rfl, ?_⟩)))))
    refine ifc (fun _ => ?_) fun _ => sd_next ?_
    · refine sd_ret (ed_tup (ea_cons (ed_str (ea_cons (i0 rfl (ea_cons (i1 rfl ?_)))))))
      refine ea_cons (ed_dk rfl (ea_nil (ex_operation fun xs x1 x2 x3 x4 => ea_nil ⟨by simp, ?_⟩)))
      exact row_op ha hb x1 x2 x3 x4
    refine sd_seq (sd_if (et_tTest (ed_eq (ed_var rfl (ed_int ⟨rfl, _, rfl, ?_⟩)))))
    refine ifc (fun _ => ?_) fun _ => sd_next ?_
    · refine sd_ret (ed_tup (ea_cons (ed_str (ea_cons (i0 rfl (ea_cons (i1 rfl ?_)))))))
      refine ea_cons (ed_dk rfl (ea_nil (ex_content fun d d1 d2 d3 => ea_nil ⟨by simp, ?_⟩)))
      exact row_unpage ha hb ⟨d1, d2, d3⟩
    refine sd_seq (sd_if (et_tTest (ed_eq (ed_var rfl (ed_int ⟨rfl, _, rfl, ?_⟩)))))
    refine ifc (fun _ => ?_) fun _ => sd_next ?_
    · refine sd_ret (ed_tup (ea_cons (ed_str (ea_cons (i0 rfl (ea_cons (i1 rfl (ea_cons (i2 rfl (ea_nil ⟨by simp, ?_⟩))))))))))
      exact row_comp ha hb hc
    refine sd_ret (ed_if (et_tTest (ed_eq (ed_var rfl (ed_int ⟨rfl, _, rfl, ?_⟩)))))
    refine ifc (fun _ => ?_) fun _ => ?_
    · exact ed_tup (ea_cons (ed_str (ea_cons (i0 rfl (ea_nil ⟨by simp, row_start ha⟩)))))
    · refine ed_tup (ea_cons (ed_str (ea_cons (i0 rfl (ea_cons (ed_dk rfl ?_))))))
      refine ea_cons (ed_lst (ea_cons (ed_str (ea_cons (ed_str (ea_nil ⟨by simp, ?_⟩))))))
      refine ea_nil (ex_pick (by simp) (by simp) ?_)
      exact mem_cons (ea_nil ⟨by simp, row_end ha (.inl rfl)⟩) (mem_cons (ea_nil ⟨by simp, row_end ha (.inr rfl)⟩) mem_nil)⟩
end K61
end

section
set_option Elab.async false
set_option linter.all false
set_option maxRecDepth 100000
set_option maxHeartbeats 4000000
namespace K61
open PySem PySem.Spec PyProof.Rows L2 TL
open Evl (Ex)
section
variable {K : PySem.W.Frag} {W : Wd} {ρ : List En} {P : PyData → Prop}
/-! ### odd things -/
theorem ed_dnew (p : P (.dict [])) : Ed K W tDNewK ρ P := fun W' l σ H Q iv e q => fun a ha => by
  refine q (.dict []) _ _ (Xt.new iv ha) (.dct [] ?_) p
  rw [hide_out (W'.out iv ha), upd_same]; rfl
theorem cp39 : CPow 10 39 := ⟨by decide, by decide, by decide⟩
theorem ed_disp1 {k : Str} {i : Int} (p : P (.dict [(.str k, .int i)])) : Ed K W (tDisp (litT [(k, .int i)])) ρ P := fun W' l σ H Q iv e q => fun a ha => by
  refine lit_run σ _ [(k, .int i)] _ ⟨upd_same, [(Sum.inr k, .int i)], rfl, by simp, ?_⟩
  rw [upd_upd]
  refine q (.dict [(.str k, .int i)]) _ _ (Xt.new iv ha) (.dct [(k, i)] ?_) p
  rw [hide_out (W'.out iv ha), upd_same]; rfl
theorem se_law_odd : SemDk K pre_law_odd R_law_odd (t_law_odd K) 1 2 := fun ds e => ⟨by rw [e] <;> rfl, fun D L => by
  cases e
  show Sd K (DKW D L) (t_law_odd K) [.raw (.ref D), .any] _ _
  unfold t_law_odd
  refine sd_seq (sd_asg (ed_lst ?_))
  repeat' first
    | with_reducible refine ea_nil (And.intro (by simp) ?_)
    | with_reducible refine ea_cons ?_
    | with_reducible refine ed_non ?_
    | with_reducible refine ed_bl ?_
    | with_reducible refine ed_str ?_
    | with_reducible refine ed_neg (ed_int ⟨_, rfl, ?_⟩)
    | with_reducible refine ed_int ?_
    | with_reducible refine ed_dnew ?_
    | with_reducible refine ed_tup ?_
    | with_reducible refine ed_lst ?_
    | with_reducible refine ed_pow (ed_int (ed_int ⟨_, _, rfl, rfl, cp39, ?_⟩))
  refine sd_seq (sd_asg (ed_cat (ed_var rfl ⟨_, rfl, ed_lst ?_⟩)))
  repeat' first
    | with_reducible refine ea_nil (And.intro (by simp) ?_)
    | with_reducible refine ea_cons ?_
    | with_reducible refine ed_non ?_
    | with_reducible refine ed_str ?_
    | with_reducible refine ed_int ?_
    | with_reducible refine ed_disp1 ?_
    | with_reducible refine ed_tup ?_
  refine ⟨_, rfl, by simp, ?_⟩
  refine sd_ret (ed_dk rfl (ea_cons (ed_cat (ed_var rfl ⟨_, rfl, ed_lst ?_⟩))))
  repeat' first
    | with_reducible refine ea_nil (And.intro (by simp) ?_)
    | with_reducible refine ea_cons ?_
    | with_reducible refine ed_non ?_
    | with_reducible refine ed_str ?_
    | with_reducible refine ed_int ?_
    | with_reducible refine ed_tup ?_
    | with_reducible refine ed_mulS (ed_str (ed_int ⟨_, _, rfl, rfl, ⟨by decide, by decide, by decide⟩, ?_⟩))
  exact ⟨_, rfl, by simp, ea_nil (ex_pick (by simp) (by simp) fun d hd => hd)⟩⟩
/-! ### a text changed -/
theorem join_len1 : ∀ {l : List Str}, l ≠ [] → (Str.join " " l).length + 1 = (l.map (·.length)).sum + l.length
  | [], h => absurd rfl h
  | [x], _ => by simp [Str.join]
  | x :: y :: r, _ => by
    have h := join_len1 (l := y :: r) (by simp)
    have e : Str.join " " (x :: y :: r) = x ++ " " ++ Str.join " " (y :: r) := rfl
    rw [e, cat_len, cat_len, List.map_cons, List.sum_cons, List.length_cons, lit_len.2.2.2.2]
    omega
def chs (s : Str) : Prop := s.cps.all (· < 0x110000) = true
theorem chs_iff {s : Str} : chs s ↔ ∀ c ∈ tl s, c < 0x110000 := by
  unfold chs tl
  rw [← Array.all_toList, List.all_eq_true]
  simp
theorem chs_app {a b : Str} (ha : chs a) (hb : chs b) : chs (a ++ b) := by
  rw [chs_iff] at *
  rw [tl_append]
  intro c hc
  rcases List.mem_append.mp hc with h | h
  · exact ha c h
  · exact hb c h
theorem chs_join : ∀ {l : List Str}, (∀ p ∈ l, chs p) → chs (Str.join " " l)
  | [], _ => by unfold chs; decide +kernel
  | [x], h => h x List.mem_cons_self
  | x :: y :: r, h => by
    have e : Str.join " " (x :: y :: r) = x ++ " " ++ Str.join " " (y :: r) := rfl
    rw [e]
    exact chs_app (chs_app (h x List.mem_cons_self) (by unfold chs; decide +kernel)) (chs_join fun p hp => h p (List.mem_cons_of_mem _ hp))
theorem chs_tl {a : List Nat} (h : ∀ c ∈ a, c < 0x110000) : chs ⟨a.toArray⟩ := chs_iff.mpr h
theorem split_chs {s : Str} (h : chs s) (hl : s.length ≤ 560) : (∀ p ∈ Txt.split s " ", chs p) ∧ Txt.split s " " ≠ [] ∧ (Txt.split s " ").length ≤ 561 := by
  have := split_ok sepS (x := s) ⟨hl, h⟩
  exact ⟨fun p hp => (this.1 p hp).2, this.2.2, this.2.1⟩
/-- the length of the split text -/
theorem split_len {s : Str} (h : Txt.split s " " ≠ []) : s.length + 1 = ((Txt.split s " ").map (·.length)).sum + (Txt.split s " ").length := by
  have := join_len1 h
  rw [PySem.StrLaws.join_split] at this
  exact this
theorem sum_take (l : List Nat) (n : Nat) : (l.take n).sum + (l.drop n).sum = l.sum := by
  rw [← List.sum_append, List.take_append_drop]
theorem cut_len (s : Str) (a : Nat) : (cutS s none (some (a : Int))).length = min a s.length ∧ (cutS s (some (a : Int)) none).length = s.length - a := by
  rw [cutS_cut, cutS_cut, cut_to, cut_from, len_tl, len_tl, len_tl]
  refine ⟨?_, ?_⟩
  · show (List.take a (tl s)).toArray.toList.length = _
    simp
  · show (List.drop a (tl s)).toArray.toList.length = _
    simp
theorem cut_chs {s : Str} (h : chs s) (a : Nat) : chs (cutS s none (some (a : Int))) ∧ chs (cutS s (some (a : Int)) none) := by
  rw [cutS_cut, cutS_cut, cut_to, cut_from]
  exact ⟨chs_tl fun c hc => chs_iff.mp h c (List.mem_of_mem_take hc), chs_tl fun c hc => chs_iff.mp h c (List.mem_of_mem_drop hc)⟩
theorem join_leW (l : List Str) : (Str.join " " l).length ≤ (l.map (·.length)).sum + l.length - 1 := by
  by_cases h : l = []
  · rw [h]; exact Nat.zero_le _
  · have := join_len1 h
    omega
/-- some words of the text, and one more -/
theorem words_fin {s : Str} (hs : chs s) (hl : s.length ≤ 277) {ys : List Str} (hy : ∀ p ∈ ys, chs p) (w0 : Nat) (h : (ys.map (·.length)).sum + ys.length ≤ s.length + 1 + 1 + w0) (hw0 : ∀ w, (∀ p ∈ Txt.split s " ", p.length ≤ w) → w0 ≤ max w 40) : R_law_changed [.str s] (.str (Str.join " " ys)) :=
  ⟨s, _, rfl, rfl, chs_join hy, fun w hw => by
    have h1 := join_leW ys
    have h2 := hw0 w hw
    omega⟩
theorem text_fin {s t : Str} (ht : chs t) (h : t.length ≤ s.length + 1) : R_law_changed [.str s] (.str t) := ⟨s, t, rfl, rfl, ht, fun w _ => by omega⟩
theorem el_slT {D L : Addr} {i : Nat} {ws : List Str} {ρ : List En} {th : TE} {P : PyData → Prop} {n : Nat} (h0 : ρ[i]? = some (.val (.list (ws.map .str)))) (hn : ∀ {Q : PyData → Prop}, Q (.int (n : Int)) → Ed K (DKW D L) th ρ Q) (p : P (.list ((ws.take n).map .str))) : Ed K (DKW D L) (tSl (rSlL K) (tVar i) tNoPart (tPart th)) ρ P :=
  ed_slL (ed_var h0 ⟨_, rfl, eo_none (eo_some (hn ⟨_, rfl, by rw [cut_to, ← List.map_take]; exact p⟩))⟩)
theorem el_slF {D L : Addr} {i : Nat} {ws : List Str} {ρ : List En} {th : TE} {P : PyData → Prop} {n : Nat} (h0 : ρ[i]? = some (.val (.list (ws.map .str)))) (hn : ∀ {Q : PyData → Prop}, Q (.int (n : Int)) → Ed K (DKW D L) th ρ Q) (p : P (.list ((ws.drop n).map .str))) : Ed K (DKW D L) (tSl (rSlL K) (tVar i) (tPart th) tNoPart) ρ P :=
  ed_slL (ed_var h0 ⟨_, rfl, eo_some (hn ⟨_, rfl, eo_none (by rw [cut_from, ← List.map_drop]; exact p)⟩)⟩)
theorem es_slT {D L : Addr} {i : Nat} {s : Str} {ρ : List En} {th : TE} {P : PyData → Prop} {n : Nat} (h0 : ρ[i]? = some (.val (.str s))) (hl : s.length ≤ 277) (hn : ∀ {Q : PyData → Prop}, Q (.int (n : Int)) → Ed K (DKW D L) th ρ Q) (p : P (.str (cutS s none (some (n : Int))))) : Ed K (DKW D L) (tSl rSlS (tVar i) tNoPart (tPart th)) ρ P :=
  ed_slS (ed_var h0 ⟨_, rfl, by omega, eo_none (eo_some (hn ⟨_, rfl, p⟩))⟩)
theorem es_slF {D L : Addr} {i : Nat} {s : Str} {ρ : List En} {th : TE} {P : PyData → Prop} {n : Nat} (h0 : ρ[i]? = some (.val (.str s))) (hl : s.length ≤ 277) (hn : ∀ {Q : PyData → Prop}, Q (.int (n : Int)) → Ed K (DKW D L) th ρ Q) (p : P (.str (cutS s (some (n : Int)) none))) : Ed K (DKW D L) (tSl rSlS (tVar i) (tPart th) tNoPart) ρ P :=
  ed_slS (ed_var h0 ⟨_, rfl, by omega, eo_some (hn ⟨_, rfl, eo_none p⟩)⟩)
theorem len_line {n : Nat} (h : n ≤ 100000) : n ≤ sizeLine := Evl.sz_of h
def MARKS : List Str := [" ", "-", "/", ",", "=", "0", "1", "a", "z", "A", "+", ".", "_", "9", "\n", "|"]
theorem marks_ok : ∀ m ∈ MARKS, m.length = 1 ∧ m.cps.all (· < 0x110000) = true := by decide +kernel
theorem se_law_changed : SemDk K pre_law_changed R_law_changed (t_law_changed K) 2 7 := fun ds ⟨s, e, hl, hc⟩ => ⟨by rw [e] <;> rfl, fun D L => by
  subst e
  show Sd K (DKW D L) (t_law_changed K) [.raw (.ref D), .val (.str s), .any, .any, .any, .any, .any] _ _
  unfold t_law_changed
  refine sd_seq (sd_par (ed_dk rfl (ea_cons (ed_int (ea_nil (ex_draw (by decide) (by decide) fun way _ _ => ?_))))))
  refine ed_dk rfl (ea_cons (ed_add (ed_len (ed_var rfl ⟨s.length, rfl, len_line (by omega), ed_int ⟨_, _, rfl, rfl, ea_nil (ex_draw (by omega) (by omega) fun a' a0 a1 => ?_)⟩⟩))))
  obtain ⟨a, rfl⟩ := Int.eq_ofNat_of_zero_le a0
  have ha : a ≤ s.length := by omega
  refine sd_seq (sd_asg (ed_lst ?_))
  repeat (refine ea_cons (ed_str ?_))
  refine ea_nil ⟨by simp, ?_⟩
  have va : ∀ {ρ : List En} {Q : PyData → Prop}, ρ[3]? = some (.val (.int (a : Int))) → Q (.int (a : Int)) → Ed K (DKW D L) (tVar 3) ρ Q := fun h q => ed_var h q
  have va1 : ∀ {ρ : List En} {Q : PyData → Prop}, ρ[3]? = some (.val (.int (a : Int))) → Q (.int ((a + 1 : Nat) : Int)) → Ed K (DKW D L) (tOp qAdd (tVar 3) (tC (.int 1))) ρ Q := fun h q => ed_add (ed_var h (ed_int ⟨_, _, rfl, rfl, q⟩))
  have c0 := cut_len s a
  have c1 := cut_len s (a + 1)
  have d0 := cut_chs hc a
  have d1 := cut_chs hc (a + 1)
  have big : (100000 : Nat) ≤ sizeLine := len_line (by decide)
  refine sd_seq (sd_if (et_tTest (ed_eq (ed_var rfl (ed_int ⟨rfl, _, rfl, ?_⟩)))))
  refine ifc (fun _ => ?_) fun _ => sd_next ?_
  · refine sd_ret (ed_addS (ed_addS (es_slT rfl hl (va rfl) (ed_dk rfl (ea_cons (ed_var rfl (ea_nil (ex_pick (by simp) (by simp) ?_))))))))
    refine mem_strs (l := MARKS) fun m hm => ?_
    have hm' := marks_ok m hm
    refine ⟨_, _, rfl, rfl, by omega, es_slF rfl hl (va rfl) ⟨_, _, rfl, rfl, by rw [cat_len]; omega, text_fin (chs_app (chs_app d0.1 hm'.2) d0.2) ?_⟩⟩
    rw [cat_len, cat_len]; omega
  refine sd_seq (sd_if (et_tTest (ed_eq (ed_var rfl (ed_int ⟨rfl, _, rfl, ?_⟩)))))
  refine ifc (fun _ => ?_) fun _ => sd_next ?_
  · refine sd_ret (ed_addS (es_slT rfl hl (va rfl) (es_slF rfl hl (va1 rfl) ⟨_, _, rfl, rfl, by omega, text_fin (chs_app d0.1 d1.2) ?_⟩)))
    rw [cat_len]; omega
  refine sd_seq (sd_if (et_tTest (ed_eq (ed_var rfl (ed_int ⟨rfl, _, rfl, ?_⟩)))))
  refine ifc (fun _ => ?_) fun _ => sd_next ?_
  · refine sd_ret (ed_addS (ed_addS (es_slT rfl hl (va rfl) (ed_dk rfl (ea_cons (ed_var rfl (ea_nil (ex_pick (by simp) (by simp) ?_))))))))
    refine mem_strs (l := MARKS) fun m hm => ?_
    have hm' := marks_ok m hm
    refine ⟨_, _, rfl, rfl, by omega, es_slF rfl hl (va1 rfl) ⟨_, _, rfl, rfl, by rw [cat_len]; omega, text_fin (chs_app (chs_app d0.1 hm'.2) d1.2) ?_⟩⟩
    rw [cat_len, cat_len]; omega
  have hsp := split_chs hc (by omega)
  have hsl := split_len hsp.2.1
  refine sd_seq (sd_asg (ed_split (ed_var rfl ⟨_, rfl, ed_str ⟨_, rfl, rfl, by omega, ?_⟩⟩)))
  generalize hws : Txt.split s " " = ws at hsp hsl
  have hk : 0 < ws.length := List.length_pos_iff.mpr hsp.2.1
  refine sd_seq (sd_asg (ed_dk rfl (ea_cons (ed_len (ed_var rfl ⟨ws.length, by show some (List.length _) = _; rw [List.length_map], len_line (by omega), ea_nil (ex_draw (by omega) (by omega) fun t' t0 t1 => ?_)⟩)))))
  obtain ⟨t, rfl⟩ := Int.eq_ofNat_of_zero_le t0
  have ht : t < ws.length := by omega
  have vt : ∀ {ρ : List En} {Q : PyData → Prop}, ρ[6]? = some (.val (.int (t : Int))) → Q (.int (t : Int)) → Ed K (DKW D L) (tVar 6) ρ Q := fun h q => ed_var h q
  have vt1 : ∀ {ρ : List En} {Q : PyData → Prop}, ρ[6]? = some (.val (.int (t : Int))) → Q (.int ((t + 1 : Nat) : Int)) → Ed K (DKW D L) (tOp qAdd (tVar 6) (tC (.int 1))) ρ Q := fun h q => ed_add (ed_var h (ed_int ⟨_, _, rfl, rfl, q⟩))
  have st := sum_take (ws.map (·.length)) t
  have st1 := sum_take (ws.map (·.length)) (t + 1)
  have sg : ((ws.map (·.length)).take (t + 1)).sum = ((ws.map (·.length)).take t).sum + ws[t].length := by
    rw [List.take_succ]
    simp [ht]
  rw [← List.map_take, ← List.map_drop] at st st1
  rw [← List.map_take, ← List.map_take] at sg
  have ct : ∀ n, ∀ p ∈ ws.take n, chs p := fun n p hp => hsp.1 p (List.mem_of_mem_take hp)
  have cd : ∀ n, ∀ p ∈ ws.drop n, chs p := fun n p hp => hsp.1 p (List.mem_of_mem_drop hp)
  have lt : (ws.take t).length = t := by rw [List.length_take]; omega
  have lt1 : (ws.take (t + 1)).length = t + 1 := by rw [List.length_take]; omega
  have ld : (ws.drop t).length = ws.length - t := List.length_drop
  have ld1 : (ws.drop (t + 1)).length = ws.length - (t + 1) := List.length_drop
  have s1 : (" " : Str).length = 1 := lit_len.2.2.2.2
  refine sd_seq (sd_if (et_tTest (ed_eq (ed_var rfl (ed_int ⟨rfl, _, rfl, ?_⟩)))))
  refine ifc (fun _ => ?_) fun _ => sd_next ?_
  · refine sd_ret (ed_join (ed_str ⟨_, rfl, ed_cat (el_slT rfl (vt rfl) ⟨_, rfl, el_slF rfl (vt1 rfl) ⟨_, rfl, ?_, ws.take t ++ ws.drop (t + 1), by rw [List.map_append], ?_, words_fin hc hl (fun p hp => (List.mem_append.mp hp).elim (ct t p) (cd (t + 1) p)) 0 ?_ fun _ _ => Nat.zero_le _⟩⟩)⟩))
    · rw [List.length_map, List.length_map]; omega
    · rw [List.map_append, List.sum_append, List.length_append, s1]; omega
    · rw [List.map_append, List.sum_append, List.length_append]; omega
  refine sd_seq (sd_if (et_tTest (ed_eq (ed_var rfl (ed_int ⟨rfl, _, rfl, ?_⟩)))))
  refine ifc (fun _ => ?_) fun _ => sd_next ?_
  · refine sd_ret (ed_join (ed_str ⟨_, rfl, ed_cat (el_slT rfl (vt1 rfl) ⟨_, rfl, el_slF rfl (vt rfl) ⟨_, rfl, ?_, ws.take (t + 1) ++ ws.drop t, by rw [List.map_append], ?_, words_fin hc hl (fun p hp => (List.mem_append.mp hp).elim (ct (t + 1) p) (cd t p)) ws[t].length ?_ fun w hw => ?_⟩⟩)⟩))
    · rw [List.length_map, List.length_map]; omega
    · rw [List.map_append, List.sum_append, List.length_append, s1]; omega
    · rw [List.map_append, List.sum_append, List.length_append]; omega
    · rw [hws] at hw
      have := hw ws[t] (List.getElem_mem ht)
      omega
  refine sd_seq (sd_asg (ed_lst ?_))
  repeat (refine ea_cons (ed_str ?_))
  refine ea_nil ⟨by simp, ?_⟩
  obtain ⟨w1, wr, rfl⟩ : ∃ w1 wr, ws = w1 :: wr := by
    cases ws with
    | nil => exact absurd rfl hsp.2.1
    | cons w1 wr => exact ⟨w1, wr, rfl⟩
  refine sd_seq (sd_asg (ed_cat (ed_var rfl ⟨_, rfl, ed_lst ?_⟩)))
  repeat (refine ea_cons (ed_str ?_))
  refine ea_cons (ed_mulS (ed_str (ed_int ⟨_, _, rfl, rfl, ⟨by decide, by decide, by decide⟩, ?_⟩)))
  repeat (refine ea_cons (ed_str ?_))
  refine ea_cons (ed_ix (ed_var rfl (ed_int ⟨0, .str w1, rfl, by simp [atD, atI, ixN], (fun s hs => by cases hs), ?_⟩)))
  repeat (refine ea_cons (ed_str ?_))
  refine ea_nil ⟨by simp, _, rfl, by simp, ?_⟩
  have vb : ∀ {ρ : List En} {Q : PyData → Prop}, ρ[6]? = some (.val (.int (t : Int))) → ρ[2]? = some (.val (.int way)) → (∀ b : Nat, b ≤ 1 → Q (.int ((t + b : Nat) : Int))) → Ed K (DKW D L) (tOp qAdd (tVar 6) (tCB qIntI (tCons (tOp rEq (tVar 2) (tC (.int 5))) tNil))) ρ Q := fun h h2 q => by
    refine ed_add (ed_var h (ed_intB (ed_eq (ed_var h2 (ed_int ⟨rfl, _, rfl, _, _, rfl, rfl, ?_⟩)))))
    cases (PyData.eqv (.int way) (.int 5)) with
    | true => exact q 1 (by decide)
    | false => exact q 0 (by decide)
  refine sd_ret (ed_join (ed_str ⟨_, rfl, ed_cat (ed_cat (el_slT rfl (vt rfl) ⟨_, rfl, ed_lst (ea_cons (ed_dk rfl (ea_cons (ed_var rfl (ea_nil (ex_pick (by simp) (by simp) ?_))))))⟩))⟩))
  intro d hd
  have hd' : ∃ p, d = .str p ∧ chs p ∧ (p.length ≤ 40 ∨ p = w1) := by
    revert d
    have fx : ∀ p : Str, (decide (p.length ≤ 40) && p.cps.all (· < 0x110000)) = true → ∃ q, PyData.str p = .str q ∧ chs q ∧ (q.length ≤ 40 ∨ q = w1) := fun p hp => by
      obtain ⟨h1, h2⟩ := Bool.and_eq_true_iff.mp hp
      exact ⟨p, rfl, h2, .inl (of_decide_eq_true h1)⟩
    repeat first
      | refine mem_cons ⟨w1, rfl, hsp.1 w1 List.mem_cons_self, .inr rfl⟩ ?_
      | refine mem_cons (fx _ (by decide +kernel)) ?_
    exact mem_nil
  obtain ⟨p, rfl, hp, hpl⟩ := hd'
  refine ea_nil ⟨by simp, _, rfl, by rw [List.length_map]; simp; omega, ?_⟩
  have e0 : ((w1 :: wr).take t).map PyData.str ++ [.str p] = (((w1 :: wr).take t) ++ [p]).map PyData.str := by rw [List.map_append]; rfl
  rw [e0]
  refine ⟨_, rfl, ?_⟩
  refine ed_slL (ed_var rfl ⟨_, rfl, eo_some (vb rfl rfl fun b hb => ⟨_, rfl, eo_none ?_⟩)⟩)
  rw [cut_from, ← List.map_drop]
  have stb := sum_take ((w1 :: wr).map (·.length)) (t + b)
  have mono : (((w1 :: wr).take t).map (·.length)).sum ≤ (((w1 :: wr).take (t + b)).map (·.length)).sum := by
    rcases Nat.le_one_iff_eq_zero_or_eq_one.mp hb with z | z
    · rw [z]; exact Nat.le_refl _
    · rw [z, sg]; exact Nat.le_add_right _ _
  rw [← List.map_take, ← List.map_drop] at stb
  have pl : p.length ≤ 400 := by
    rcases hpl with z | z
    · omega
    · rw [z]
      rw [List.map_cons, List.sum_cons] at hsl
      omega
  have ldb : ((w1 :: wr).drop (t + b)).length = (w1 :: wr).length - (t + b) := List.length_drop
  refine ⟨_, rfl, by rw [List.length_map, List.length_map, List.length_append, List.length_singleton]; omega, (w1 :: wr).take t ++ [p] ++ (w1 :: wr).drop (t + b), by simp only [List.map_append], ?_, words_fin hc hl (fun q hq => ?_) p.length ?_ fun w hw => ?_⟩
  · rw [List.map_append, List.map_append, List.sum_append, List.sum_append, List.length_append, List.length_append, List.length_singleton, s1]
    have : (List.map (fun x : Str => x.length) [p]).sum = p.length := by simp
    omega
  · rcases List.mem_append.mp hq with h | h
    · rcases List.mem_append.mp h with h | h
      · exact ct t q h
      · rw [List.mem_singleton.mp h]; exact hp
    · exact cd (t + b) q h
  · rw [List.map_append, List.map_append, List.sum_append, List.sum_append, List.length_append, List.length_append, List.length_singleton]
    have : (List.map (fun x : Str => x.length) [p]).sum = p.length := by simp
    omega
  · rw [hws] at hw
    have := hw w1 List.mem_cons_self
    rcases hpl with z | z
    · omega
    · rw [z]; omega⟩
end
end K61
end

section
set_option Elab.async false
set_option linter.all false
set_option maxRecDepth 100000
set_option maxHeartbeats 4000000
/-! repr of tuples of data -/
namespace L2
open PySem PySem.Spec PyProof.Rows
def encK : Key → PyData
  | .inl i => .int i
  | .inr x => .str x
theorem pairs_read {h : Heap} : ∀ (l : List (Str × Int)) {vs : List (Key × Value)}, KV (l.map fun p => ((Sum.inr p.1 : Key), V.int p.2)) vs → PyProof.V.PairsRead h encK vs (l.map fun p => (.str p.1, .int p.2)) []
  | [], _, .nil => .nil
  | (x, i) :: l, _, .cons h0 r => by
    rename_i b vs
    obtain ⟨k, v⟩ := b
    obtain ⟨e1, e2⟩ := h0
    have e1' : (Sum.inr x : Key) = k := e1
    subst e1'
    obtain ⟨t, e3⟩ := e2
    have e3' : v = .int i t := e3
    subst e3'
    exact PyProof.V.PairsRead.cons (k := (Sum.inr x : Key)) (as := []) (Reads.int i t) (pairs_read l r)
theorem dq_dct {K : PySem.W.Frag} {H : Hp} {v : V} {D : List (PyData × PyData)} (h : Dq K H v (.dict D)) : ∃ (b : Addr) (l : List (Str × Int)), v = .ref b ∧ D = l.map (fun p => (.str p.1, .int p.2)) ∧ H b = some (.dK (l.map fun p => (Sum.inr p.1, V.int p.2))) := by
  generalize e : PyData.dict D = d at h
  cases h with
  | dct l hl =>
    cases e
    exact ⟨_, l, rfl, rfl, hl⟩
  | _ => cases e
def okRepr (d : PyData) : Prop := d.showable = true ∧ d.shown.length ≤ sizeLine ∧ d.depth ≤ 100 ∧ (d.canLay0 = true ∨ ∃ (x : Str) (l : List (Str × Int)), d = .tuple [.str x, .dict (l.map fun p => (.str p.1, .int p.2))])
def qRepr (K : PySem.W.Frag) : List V → Hp → VK → Prop := fun xs H Q => ∃ a ds, xs = [.ref a] ∧ Dq K H (.ref a) (.tuple ds) ∧ okRepr (.tuple ds) ∧ Q (.str (PyData.shown (.tuple ds))) H
theorem cr_repr {X : Cx} (hg : X.A.guards = some []) (hu : X.A.units + 200 < cLine) : CallR X (.builtin "repr") (qRepr X.K) := by
  intro pins s σ H xs us Q I r h
  obtain ⟨a, ds, rfl, hd, ⟨h1, h2, h3, h4⟩, q⟩ := h
  obtain ⟨u, rfl, rfl⟩ := vals1 r
  have fin : ∀ as, Reads s.heap (.ref a) (.tuple ds) as → ((PyData.tuple ds).hasDict = true → sysModules ∉ as) → wpAny (model X.prog X.w) X.A (call (.builtin "repr") [.ref a]) (EP X pins σ Q) X.xe s := fun as hr hs =>
    repr_of_reads' hr h1 hs hg (by omega) (fun _ _ e => e) (fun h' u tk hk => ⟨.str _, H, I.kept hk, ⟨_, rfl⟩, q⟩) h2
  rcases h4 with h4 | ⟨x, l, e⟩
  · obtain ⟨as, hr⟩ := Dp.reads I (.tuple ds) (.ref a) (.ref a) (Dq.dp hd h4) rfl
    exact fin as hr (PyData.noDict_hsm (PyData.hasDict_of_canLay _ h4))
  · cases e
    cases hd with
    | tup hs ha =>
      obtain ⟨its, rv, ⟨o, ho, hc, n, hdat⟩, _⟩ := I.tuple hs
      cases ha with
      | cons d1 hr1 =>
        cases hr1 with
        | cons d2 hr2 =>
          cases hr2
          cases d1
          obtain ⟨b, l', rfl, el, hl'⟩ := dq_dct d2
          cases rv with
          | cons r1 rr =>
            cases rr with
            | cons r2 rn =>
              cases rn
              obtain ⟨t, rfl⟩ := r1
              cases r2
              obtain ⟨_, hsys, vs, kv, dd⟩ := dk_of I.hok hl'
              have rd : Reads s.heap (.ref b) (.dict (l.map fun p => (.str p.1, .int p.2))) [b] := by
                rw [el]
                exact PyProof.V.reads_dictOf (enc := encK) (fun k key hk => by
                  rcases keyIs_shape hk with ⟨i, t, rfl, rfl⟩ | ⟨x, t, rfl, rfl⟩
                  · exact Reads.int i t
                  · exact Reads.str x t) dd (pairs_read l' kv)
              refine fin _ (Reads.tuple ho hc hdat (ReadsAll.cons (Reads.str x t) (ReadsAll.cons rd ReadsAll.nil))) fun _ hm => ?_
              simp at hm
              rw [hm] at hsys
              simp at hsys
end L2
end

section
set_option Elab.async false
set_option linter.all false
set_option maxRecDepth 100000
set_option maxHeartbeats 4000000
/-! a call of nothing but keywords; the law's own def, run at the claim's caller -/
namespace L2
open PySem PySem.Spec PyProof.Rows
section
variable {X : Cx} {CX : CXT} {k : Nat} {f : Addr} {fd : FuncData} {ps ks : List Str} {sp : Sp} {E : XK} {x : Str} {p pos : Pos} {kws : List Keyword} {tk : TA} {g : List Value → List Value → List Value} {gV : List V → List V → List V}
def tCallK0 (sp : Sp) (gV : List V → List V → List V) (E : XK) (tk : TA) : TE := fun σ H Q => tk σ H fun zs H2 => sp (gV [] zs) H2 Q E
theorem pe_callK0 (F : FnOk X.prog X.w X.K X.mg X.base CX k f fd ps sp) (hr : Room k X.A) (hg : Gl X x) (hm : X.mg x = some (.ref f)) (hk : PySem.W.keepIn X.K (.ref f) = true) (hb : KBinds X.K fd ps ks g gV) (hx : Passes CX X E)
    (hkw : PK X kws tk) (hall : (backToKw pos (keywordEach kws X.env)).all (·.1.isSome) = true := by rfl) (hks : (backToKw pos (keywordEach kws X.env)).filterMap (·.1) = ks := by rfl)
    (hdb : (x == ("__debug__" : Str)) = false := by decide)
    (hpl : ((backTo pos (starEach [] X.env)).any (·.1) || (backToKw pos (keywordEach kws X.env)).any (·.1.isNone)) = false := by rfl) :
    PE X (.Call (.Name x p) [] kws pos) (tCallK0 sp gV E tk) := by
  refine ⟨fun pins s σ H Q I h => ?_⟩
  refine wpAny_Call_Name_kw (ld_glob I hg hm ?_ hdb)
  refine PySem.W.callWith_KW0 (h₀ := X.base) I.ok.mod.kin hk hall (thn (hkw.run pos pins s σ H _ I h) fun ws s2 ⟨zs, H2, I2, rz, q2⟩ => ⟨I2.kIn, ?_⟩) hpl
  rw [hks]
  exact run_fnk F hr hb hx I2 .nil rz q2
end
def gK {α : Type} : List α → List α → List α
  | [], ws => ws
  | _ :: _, _ => []
theorem kb1 {K : PySem.W.Frag} {x qual : Str} {params : Arguments} {body : List Stmt} {scope : Scope} {f : Addr} {fd : FuncData} {p : Str} (F : FunD K x qual params body scope [] [] f fd)
    (h : ∀ (kV doc pm : Value) (an : Option Addr) (cdv ct u : Value), bindArgs (PySem.W.fnOf x qual params body scope .none kV doc pm an cdv ct) ⟨[], [(p, u)]⟩ = pure [(p, u)]) : KBinds K fd [p] [p] gK gK := by
  refine ⟨fun s us ws _ hl => ?_, fun {vs us zs ws} r rz => ?_⟩
  · match us, ws, hl with
    | [], [w], _ =>
      obtain ⟨oc, od, dV, kV, doc, pm, an, cdv, ct, osl, rfl, lk, hcd, hD, hK⟩ := F.ex
      rcases hD with ⟨_, rfl⟩ | ⟨e, _⟩
      · exact .of_eq (h kV doc pm an cdv ct w)
      · exact absurd rfl e
  · cases r with
    | nil => exact rz
    | cons _ _ => exact .nil
/-- the law's own def, run at the claim's caller: its body's reading t -/
theorem run_at {P : Program} {w : World} {K : PySem.W.Frag} {mg : Str → Option Value} {base : Heap} {k : Nat} {f : Addr} {fd : FuncData} {name qual : Str} {params : Arguments} {body : List Stmt} {scope : Scope} {N ps : List Str}
    (F : FunD K name qual params body scope [] [] f fd) (S : FnScope N ps scope) (hr : Room (k + 1) callerA) {s : Shared} {H : Hp} {args : Args} {us : List Value} {vs : List V} {Q : VK} {E : XK} (hl : vs.length = ps.length)
    (e0 : Env0 P w K mg base callerA [] s H) (hb : BindsTo s fd args (ps.zip us)) (r : Vals vs us)
    (hbody : ∀ cdv : Value, Room k (callerA.deeper (envOfC qual scope s.heap.objs.size f cdv)) → ∃ t, PSs (cxOf CX0 P w K mg base N qual scope f cdv callerA [] s H E) body t ∧ t { nx := fun _ H' => Q .non H', rt := Q } (start N vs) H) :
    codeAny (model P w) callerA (.call (.ref f) args) (CR CX0 [] P w H s Q E) s := by
  obtain ⟨oc, od, dV, kV, doc, pm, an, cdv, ct, osl, rfl, lk, hcd, _, _⟩ := F.ex
  have KX : K.In s.heap := e0.mod.kin.keeps fun b o e => (e0.bs b o e).1
  have lim : s.heap.NoLimit := e0.mod.nolimit.keeps fun b o e => (e0.bs b o e).1
  refine codeAny_call_function hr.depth (KX _ _ lk) rfl S.co S.gen rfl (PySem.W.codeRec_of KX hcd) (hb _ _ _ _ ?_)
  refine wpAny_newFunctionEnv_cells S.kind (fun y hy => ?_) fun env he s1 x => ?_
  · rcases S.par y.1 (List.of_mem_zip (a := y.1) (b := y.2) hy).1 with q | q
    · exact .inl q
    · exact .inr ⟨q, PySem.W.cellsFrom_some _ _ _ (.inl q)⟩
  subst he
  refine ⟨lim.keeps x.toInCall.keep, codeAny_func ?_⟩
  obtain ⟨t, ht, hq⟩ := hbody cdv (hr.deeper _)
  refine wpAny_mono (ht.run [] s1 (start N vs) H _ (inv_start S hr.hd e0 hl r x) hq) (fun fl s' hs => ?_) fun e s' hs => hs
  match fl, hs with
  | .ret u, ⟨v, σ', H', J, rv, q⟩ => exact ⟨v, H', J.os, J.bare, J.base, J.hok, rv, q⟩
  | .next, ⟨σ', H', J, q⟩ => exact ⟨.non, H', J.os, J.bare, J.base, J.hok, rfl, q⟩
  | .brk, ⟨_, _, _, q⟩ => exact False.elim q
  | .cont, ⟨_, _, _, q⟩ => exact False.elim q
end L2
end

section
set_option Elab.async false
set_option linter.all false
set_option maxRecDepth 100000
set_option maxHeartbeats 4000000
/-! the end of the row, by a run of the law's def at the claim's caller (turned from the hand layer's own end, which asks for a promise at every caller) -/
namespace L2
open PySem PySem.Spec PyProof.Rows
theorem end_at {P : Program} {w : World} {K : PySem.W.Frag} {mg mb : Str → Option Value} {fa a : Addr} {s₁ : Shared} {vs : List Value} {ns : List Int}
    (KX : K.In s₁.heap) (hns : s₁.heap.Ns mainGlobals mg) (hb : s₁.heap.Ns builtinsNs mb) (hbb : ∀ x : Str, x ≠ "__name__" → mb x = bootBuiltins x) (hlim : s₁.heap.NoLimit) (hg : s₁.gens = #[])
    (ha : s₁.heap.get? a = some { cls := .type "list", data := .seq vs.toArray }) (hi : IntsAre vs ns) (hl : ns.length ≤ sizeLine)
    (F : ∀ (base : Heap) (H : Hp), K.In base → base.Ns mainGlobals mg → Env0 P w K mg base callerA [] s₁ H → SqL K H a (ns.map V.int) →
      codeAny (model P w) callerA (.call (.ref fa) ⟨[.ref a], []⟩) (CR CX0 [] P w H s₁ (fun v _ => v = .bl true) fun _ _ _ => False) s₁) :
    codeAny (model P w) callerA (.call (.ref fa) ⟨[.ref a], []⟩) (fun r s' => r = .ok (.ret (.bool true)) ∧ OldK s₁.heap s'.heap ∧ s'.os = s₁.os ∧ AllBare s'.gens) s₁ := by
  have rv := vals_ints hi
  have lenV := hi.length
  suffices core : ∀ H : Hp, Only H → SqL K H a (ns.map V.int) → HOk P w H s₁.heap → (∀ b, H b ≠ none → b = a) → (H a ≠ none → K.lookup a = none) → _ by
    cases hk : K.lookup a with
    | some o =>
      have e := KX a o hk
      rw [ha] at e
      cases e
      exact core (fun _ => none) (fun _ => .inl rfl) (.inr ⟨_, vs.toArray, _, hk, rfl, rfl, rfl, by rw [List.size_toArray, lenV]; exact hl, by simpa using rv⟩) (fun b u z => nomatch z) (fun b z => absurd rfl z) fun z => absurd rfl z
    | none =>
      refine core (fun b => if b = a then some (.frz { cls := .type "list", data := .seq vs.toArray } (.lst (ns.map V.int))) else none) (fun b => ?_) (.inl (.inr ⟨{ cls := .type "list", data := .seq vs.toArray }, if_pos rfl⟩)) (fun b u z => ?_) (fun b z => ?_) fun _ => hk
      · by_cases q : b = a
        · exact .inr ⟨_, _, if_pos q⟩
        · exact .inl (if_neg q)
      · by_cases q : b = a
        · cases (if_pos q).symm.trans z
          subst q
          exact ⟨ha, by rw [List.length_map]; exact hl, vs, _, rv, ha⟩
        · cases (if_neg q).symm.trans z
      · by_cases q : b = a
        · exact q
        · exact absurd (if_neg q) z
  intro H hO hS hok hA hK
  have only : ∀ {b : Addr}, H b ≠ none → b = a := fun {b} z => hA b z
  have base_of : ∀ {b : Addr} {o : Obj}, s₁.heap.get? b = some o → H b = none → (hidT s₁.heap H).get? b = some o := fun e n => hidT_get e n
  have nsK : ∀ {b : Addr} {m : Str → Option Value}, s₁.heap.Ns b m → (hidT s₁.heap H).Ns b m := fun {b m} ⟨o, es, ep, e, d, r⟩ => ⟨o, es, ep, base_of e (Classical.byContradiction fun q => by
    cases only q
    rw [ha] at e
    cases e
    have d' : Data.seq vs.toArray _ = Data.dict es ep := d
    cases d'), d, r⟩
  have hKb : K.In (hidT s₁.heap H) := fun b o e => base_of (KX b o e) (Classical.byContradiction fun q => by
    cases only q
    rw [hK q] at e
    cases e)
  have hM : Mod K mg (hidT s₁.heap H) := ⟨hKb, nsK hns, ⟨mb, nsK hb, hbb⟩, let ⟨mc, h1, h2⟩ := hlim; ⟨mc, nsK h1, h2⟩⟩
  have e0 : Env0 P w K mg (hidT s₁.heap H) callerA [] s₁ H := ⟨rfl, hM, fun b o e => of_hidT e, Nat.le_of_eq (hidT_size _ _), trivial, fun b hb => absurd hb List.not_mem_nil, hok, .of_eq hg⟩
  refine codeAny_mono (F _ H hKb (nsK hns) e0 hS) fun r s' h => ?_
  match r, h with
  | .ok (.ret u), ⟨v, H', os, bare, un, hok', r', q⟩ =>
    cases show v = .bl true from q
    obtain rfl : u = Value.bool true := r'
    refine ⟨rfl, OldK.of_keep fun b o e => ?_, os, bare⟩
    rcases hO b with z | ⟨ob, xs, z⟩
    · exact un.keep b o e z List.not_mem_nil List.not_mem_nil
    · have e1 := (hok b _ z).1
      have e2 := (hok' b _ (un.frzs b ob _ z)).1
      rw [e] at e1
      cases e1
      exact e2
/-- a law row, from a run of its def at the claim's caller -/
theorem walk_at {l : PySem.W.OpenLaw} {n : Nat} {q : Program} {loose : List Str} {XP : (Str → Option Value) → Heap → Prop} {YP : World → Heap → Prop} {d : DefRec}
    (hn : l.most = some n) (hn2 : n ≤ sizeLine) (hdf : d.params.defaults = [])
    (F : ∀ (w : World) (mg : Str → Option Value) (fa : Addr) (h : Heap), YP w h → h.Ns mainGlobals mg → mg d.name = some (.ref fa) →
      ∃ K : PySem.W.Frag, K.In h ∧ ∀ (base : Heap) (H : Hp) (s : Shared) (a : Addr) (ns : List Int), ns.length ≤ n → K.In base → base.Ns mainGlobals mg → Env0 l.prog w K mg base callerA [] s H → SqL K H a (ns.map V.int) →
        codeAny (model l.prog w) callerA (.call (.ref fa) ⟨[.ref a], []⟩) (CR CX0 [] l.prog w H s (fun v _ => v = .bl true) fun _ _ _ => False) s) :
    PySem.W.WalkO q loose XP YP l.row.toRowW d [] (fun f vs => PySem.call f vs) := by
  refine Att.attach_call hn hdf fun w s₀ s₁ mg mb fa o pm cd doc a vs ns G Y ho hd hcd hmg hobj hints hlen hg => ?_
  obtain ⟨K, KX, hF⟩ := F w mg fa _ Y G.T.g hmg
  exact end_at KX G.T.g G.T.b G.T.builtins G.T.nolimit hg hobj hints (Nat.le_trans hlen hn2) fun base H h1 h2 h3 h4 => hF base H _ a ns hlen h1 h2 h3 h4
end L2
end

section
set_option Elab.async false
set_option linter.all false
set_option maxRecDepth 100000
set_option maxHeartbeats 4000000
/-! the deck is dealt -/
namespace K61
open PySem PySem.Spec PyProof.Rows L2
open Evl (Ex)
section
variable {K : PySem.W.Frag} {ρ : List En} {ta tb : TE}
theorem er_add (ha : Er K ta ρ) (hb : Er K tb ρ) : Er K (tOp qAdd ta tb) ρ := fun h σ e => by
  obtain ⟨a, pa⟩ := ha h σ e
  obtain ⟨b, pb⟩ := hb h σ e
  exact ⟨_, fun H Q q => pa _ _ (pb _ _ ⟨_, _, rfl, rfl, q⟩)⟩
theorem er_mulC {c : Int} (ha : Er K ta ρ) (hc : -(2 ^ 64) < c ∧ c < 2 ^ 64) : Er K (tOp qMul ta (tC (.int c))) ρ := fun h σ e => by
  obtain ⟨a, pa⟩ := ha h σ e
  exact ⟨_, fun H Q q => pa _ _ ⟨_, _, rfl, rfl, Or.inr hc, q⟩⟩
theorem er_modC {c : Int} (ha : Er K ta ρ) (hc : 0 < c) : Er K (tOp qMod ta (tC (.int c))) ρ := fun h σ e => by
  obtain ⟨a, pa⟩ := ha h σ e
  exact ⟨_, fun H Q q => pa _ _ ⟨_, _, rfl, rfl, hc, q⟩⟩
theorem er_intI (ha : Er K ta ρ) : Er K (tCB qIntI (tCons ta tNil)) ρ := fun h σ e => by
  obtain ⟨a, pa⟩ := ha h σ e
  exact ⟨_, fun H Q q => pa _ _ (Or.inl ⟨_, rfl, q⟩)⟩
end
def qListOf (K : PySem.W.Frag) : List V → Hp → VK → Prop := fun xs H Q => ∃ p ys, xs = [.ref p] ∧ (SqL K H p ys ∨ SqT K H p ys) ∧ ∀ l, H l = none → Q (.ref l) (upd H l (.lst ys))
theorem cq_listOf {X : Cx} : CallR X (.type "list") (qListOf X.K) := call_list_of
def tCut (K : PySem.W.Frag) : TE := tSl (rSlL K) (tVar 0) tNoPart (tPart (tC (.int 63)))
def tMix : TE := tOp qMod (tCB qIntI (tCons (tOp qAdd (tOp qAdd (tOp qMul (tVar 1) (tC (.int 40692))) (tOp qMod (tCB qIntI (tCons (tVar 2) tNil)) (tC (.int 2147483587)))) (tC (.int 53))) tNil)) (tC (.int 2147483647))
def t_law_dealt (K : PySem.W.Frag) : TS := tSeq (tAsg (tC (.int 14405061)) (gName 1)) (tSeq (tFor (iList K (tCut K)) (gName 2) (tAsg tMix (gName 1)))
  (tRet (tDisp [(tC (.str "left"), tRevL K (tCB (qListOf K) (tCons (tCut K) tNil))), (tC (.str "mixed"), tVar 1), (tC (.str "draws"), tC (.int 0))])))
theorem sc_law_dealt : FnScope ["_law_script", "_law_mixed", "_law_cell"] ["_law_script"] (defScope s_law_dealt) := ⟨rfl, rfl, rfl, by decide +kernel, rfl, by decide +kernel, by decide +kernel⟩
def spDealt (K : PySem.W.Frag) : Sp := fun vs H Q _ => ∃ (a : Addr) (cells : List Int), vs = [.ref a] ∧ SqL K H a (cells.map V.int) ∧ ∀ D L H', DKI D L H' → Q (.ref D) H'
theorem cut63 {K : PySem.W.Frag} {a : Addr} {cells : List Int} {σ : L2.St} {H : Hp} {Q : VK} (h0 : σ[0]? = some (some (.ref a))) (hs : SqL K H a (cells.map V.int)) (q : ∀ p, H p = none → Q (.ref p) (upd H p (.lst ((cells.take 63).map V.int)))) : tCut K σ H Q := by
  refine ⟨_, h0, ?_⟩
  refine ⟨63, rfl, a, _, rfl, hs, fun p hp => ?_⟩
  have e : cutV (cells.map V.int) none (some 63) = (cells.take 63).map V.int := by
    have := cut_to (cells.map V.int) 63
    rw [List.map_take]
    exact this
  rw [e]
  exact q p hp
theorem pure_dealt {K : PySem.W.Frag} (vs : List V) (H : Hp) (Q : VK) (E : XK) (h : spDealt K vs H Q E) : t_law_dealt K { nx := fun _ H' => Q .non H', rt := Q } (L2.start ["_law_script", "_law_mixed", "_law_cell"] vs) H := by
  obtain ⟨a, cells, rfl, hs, q⟩ := h
  refine cut63 rfl hs fun p hp => ⟨p, rfl, ⟨_, SqL.of upd_same⟩, ?_⟩
  have e1 : Ex H (upd H p (.lst ((cells.take 63).map V.int))) := Ex.new hp
  refine for_it walk_list (fun i σ' H' => H' = upd H p (.lst ((cells.take 63).map V.int)) ∧ ∃ m o, σ' = [some (.ref a), some (.int m), o]) ⟨rfl, _, _, rfl⟩ (fun i σ' H' _ pv => by rw [pv.1]; exact SqL.of upd_same) ?_ ?_
  · rintro i x σ' H2 H3 hi ⟨rfl, m, o, rfl⟩ ⟨rfl, hx⟩
    obtain ⟨c, rfl⟩ : ∃ c, x = .int c := by
      have hm := List.mem_of_getElem? hx
      obtain ⟨c, _, e⟩ := List.mem_map.mp hm
      exact ⟨c, e.symm⟩
    have er : Er K tMix [.any, .val (.int m), .val (.int c)] := er_modC (er_intI (er_add (er_add (er_mulC (er_var rfl) (by decide)) (er_modC (er_intI (er_var rfl)) (by decide))) er_int)) (by decide)
    obtain ⟨k, pk⟩ := er (fun _ => none) [some (.ref a), some (.int m), some (.int c)] (.cons True.intro (.cons ⟨_, rfl, .int _⟩ (.cons ⟨_, rfl, .int _⟩ .nil)))
    exact pk _ _ ⟨rfl, _, _, rfl⟩
  · rintro σ' H2 ⟨rfl, m, o, rfl⟩
    intro D hD
    have e2 := e1.trans (Ex.new (o := .dK []) hD)
    refine cut63 rfl (Evl.ex_l e2 hs) fun r hr => ⟨r, _, rfl, .inl (SqL.of upd_same), fun t ht => ⟨t, _, rfl, SqL.of upd_same, fun L hL => ?_⟩⟩
    refine ⟨_, rfl, ?_⟩
    have d0 : ∀ {H0 : Hp}, upd H0 D (.dK []) D = some (.dK []) := upd_same
    have n1 : D ≠ r := fun z => by rw [← z] at hr; rw [upd_same] at hr; cases hr
    have n2 : D ≠ t := fun z => by rw [← z] at ht; rw [upd_ne n1, upd_same] at ht; cases ht
    have n3 : D ≠ L := fun z => by rw [← z] at hL; rw [upd_ne n2, upd_ne n1, upd_same] at hL; cases hL
    refine ⟨by rw [upd_ne n3, upd_ne n2, upd_ne n1, upd_same], dkv L m 0, rfl, by simp [dkv], ?_⟩
    refine q D L _ ⟨m, 0, (cells.take 63).reverse, ?_, ?_, ?_⟩
    · rw [upd_same]; rfl
    · rw [upd_ne (fun z => n3 z.symm), upd_same, List.map_reverse]
    · rw [List.length_reverse, List.length_take]; omega
theorem ok_law_dealt {P : Program} {w : World} {K : PySem.W.Frag} {mg : Str → Option Value} {base : Heap} (T : Gs K mg) : OkF P w K mg base "_law_dealt" 1 ["_law_script"] (spDealt K) := by
  obtain ⟨fd, F⟩ := T.d_law_dealt
  have nd := sc_law_dealt.nd
  refine ⟨⟨fd, F.ok sc_law_dealt (fun vs H Q E ⟨a, c, e, _⟩ => by rw [e] <;> rfl) (fun cdv A outer s H vs Q E hr h => ⟨t_law_dealt K, PSs.nox ?_, pure_dealt vs H Q E h⟩), F.bindsN fun _ _ _ _ _ _ us hl => match us, hl with | [_], _ => rfl⟩, F.kp, T.g_law_dealt⟩
  exact pss_cons (ps_set (i := 1) nd rfl (Or.inl rfl) pe_int)
    (pss_cons (ps_for PassesOwn.never rfl (pi_list (pe_slice sl_list (pv 0) po_none (po_some pe_int))) (pg_name (i := 2) nd rfl (Or.inl rfl)) (pss_one (ps_set (i := 1) nd rfl (Or.inl rfl) (pe_op oq_mod (pe_callTy cq_intI rfl T.f_int boot_int (pa_cons (pe_op oq_add (pe_op oq_add (pe_op oq_mul (pv 1) pe_int) (pe_op oq_mod (pe_callTy cq_intI rfl T.f_int boot_int (pa_cons (pv 2) pa_nil)) pe_int)) pe_int) pa_nil)) pe_int))))
      (pss_one (ps_ret (pe_disp (pps_cons pe_str (pe_revL (pe_callTy cq_listOf rfl T.f_list PyProof.Rows.boot_list (pa_cons (pe_slice sl_list (pv 0) po_none (po_some pe_int)) pa_nil))) (pps_cons pe_str (pv 1) (pps_cons pe_str pe_int pps_nil))) rfl rfl (fun z => by cases z) (by decide)))))
end K61
end

section
set_option Elab.async false
set_option linter.all false
set_option maxRecDepth 100000
set_option maxHeartbeats 4000000
/-! the law's own def: its reading -/
namespace K61
open PySem PySem.Spec PyProof.Rows L2
/-! ### law: slots _law_script, _law_deck, _law_turn, _law_row_here, _law_text, _law_told, _law_go, _law_bent, _law_found, _law_thing -/
def t_law (K : PySem.W.Frag) : TS :=
  (tSeq (tAsg (tCall (spDealt K) [] E0 (tCons (tVar 0) tNil)) (gName 1)) (tSeq (tFor (iRng1 (tCons (tC (.int 10)) tNil)) (gName 2) (tSeq (tAsg (tCall (sp_law_row K) [] E0 (tCons (tVar 1) tNil)) (gName 3)) (tSeq (tAsg (tCall (sp_law_row_text K) [] E0 (tCons (tVar 3) tNil)) (gName 4)) (tSeq (tAsg (tIf (tTest (tOp rEq (tOp qMod (tCB qIntI (tCons (tVar 2) tNil)) (tC (.int 2))) (tC (.int 0)))) (tCall (sp_row_text K) [] E0 (tCons (tVar 3) tNil)) (tCallK0 (sp_row_text K) gK E0 (tCons (tVar 3) tNil))) (gName 5)) (tSeq (tIfS (tTest (tOp rNe (tCB (qRepr K) (tCons (tTup (tCons (tVar 5) (tCons (tCall (spRead K) [] E0 (tCons (tVar 4) tNil)) (tCons (tCall (sp_is_row_disks K) [] E0 (tCons (tVar 3) tNil)) tNil)))) tNil)) (tCB (qRepr K) (tCons (tTup (tCons (tVar 4) (tCons (tVar 3) (tCons (tC (.bl true)) tNil)))) tNil)))) (tRet (tC (.bl false))) tNext) (tFor (iRng1 (tCons (tC (.int 3)) tNil)) (gName 6) (tSeq (tAsg (tCall (sp_law_changed K) [] E0 (tCons (tVar 1) (tCons (tVar 4) tNil))) (gName 7)) (tSeq (tIfS (tTest (tOp rEq (tVar 6) (tC (.int 2)))) (tAsg (tCall (sp_law_changed K) [] E0 (tCons (tVar 1) (tCons (tVar 7) tNil))) (gName 7)) tNext) (tSeq (tAsg (tCall (sp_law_read_row K) [] E0 (tCons (tVar 7) tNil)) (gName 8)) (tIfS (tTest (tOp rNe (tCB (qRepr K) (tCons (tCall (spR K C_law_tried) [] E0 (tCons (tVar 7) tNil)) tNil)) (tCB (qRepr K) (tCons (tIf (tTest (tOp qIsN (tVar 8) (tC .non))) (tTup (tCons (tC (.str "BadText")) (tCons (tVar 7) tNil))) (tTup (tCons (tC (.str "returned")) (tCons (tVar 8) tNil)))) tNil)))) (tRet (tC (.bl false))) tNext)))))))))) (tSeq (tAsg (tCall (sp_law_pick K) [] E0 (tCons (tVar 1) (tCons (tLst (tCons (tC .non) (tCons (tC (.int 0)) (tCons (tTup (tCons (tC (.str "start")) (tCons (tC (.int 1)) tNil))) (tCons (tLst (tCons (tC (.str "start 1")) tNil)) (tCons (tC (.bl true)) (tCons tDNewK (tCons (tTup (tCons (tC (.str "start 1")) tNil)) (tCons (tC (.str "")) (tCons (tC (.str " ")) (tCons (tC (.str "start")) (tCons (tCall (sp_law_odd K) [] E0 (tCons (tVar 1) tNil)) tNil)))))))))))) tNil))) (gName 9)) (tSeq (tAsg (tIf (tB (tCB (rIsi K) (tCons (tVar 9) (tCons (tC (.ty "str")) tNil)))) (tCall (sp_law_read_row K) [] E0 (tCons (tVar 9) tNil)) (tC .non)) (gName 8)) (tSeq (tIfS (tTest (tOp rNe (tCB (qRepr K) (tCons (tCall (spR K C_law_tried) [] E0 (tCons (tVar 9) tNil)) tNil)) (tCB (qRepr K) (tCons (tIf (tTest (tOp qIsN (tVar 8) (tC .non))) (tTup (tCons (tC (.str "BadText")) (tCons (tVar 9) tNil))) (tTup (tCons (tC (.str "returned")) (tCons (tVar 8) tNil)))) tNil)))) (tRet (tC (.bl false))) tNext) (tRet (tOp rEq (tCB (qRepr K) (tCons (tCallK0 (spRead K) gK E0 (tCons (tC (.str "end 3 kept")) tNil)) tNil)) (tCB (qRepr K) (tCons (tTup (tCons (tC (.str "end")) (tCons (tC (.int 3)) (tCons (tC (.str "kept")) tNil)))) tNil)))))))))
theorem sc_law : FnScope ["_law_script", "_law_deck", "_law_turn", "_law_row_here", "_law_text", "_law_told", "_law_go", "_law_bent", "_law_found", "_law_thing"] ["_law_script"] (defScope s_law) := ⟨rfl, rfl, rfl, by decide +kernel, rfl, by decide +kernel, by decide +kernel⟩

/-- what the law calls -/
structure All (P : Program) (w : World) (K : PySem.W.Frag) (mg : Str → Option Value) (base : Heap) : Prop where
  G_law_dealt : OkF P w K mg base "_law_dealt" 1 ["_law_script"] (spDealt K)
  G_is_row_disks : OkF P w K mg base "is_row_disks" 5 ["thing"] (sp_is_row_disks K)
  G_law_row : OkF P w K mg base "_law_row" 5 ["_law_deck"] (sp_law_row K)
  G_law_row_text : OkF P w K mg base "_law_row_text" 2 ["_law_row_here"] (sp_law_row_text K)
  G_row_text : OkF P w K mg base "row_text" 6 ["row"] (sp_row_text K)
  G_law_changed : OkF P w K mg base "_law_changed" 3 ["_law_deck", "_law_text"] (sp_law_changed K)
  G_law_read_row : OkF P w K mg base "_law_read_row" 5 ["_law_text"] (sp_law_read_row K)
  G_law_pick : OkF P w K mg base "_law_pick" 2 ["_law_deck", "_law_some"] (sp_law_pick K)
  G_law_odd : OkF P w K mg base "_law_odd" 3 ["_law_deck"] (sp_law_odd K)
  G_law_tried : OkF P w K mg base "_law_tried" 7 ["_law_text"] (spR K C_law_tried)
  GR : OkX P w K mg base "read_row" 6 ["text"] (spRead K)
  KT : ∃ fd, FnOk P w K mg base CX0 6 (He.ga K "row_text") fd ["row"] (sp_row_text K) ∧ KBinds K fd ["row"] ["row"] gK gK
  KR : ∃ fd, FnOk P w K mg base (L2.CX P w) 6 (He.ga K "read_row") fd ["text"] (spRead K) ∧ Binds K fd ["text"] [] ∧ KBinds K fd ["text"] ["text"] gK gK
theorem der_law {P : Program} {w : World} {K : PySem.W.Frag} {mg : Str → Option Value} {base : Heap} (T : Gs K mg) (B : All P w K mg base) (cdv : Value) (s : Shared) (H : Hp) (E : XK) (hr : Room 7 (callerA.deeper (envOfC "law" (defScope s_law) s.heap.objs.size (He.ga K "law") cdv))) :
    PSs (cxOf CX0 P w K mg base ["_law_script", "_law_deck", "_law_turn", "_law_row_here", "_law_text", "_law_told", "_law_go", "_law_bent", "_law_found", "_law_thing"] "law" (defScope s_law) (He.ga K "law") cdv callerA [] s H E).nox (defBody s_law) (t_law K) := by
  have nd := sc_law.nd
  obtain ⟨G_law_dealt, G_is_row_disks, G_law_row, G_law_row_text, G_row_text, G_law_changed, G_law_read_row, G_law_pick, G_law_odd, G_law_tried, GR, ⟨fdT, FT, kbT⟩, ⟨fdR, FR, bR, kbR⟩⟩ := B
  have GT := G_row_text
  have hu2 : (callerA.deeper (envOfC "law" (defScope s_law) s.heap.objs.size (He.ga K "law") cdv)).units + 200 < cLine := by have := hr.un; omega
  exact (pss_cons (ps_set (i := 1) nd rfl (Or.inl rfl) (pe_cf G_law_dealt (hr.mono (by decide)) rfl (pa_cons (pv 0) pa_nil)))
      (pss_cons (ps_for PassesOwn.never rfl (pi_range1 rfl T.f_range (pa_cons pe_int pa_nil)) (pg_name (i := 2) nd rfl (Or.inl rfl)) (pss_cons (ps_set (i := 3) nd rfl (Or.inl rfl) (pe_cf G_law_row (hr.mono (by decide)) rfl (pa_cons (pv 1) pa_nil)))
      (pss_cons (ps_set (i := 4) nd rfl (Or.inl rfl) (pe_cf G_law_row_text (hr.mono (by decide)) rfl (pa_cons (pv 3) pa_nil)))
      (pss_cons (ps_set (i := 5) nd rfl (Or.inl rfl) (pe_ifExp (pt_cmpR op_eq (pe_op oq_mod (pe_callTy cq_intI rfl T.f_int boot_int (pa_cons (pv 2) pa_nil)) pe_int) pe_int (nomark _)) (pe_cf G_row_text (hr.mono (by decide)) rfl (pa_cons (pv 3) pa_nil)) (pe_callK0 FT (hr.mono (by decide)) rfl GT.gl GT.kp kbT pass0 (pk_cons (pv 3) pk_nil))))
      (pss_cons (ps_if (pt_cmpR op_ne (pe_callB (cr_repr rfl hu2) rfl T.f_repr PyProof.Rows.boot_repr (pa_cons (pe_tup (pa_cons (pv 5) (pa_cons (pe_call FR (hr.mono (by decide)) rfl GR.gl GR.kp bR .nil passL (pa_cons (pv 4) pa_nil)) (pa_cons (pe_cf G_is_row_disks (hr.mono (by decide)) rfl (pa_cons (pv 3) pa_nil)) pa_nil)))) pa_nil)) (pe_callB (cr_repr rfl hu2) rfl T.f_repr PyProof.Rows.boot_repr (pa_cons (pe_tup (pa_cons (pv 4) (pa_cons (pv 3) (pa_cons pe_bl pa_nil)))) pa_nil)) (nomark _)) (pss_one (ps_ret pe_bl)) pss_nil)
      (pss_one (ps_for PassesOwn.never rfl (pi_range1 rfl T.f_range (pa_cons pe_int pa_nil)) (pg_name (i := 6) nd rfl (Or.inl rfl)) (pss_cons (ps_set (i := 7) nd rfl (Or.inl rfl) (pe_cf G_law_changed (hr.mono (by decide)) rfl (pa_cons (pv 1) (pa_cons (pv 4) pa_nil))))
      (pss_cons (ps_if (pt_cmpR op_eq (pv 6) pe_int (nomark _)) (pss_one (ps_set (i := 7) nd rfl (Or.inl rfl) (pe_cf G_law_changed (hr.mono (by decide)) rfl (pa_cons (pv 1) (pa_cons (pv 7) pa_nil))))) pss_nil)
      (pss_cons (ps_set (i := 8) nd rfl (Or.inl rfl) (pe_cf G_law_read_row (hr.mono (by decide)) rfl (pa_cons (pv 7) pa_nil)))
      (pss_one (ps_if (pt_cmpR op_ne (pe_callB (cr_repr rfl hu2) rfl T.f_repr PyProof.Rows.boot_repr (pa_cons (pe_cf G_law_tried (hr.mono (by decide)) rfl (pa_cons (pv 7) pa_nil)) pa_nil)) (pe_callB (cr_repr rfl hu2) rfl T.f_repr PyProof.Rows.boot_repr (pa_cons (pe_ifExp (pt_cmpR oq_isN (pv 8) pe_non (nomark _)) (pe_tup (pa_cons pe_str (pa_cons (pv 7) pa_nil))) (pe_tup (pa_cons pe_str (pa_cons (pv 8) pa_nil)))) pa_nil)) (nomark _)) (pss_one (ps_ret pe_bl)) pss_nil))))))))))))
      (pss_cons (ps_set (i := 9) nd rfl (Or.inl rfl) (pe_cf G_law_pick (hr.mono (by decide)) rfl (pa_cons (pv 1) (pa_cons (pe_lst (pa_cons pe_non (pa_cons pe_int (pa_cons (pe_tup (pa_cons pe_str (pa_cons pe_int pa_nil))) (pa_cons (pe_lst (pa_cons pe_str pa_nil)) (pa_cons pe_bl (pa_cons pe_dnewK (pa_cons (pe_tup (pa_cons pe_str pa_nil)) (pa_cons pe_str (pa_cons pe_str (pa_cons pe_str (pa_cons (pe_cf G_law_odd (hr.mono (by decide)) rfl (pa_cons (pv 1) pa_nil)) pa_nil)))))))))))) pa_nil))))
      (pss_cons (ps_set (i := 8) nd rfl (Or.inl rfl) (pe_ifExp (pt_val (pe_callB call_isi rfl T.f_isinstance boot_isinstance (pa_cons (pv 9) (pa_cons (pe_bltn rfl T.f_str boot_str rfl) pa_nil)))) (pe_cf G_law_read_row (hr.mono (by decide)) rfl (pa_cons (pv 9) pa_nil)) pe_non))
      (pss_cons (ps_if (pt_cmpR op_ne (pe_callB (cr_repr rfl hu2) rfl T.f_repr PyProof.Rows.boot_repr (pa_cons (pe_cf G_law_tried (hr.mono (by decide)) rfl (pa_cons (pv 9) pa_nil)) pa_nil)) (pe_callB (cr_repr rfl hu2) rfl T.f_repr PyProof.Rows.boot_repr (pa_cons (pe_ifExp (pt_cmpR oq_isN (pv 8) pe_non (nomark _)) (pe_tup (pa_cons pe_str (pa_cons (pv 9) pa_nil))) (pe_tup (pa_cons pe_str (pa_cons (pv 8) pa_nil)))) pa_nil)) (nomark _)) (pss_one (ps_ret pe_bl)) pss_nil)
      (pss_one (ps_ret (pe_cmpR op_eq (pe_callB (cr_repr rfl hu2) rfl T.f_repr PyProof.Rows.boot_repr (pa_cons (pe_callK0 FR (hr.mono (by decide)) rfl GR.gl GR.kp kbR passL (pk_cons pe_str pk_nil)) pa_nil)) (pe_callB (cr_repr rfl hu2) rfl T.f_repr PyProof.Rows.boot_repr (pa_cons (pe_tup (pa_cons pe_str (pa_cons pe_int (pa_cons pe_str pa_nil)))) pa_nil)) (nomark _)))))))))
end K61
end

section
set_option Elab.async false
set_option linter.all false
set_option maxRecDepth 100000
set_option maxHeartbeats 4000000
/-! the law's own def: what it answers -/
namespace K61
open PySem PySem.Spec PyProof.Rows L2 TL
/-! ### what may be shown -/
theorem okRepr_of {d : PyData} (h1 : d.showable = true) (h2 : d.leavesShort 700 = true) (h3 : d.bulk ≤ 10000) (h4 : d.depth ≤ 100) (h5 : d.canLay0 = true ∨ ∃ (x : Str) (l : List (Str × Int)), d = .tuple [.str x, .dict (l.map fun p => (.str p.1, .int p.2))]) : okRepr d := by
  refine ⟨h1, ?_, h4, h5⟩
  have := PyData.shown_le_bulk 700 (by decide) d h2
  rw [sizeLine_eq]
  omega
theorem chs_short {s : Str} (h : s.cps.all (· < 0x110000) = true) : PyData.leavesShort 700 (.str s) = true := by
  show (s.cps.toList.all fun c => decide (c < 16 ^ 8)) = true
  rw [← Array.all_toList] at h
  refine List.all_eq_true.mpr fun c hc => ?_
  have := List.all_eq_true.mp h c hc
  simp at this ⊢
  omega
theorem fine_show : ∀ (k : Nat) (d : PyData), fine k d = true → d.showable = true ∧ d.leavesShort 700 = true
  | _, .none, _ => ⟨rfl, rfl⟩
  | k, .int i, h => ⟨decide_eq_true (fine_int h), decide_eq_true (Nat.le_trans (num_len (fine_int h)) (by decide))⟩
  | k, .str s, h => ⟨rfl, chs_short (fine_str h).2⟩
  | k + 1, .tuple xs, h => by
    have hx := (fine_tup h).2
    have key : ∀ l : List PyData, (∀ x ∈ l, fine k x = true) → PyData.showableAll l = true ∧ PyData.leavesShortAll 700 l = true := by
      intro l
      induction l with
      | nil => exact fun _ => ⟨rfl, rfl⟩
      | cons x r ih =>
        intro hl
        obtain ⟨h1, h2⟩ := fine_show k x (hl x List.mem_cons_self)
        obtain ⟨h3, h4⟩ := ih fun y hy => hl y (List.mem_cons_of_mem _ hy)
        exact ⟨Bool.and_eq_true_iff.mpr ⟨h1, h3⟩, Bool.and_eq_true_iff.mpr ⟨h2, h4⟩⟩
    exact key xs hx
  | 0, .tuple xs, h => by cases h
  | 0, .bool _, h => by cases h
  | _ + 1, .bool _, h => by cases h
  | 0, .list _, h => by cases h
  | _ + 1, .list _, h => by cases h
  | 0, .dict _, h => by cases h
  | _ + 1, .dict _, h => by cases h
theorem bulk_cons (x : PyData) (l : List PyData) : PyData.bulkAll (x :: l) = x.bulk + 1 + PyData.bulkAll l := rfl
theorem bulk_le {B : Nat} : ∀ {l : List PyData}, (∀ x ∈ l, x.bulk ≤ B) → PyData.bulkAll l ≤ (B + 1) * l.length
  | [], _ => Nat.zero_le _
  | x :: r, h => by
    have h1 := h x List.mem_cons_self
    have h2 := bulk_le (l := r) fun y hy => h y (List.mem_cons_of_mem _ hy)
    rw [bulk_cons, List.length_cons, Nat.mul_succ]
    omega
theorem key_bulk {k : Str} (h : keyS k = true) : (PyData.str k).bulk ≤ 9 := by
  have h1 := (Bool.and_eq_true_iff.mp (Bool.and_eq_true_iff.mp h).1).2
  exact of_decide_eq_true h1
theorem cont_bulk {x : PyData} (h : contD x = true) : x.bulk ≤ 60 := by
  cases cont_cases h with
  | none => exact Nat.zero_le _
  | some low es f hl he hes hf =>
    have b1 : (PyData.str low).bulk ≤ 9 := by
      rcases hl with e | e
      · rw [e]; exact Nat.zero_le _
      · exact key_bulk e
    have b2 := bulk_le (B := 11) (l := es) fun x hx => by
      obtain ⟨k, w, e, hk⟩ := hes x hx
      rw [e]
      have := key_bulk hk
      show (PyData.str k).bulk + 1 + (0 + 1 + 0) ≤ 11
      omega
    have b3 : f.bulk = 0 := by
      rcases hf with e | ⟨i, e, _⟩ <;> rw [e] <;> rfl
    show (PyData.str low).bulk + 1 + (PyData.bulkAll es + 1 + (f.bulk + 1 + 0)) ≤ 60
    omega
theorem word_bulk (s : Str) : (PyData.str s).bulk = s.length := rfl
theorem many_len {h : Str} {n : Nat} (e : manyOf h = some n) : h.length ≤ 4 ∧ n ≤ 4 := by
  unfold manyOf at e
  by_cases h1 : h = "read"
  · rw [h1] at e ⊢; simp at e; exact ⟨by decide +kernel, by omega⟩
  rw [if_neg h1] at e
  by_cases h2 : h = "set"
  · rw [h2] at e ⊢; simp at e; exact ⟨by decide +kernel, by omega⟩
  rw [if_neg h2] at e
  by_cases h3 : h = "add"
  · rw [h3] at e ⊢; simp at e; exact ⟨by decide +kernel, by omega⟩
  rw [if_neg h3] at e
  cases e
theorem row_bulk {d : PyData} (hv : rowD d = true) : d.bulk ≤ 300 := by
  have l5 := word_len
  cases row_cases hv with
  | start a ha => show ("start" : Str).length + 1 + (0 + 1 + 0) ≤ 300; omega
  | page a b c d ha hb hc hd =>
    have := cont_bulk hc
    have := cont_bulk hd
    show ("page" : Str).length + 1 + (0 + 1 + (0 + 1 + (c.bulk + 1 + (d.bulk + 1 + 0)))) ≤ 300
    omega
  | un a b c ha hb hc =>
    have := cont_bulk hc
    show ("unpage" : Str).length + 1 + (0 + 1 + (0 + 1 + (c.bulk + 1 + 0))) ≤ 300
    omega
  | fin a w ha hw =>
    have : w.length ≤ 7 := by rcases hw with e | e <;> rw [e] <;> omega
    show ("end" : Str).length + 1 + (0 + 1 + (w.length + 1 + 0)) ≤ 300
    omega
  | op a b h k r ha hb hk hm hr =>
    have m := many_len hm
    have b1 := key_bulk hk
    have b2 := bulk_le (B := 0) (l := r) fun x hx => by
      obtain ⟨i, rfl⟩ := isI_int (List.all_eq_true.mp hr x hx)
      exact Nat.le_refl _
    show ("op" : Str).length + 1 + (0 + 1 + (0 + 1 + ((h.length + 1 + ((PyData.str k).bulk + 1 + PyData.bulkAll r)) + 1 + 0))) ≤ 300
    omega
  | comp a b c ha hb hc => show ("comp" : Str).length + 1 + (0 + 1 + (0 + 1 + (0 + 1 + 0))) ≤ 300; omega
/-! ### signs of a row's text -/
theorem cls_chs {S : List Nat} {s : Str} (h : Cls S s) (hS : ∀ c ∈ S, c < 0x110000) : chs s := chs_iff.mpr fun c hc => (h c hc).elim (fun z => by
  unfold plB at z
  simp at z
  omega) (hS c)
theorem cls0 {s : Str} (h : Cls [] s) : chs s := cls_chs h fun _ z => absurd z List.not_mem_nil
theorem row_chs {d : PyData} (hv : rowD d = true) : chs (rowT d) := by
  obtain ⟨c1, c2, c3, c4, c5, c6, c7, c8, c9, c10, c11, c12⟩ := lit_cls
  have cc : ∀ {x : PyData}, contD x = true → chs (contT x) := fun hx => cls_chs (cont_text hx).2.2 (by decide)
  have cn : ∀ i, chs (numS i) := fun i => cls0 (num_cls i)
  unfold rowT
  refine chs_join ?_
  cases row_cases hv with
  | start a ha => exact (show ∀ p ∈ [("start" : Str), numS a], chs p from mem_cons (cls0 c1) (mem_cons (cn a) mem_nil))
  | page a b c d ha hb hc hd => exact (show ∀ p ∈ [("page" : Str), numS a, numS b, contT c, contT d], chs p from mem_cons (cls0 c2) (mem_cons (cn a) (mem_cons (cn b) (mem_cons (cc hc) (mem_cons (cc hd) mem_nil)))))
  | un a b c ha hb hc => exact (show ∀ p ∈ [("unpage" : Str), numS a, numS b, contT c], chs p from mem_cons (cls0 c3) (mem_cons (cn a) (mem_cons (cn b) (mem_cons (cc hc) mem_nil))))
  | fin a w ha hw =>
    have : chs w := by rcases hw with e | e <;> rw [e] <;> (unfold chs; decide +kernel)
    exact (show ∀ p ∈ [("end" : Str), numS a, w], chs p from mem_cons (cls0 c4) (mem_cons (cn a) (mem_cons this mem_nil)))
  | op a b h k r ha hb hk hm hr =>
    refine (show ∀ p ∈ ("op" : Str) :: numS a :: numS b :: h :: k :: r.map txt, chs p from mem_cons (cls0 c5) (mem_cons (cn a) (mem_cons (cn b) (mem_cons (cls0 (many_cls hm)) (mem_cons (cls0 (key_cls hk)) fun p hp => ?_)))))
    obtain ⟨x, hx, rfl⟩ := List.mem_map.mp hp
    obtain ⟨i, rfl⟩ := isI_int (List.all_eq_true.mp hr x hx)
    exact cn i
  | comp a b c ha hb hc => exact (show ∀ p ∈ [("comp" : Str), numS a, numS b, numS c], chs p from mem_cons (cls0 c6) (mem_cons (cn a) (mem_cons (cn b) (mem_cons (cn c) mem_nil))))
end K61
end

section
set_option Elab.async false
set_option linter.all false
set_option maxRecDepth 100000
set_option maxHeartbeats 4000000
/-! the law's own def, by data -/
namespace K61
open PySem PySem.Spec PyProof.Rows L2 TL
open Evl (Ex)
/-! ### tuples that are shown -/
theorem shown_checked {t : Str} {d : PyData} (ht : chs t) (hl : t.length ≤ 560) (hf : fine 5 d = true) (hv : rowD d = true) : okRepr (.tuple [.str t, d, .bool true]) := by
  obtain ⟨a1, a2⟩ := fine_show 5 d hf
  obtain ⟨b1, b2⟩ := fine_lay 5 d hf
  have b3 := row_bulk hv
  have b4 : (PyData.str t).canLay0 = true := ht
  refine okRepr_of ?_ ?_ ?_ ?_ (.inl ?_)
  · show (true && (d.showable && (true && true))) = true
    rw [a1]; rfl
  · show (PyData.leavesShort 700 (.str t) && (d.leavesShort 700 && (true && true))) = true
    rw [chs_short ht, a2]; rfl
  · show t.length + 1 + (d.bulk + 1 + (0 + 1 + 0)) ≤ 10000
    omega
  · show max 0 (max d.depth (max 0 0)) + 1 ≤ 100
    omega
  · show ((PyData.str t).canLay0 && (d.canLay0 && (true && true))) = true
    rw [b4, b1]; rfl
theorem shown_returned {d : PyData} (hf : fine 5 d = true) (hv : rowD d = true) : okRepr (.tuple [.str "returned", d]) := by
  obtain ⟨a1, a2⟩ := fine_show 5 d hf
  obtain ⟨b1, b2⟩ := fine_lay 5 d hf
  have b3 := row_bulk hv
  have c1 : (PyData.str "returned").canLay0 = true := by decide +kernel
  have c2 : PyData.leavesShort 700 (.str "returned") = true := by decide +kernel
  have c3 : ("returned" : Str).length = 8 := by decide +kernel
  refine okRepr_of ?_ ?_ ?_ ?_ (.inl ?_)
  · show (true && (d.showable && true)) = true
    rw [a1]; rfl
  · show (PyData.leavesShort 700 (.str "returned") && (d.leavesShort 700 && true)) = true
    rw [c2, a2]; rfl
  · show ("returned" : Str).length + 1 + (d.bulk + 1 + 0) ≤ 10000
    omega
  · show max 0 (max d.depth 0) + 1 ≤ 100
    omega
  · show ((PyData.str "returned").canLay0 && (d.canLay0 && true)) = true
    rw [c1, b1]; rfl
/-- a thing that may stand in ("BadText", thing) -/
def okBad (d : PyData) : Prop := okRepr (.tuple [.str "BadText", d])
theorem bad_of {d : PyData} (h1 : d.showable = true) (h2 : d.leavesShort 700 = true) (h3 : d.bulk ≤ 1000) (h4 : d.depth ≤ 90) (h5 : d.canLay0 = true ∨ ∃ (l : List (Str × Int)), d = .dict (l.map fun p => (.str p.1, .int p.2))) : okBad d := by
  have c1 : (PyData.str "BadText").canLay0 = true := by decide +kernel
  have c2 : PyData.leavesShort 700 (.str "BadText") = true := by decide +kernel
  have c3 : ("BadText" : Str).length = 7 := by decide +kernel
  refine okRepr_of ?_ ?_ ?_ ?_ ?_
  · show (true && (d.showable && true)) = true
    rw [h1]; rfl
  · show (PyData.leavesShort 700 (.str "BadText") && (d.leavesShort 700 && true)) = true
    rw [c2, h2]; rfl
  · show ("BadText" : Str).length + 1 + (d.bulk + 1 + 0) ≤ 10000
    omega
  · show max 0 (max d.depth 0) + 1 ≤ 100
    omega
  · rcases h5 with h5 | ⟨l, e⟩
    · refine .inl ?_
      show ((PyData.str "BadText").canLay0 && (d.canLay0 && true)) = true
      rw [c1, h5]; rfl
    · exact .inr ⟨"BadText", l, by rw [e]⟩
theorem bad_str {s : Str} (h : okS s) : okBad (.str s) := bad_of rfl (chs_short h.2) (Nat.le_trans h.1 (by decide)) (by show 0 ≤ 90; omega) (.inl h.2)
/-- a thing that the law ends by -/
def okThing (d : PyData) : Prop := okBad d ∧ okTx d
def thingB (d : PyData) : Bool := d.showable && (d.leavesShort 700 && (decide (d.bulk ≤ 1000) && (decide (d.depth ≤ 90) && (d.canLay0 && (match d with | .str s => decide (s.length ≤ 560) && s.cps.all (· < 0x110000) | _ => true)))))
theorem thing_of {d : PyData} (h : thingB d = true) : okThing d := by
  obtain ⟨h1, h⟩ := Bool.and_eq_true_iff.mp h
  obtain ⟨h2, h⟩ := Bool.and_eq_true_iff.mp h
  obtain ⟨h3, h⟩ := Bool.and_eq_true_iff.mp h
  obtain ⟨h4, h⟩ := Bool.and_eq_true_iff.mp h
  obtain ⟨h5, h⟩ := Bool.and_eq_true_iff.mp h
  refine ⟨bad_of h1 h2 (of_decide_eq_true h3) (of_decide_eq_true h4) (.inl h5), fun s e => ?_⟩
  subst e
  obtain ⟨a, b⟩ := Bool.and_eq_true_iff.mp h
  exact ⟨of_decide_eq_true a, b⟩
theorem thing_dict (l : List (Str × Int)) (h : (PyData.dict (l.map fun p => (.str p.1, .int p.2))).showable = true) (h2 : (PyData.dict (l.map fun p => (.str p.1, .int p.2))).leavesShort 700 = true) (h3 : (PyData.dict (l.map fun p => (.str p.1, .int p.2))).bulk ≤ 1000) (h4 : (PyData.dict (l.map fun p => (.str p.1, .int p.2))).depth ≤ 90) :
    okThing (.dict (l.map fun p => (.str p.1, .int p.2))) := ⟨bad_of h h2 h3 h4 (.inr ⟨l, rfl⟩), fun s e => by cases e⟩
theorem mem_app {α : Type} {P : α → Prop} {a b : List α} (ha : ∀ d ∈ a, P d) (hb : ∀ d ∈ b, P d) : ∀ d ∈ a ++ b, P d := fun d hd => (List.mem_append.mp hd).elim (ha d) (hb d)
theorem odd_thing : ∀ d ∈ ODDS, okThing d := by
  have key : ∀ d ∈ ODDS, thingB d = true ∨ d = .dict [] ∨ d = .dict [(.str "a", .int 1)] := by
    refine mem_app (mem_app ?_ ?_) ?_
    all_goals
      repeat first
        | refine mem_cons (Or.inl (by decide +kernel)) ?_
        | refine mem_cons (Or.inr (Or.inl rfl)) ?_
        | refine mem_cons (Or.inr (Or.inr rfl)) ?_
      exact mem_nil
  intro d hd
  rcases key d hd with h | h | h
  · exact thing_of h
  · rw [h]; exact thing_dict [] rfl rfl (by decide +kernel) (by decide +kernel)
  · rw [h]; exact thing_dict [("a", 1)] (by decide +kernel) (by decide +kernel) (by decide +kernel) (by decide +kernel)
section
variable {K : PySem.W.Frag} {W : Wd} {ρ : List En} {ta : TE} {P : PyData → Prop} {D L : Addr}
theorem ed_repr (h : Ed K W ta ρ fun d => ∃ ds, d = .tuple ds ∧ okRepr d ∧ P (.str d.shown)) : Ed K W (tCB (qRepr K) (tCons ta tNil)) ρ P := fun W' l σ H Q iv e q =>
  h W' l σ H _ iv e fun d v H1 x1 r1 ⟨ds, hd, ok, p⟩ => by
    subst hd
    obtain ⟨a, xs, rfl, _, _⟩ := dq_tup r1
    exact ⟨a, ds, rfl, r1.mono (hide_ex W' H1), ok, q _ _ H1 x1 (.str _) p⟩
theorem ed_read (h : Ed K W ta ρ fun x => okTx x ∧ rd x ≠ .none ∧ P (rd x)) : Ed K W (tCall (spRead K) [] E0 (tCons ta tNil)) ρ P := fun W' l σ H Q iv e q =>
  h W' l σ H _ iv e fun x v H1 x1 r1 ⟨ok, hn, p⟩ => ⟨W', v, x, rfl, x1.inv, r1, ok, fun _ v' H' x' r' => q _ v' H' (x1.trans x') r' p, fun z => absurd z hn⟩
theorem ed_readK (h : Ed K W ta ρ fun x => okTx x ∧ rd x ≠ .none ∧ P (rd x)) : Ed K W (tCallK0 (spRead K) gK E0 (tCons ta tNil)) ρ P := fun W' l σ H Q iv e q =>
  h W' l σ H _ iv e fun x v H1 x1 r1 ⟨ok, hn, p⟩ => ⟨W', v, x, rfl, x1.inv, r1, ok, fun _ v' H' x' r' => q _ v' H' (x1.trans x') r' p, fun z => absurd z hn⟩
theorem ed_callK {C : List PyData → PyData → Prop} {E : XK} (h : Ed K W ta ρ fun x => ∃ d, C [x] d ∧ P d) : Ed K W (tCallK0 (spR K C) gK E (tCons ta tNil)) ρ P := fun W' l σ H Q iv e q =>
  h W' l σ H _ iv e fun x v H1 x1 r1 ⟨d, c, p⟩ => ⟨W', [x], d, x1.inv, .cons r1 .nil, c, fun v H' x' r => q d v H' (x1.trans x') r p⟩
theorem ed_dkI {pre : List PyData → Prop} {R : List PyData → PyData → Prop} {E : XK} {i : Nat} {t : TA} (h0 : ρ[i]? = some (.raw (.ref D))) (h : Ea K (DKW D L) t ρ fun ds => pre ds ∧ ∀ d, R ds d → P d) : Ed K (DKW D L) (tCall (spDk K pre R) [] E (tCons (tVar i) t)) ρ P := fun W' l σ H Q iv e q => by
  obtain ⟨o, h1, h2⟩ := e.get h0
  refine ⟨.ref D, by rw [h1, h2], ?_⟩
  exact h W' l σ H _ iv e fun ds vs H1 x1 r1 ⟨c, p⟩ => ⟨W', D, L, vs, ds, l, x1.inv, List.append_nil _, r1, c, fun d v H' x r z => q d v H' (x1.trans x) r (p d z)⟩
theorem ex_row {P : PyData → Prop} (h : ∀ xs, fine 5 (.tuple xs) = true → rowD (.tuple xs) = true → (rowT (.tuple xs)).length ≤ 193 → (∀ p ∈ rowW xs, p.length ≤ 83) → P (.tuple xs)) : pre_law_row [] ∧ ∀ d, R_law_row [] d → P d :=
  ⟨rfl, fun d ⟨xs, e, h1, h2, h3, h4⟩ => by subst e; exact h xs h1 h2 h3 h4⟩
theorem ex_odd {P : PyData → Prop} (h : ∀ d ∈ ODDS, P d) : pre_law_odd [] ∧ ∀ d, R_law_odd [] d → P d := ⟨rfl, fun d hd => h d hd⟩
theorem ex_changed {s : Str} {P : PyData → Prop} (hl : s.length ≤ 277) (hc : chs s) (h : ∀ t, chs t → (∀ w, (∀ p ∈ Txt.split s " ", p.length ≤ w) → t.length ≤ s.length + 1 + max w 40) → P (.str t)) : pre_law_changed [.str s] ∧ ∀ d, R_law_changed [.str s] d → P d :=
  ⟨⟨s, rfl, hl, hc⟩, fun d ⟨s', t, e, hd, h1, h2⟩ => by cases e; subst hd; exact h t h1 h2⟩
theorem ex_tried {x : PyData} {P : PyData → Prop} (h : okTx x) (p : P (told x)) : ∃ d, C_law_tried [x] d ∧ P d := ⟨_, ⟨x, rfl, h, rfl⟩, p⟩
theorem ex_row_text {x : PyData} {P : PyData → Prop} (f : fine 5 x = true) (hc : rowD x = true) (h : P (.str (rowT x))) : ∃ d, C_row_text [x] d ∧ P d := ⟨_, ⟨x, rfl, f, hc, rfl⟩, h⟩
theorem ex_is_row_disks {x : PyData} {P : PyData → Prop} (f : fine 5 x = true) (h : P (.bool (rowD x))) : ∃ d, C_is_row_disks [x] d ∧ P d := ⟨_, ⟨x, rfl, f, rfl⟩, h⟩
theorem eqv_same (s : Str) : PyData.eqv (.str s) (.str s) = true := by
  show (s == s) = true
  simp
/-- what tried gives of a thing, and what the law sets beside it -/
theorem told_beside (x f : PyData) (hf : f = rd x) : told x = if PyData.eqv f .none = true then .tuple [.str "BadText", x] else .tuple [.str "returned", f] := by
  subst hf
  unfold told
  by_cases h : rd x = .none
  · rw [h]; rfl
  · have e : ¬ PyData.eqv (rd x) .none = true := fun z => h ((eqv_non _).mp z)
    rw [if_neg e]
    split
    · rename_i z; exact absurd z h
    · rfl
/-- the check of one thing: tried against what the law found -/
theorem sd_beside {x f : PyData} {i j : Nat} {N : List En → Prop} {R : PyData → Prop} (hi : ρ[i]? = some (.val x)) (hj : ρ[j]? = some (.val f)) (hx : okTx x) (hf : f = rd x) (hr : okRepr (told x)) (n : N ρ) :
    Sd K W (tIfS (tTest (tOp rNe (tCB (qRepr K) (tCons (tCall (spR K C_law_tried) [] E0 (tCons (tVar i) tNil)) tNil)) (tCB (qRepr K) (tCons (tIf (tTest (tOp qIsN (tVar j) (tC .non))) (tTup (tCons (tC (.str "BadText")) (tCons (tVar i) tNil))) (tTup (tCons (tC (.str "returned")) (tCons (tVar j) tNil)))) tNil)))) (tRet (tC (.bl false))) tNext) ρ N R := by
  have ht := told_beside x f hf
  have htt : ∃ ds, told x = .tuple ds := by rw [ht]; split <;> exact ⟨_, rfl⟩
  refine sd_if (et_tTest (ed_ne (ed_repr (ed_call (ea_cons (ed_var hi (ea_nil (ex_tried hx ?_))))))))
  obtain ⟨ds, e⟩ := htt
  refine ⟨ds, e, hr, ?_⟩
  refine ed_repr (ed_if (et_tTest (ed_isN (ed_var hj ⟨_, rfl, ?_⟩))))
  by_cases hz : PyData.eqv f .none = true
  · rw [if_pos hz]
    rw [if_pos hz] at ht
    refine ed_tup (ea_cons (ed_str (ea_cons (ed_var hi (ea_nil ⟨by simp, _, rfl, by rw [← ht]; exact hr, ?_⟩)))))
    rw [← ht]
    exact ⟨rfl, _, rfl, iff' (by rw [eqv_same]; rfl) (sd_next n)⟩
  · rw [if_neg hz]
    rw [if_neg hz] at ht
    refine ed_tup (ea_cons (ed_str (ea_cons (ed_var hj (ea_nil ⟨by simp, _, rfl, by rw [← ht]; exact hr, ?_⟩)))))
    rw [← ht]
    exact ⟨rfl, _, rfl, iff' (by rw [eqv_same]; rfl) (sd_next n)⟩
end
end K61
end

section
set_option Elab.async false
set_option linter.all false
set_option maxRecDepth 100000
set_option maxHeartbeats 4000000
/-! the law's own def answers True -/
namespace K61
open PySem PySem.Spec PyProof.Rows L2 TL
variable {K : PySem.W.Frag} {D L : Addr}
theorem told_str {b : Str} (hb : okS b) : okRepr (told (.str b)) := by
  have h := told_beside (.str b) (rd (.str b)) rfl
  rw [h]
  by_cases hz : PyData.eqv (rd (.str b)) .none = true
  · rw [if_pos hz]; exact bad_str hb
  · rw [if_neg hz]
    have hn : read1 b ≠ .none := fun z => hz ((eqv_non _).mpr z)
    show okRepr (.tuple [.str "returned", read1 b])
    have hv : rowD (rowP b) = true ∧ rowT (rowP b) = b := by
      unfold read1 at hn
      exact Classical.byContradiction fun z => hn (if_neg z)
    have e : read1 b = rowP b := by unfold read1; exact if_pos hv
    rw [e]
    exact shown_returned (rowP_fine hb).1 hv.1
theorem told_thing {d : PyData} (h : okThing d) : okRepr (told d) := by
  cases d with
  | str s => exact told_str (h.2 s rfl)
  | _ => exact h.1
theorem end_text : rowT (.tuple [.str "end", .int 3, .str "kept"]) = "end 3 kept" := by decide +kernel
def shape (D : Addr) (ρ : List En) : Prop := ∃ a2 a3 a4 a5 a6 a7 a8 a9 : En, ρ = [.any, .raw (.ref D), a2, a3, a4, a5, a6, a7, a8, a9]
def shapeT (D : Addr) (t : Str) (ρ : List En) : Prop := ∃ a2 a3 a5 a6 a7 a8 a9 : En, ρ = [.any, .raw (.ref D), a2, a3, .val (.str t), a5, a6, a7, a8, a9]
theorem range_at {n i : Nat} {x : PyData} (h : (rangeD n)[i]? = some x) : ∃ k : Int, x = .int k := by
  obtain ⟨k, _, e⟩ := List.mem_map.mp (List.mem_of_getElem? h)
  exact ⟨_, e.symm⟩
theorem mem_le_sum : ∀ {l : List Nat} {x : Nat}, x ∈ l → x ≤ l.sum
  | y :: r, x, h => by
    rw [List.sum_cons]
    rcases List.mem_cons.mp h with e | h
    · rw [e]; exact Nat.le_add_right _ _
    · exact Nat.le_trans (mem_le_sum h) (Nat.le_add_left _ _)
theorem fire {W : Wd} {ts : TS} {ρ : List En} {N : List En → Prop} {R : PyData → Prop} {Dn : Ends} {σ : L2.St} {H : Hp} (iv : W.inv H) (e : EnvD K (hide W H) ρ σ) (k1 : ∀ ρ' σ' H', N ρ' → Dn.nx σ' H') (k2 : ∀ d v H', Dq K (hide W H') v d → R d → Dn.rt v H') (h : Sd K W ts ρ N R) : ts Dn σ H :=
  h W (Wd.le.refl W) σ H Dn iv e (fun ρ' σ' H' _ _ n => k1 ρ' σ' H' n) fun d v H' _ r p => k2 d v H' r p
theorem deal_then {rest : TS} {Dn : Ends} {σ : L2.St} {H : Hp} {a : Addr} {cells : List Int} (h0 : σ[0]? = some (some (.ref a))) (hs : SqL K H a (cells.map V.int)) (h : ∀ D L H', DKI D L H' → rest Dn (σ.set 1 (some (.ref D))) H') :
    tSeq (tAsg (tCall (spDealt K) [] E0 (tCons (tVar 0) tNil)) (gName 1)) rest Dn σ H := ⟨.ref a, h0, a, cells, rfl, hs, fun D L H' hD => h D L H' hD⟩
theorem pure_law {P : Program} {w : World} {a : Addr} {cells : List Int} {H : Hp} (hs : SqL K H a (cells.map V.int)) : t_law K { nx := fun _ H' => (fun v (_ : Hp) => v = V.bl true) .non H', rt := fun v _ => v = .bl true } (L2.start ["_law_script", "_law_deck", "_law_turn", "_law_row_here", "_law_text", "_law_told", "_law_go", "_law_bent", "_law_found", "_law_thing"] [.ref a]) H := by
  unfold t_law
  refine deal_then rfl hs fun D L H' hD => ?_
  refine fire (K := K) (W := DKW D L) (ρ := [.any, .raw (.ref D), .any, .any, .any, .any, .any, .any, .any, .any]) (N := fun _ => False) (R := fun d => d = .bool true) hD (.cons True.intro (.cons rfl (any_env 8))) (fun _ _ _ z => z.elim) (fun d v H'' r hd => by subst hd; cases r; rfl) ?_
  refine sd_seq (sd_for (gs := [2]) (ei_range (ed_int ⟨10, rfl, by decide, fun _ => shape D, ⟨_, _, _, _, _, _, _, _, rfl⟩, fun i x ρ' hx ⟨a2, a3, a4, a5, a6, a7, a8, a9, e⟩ => ?_, fun ρ' ⟨a2, a3, a4, a5, a6, a7, a8, a9, e⟩ => ?_⟩)))
  · subst e
    obtain ⟨k, rfl⟩ := range_at hx
    refine eg_name ?_
    refine sd_seq (sd_asg (ed_dkI rfl (ea_nil (ex_row fun xs f v l1 l2 => ?_))))
    have hc : chs (rowT (.tuple xs)) := row_chs v
    have hrd : rd (.str (rowT (.tuple xs))) = .tuple xs := read_back v
    have okt : okTx (.str (rowT (.tuple xs))) := fun s e => by cases e; exact ⟨by omega, hc⟩
    refine sd_seq (sd_asg (ed_call (ea_cons (ed_var rfl (ea_nil ⟨_, ⟨.tuple xs, rfl, f, v, rfl⟩, ?_⟩)))))
    refine sd_seq (sd_asg (Ed.mono (P := fun d => d = .str (rowT (.tuple xs))) (ed_if (et_tTest (ed_eq (ed_mod (ed_intI (ed_var rfl ⟨_, rfl, ed_int ⟨_, _, rfl, rfl, by decide, ed_int ⟨rfl, _, rfl, ?_⟩⟩⟩)))))) fun d hd => ?_))
    · exact ifc (fun _ => ed_call (ea_cons (ed_var rfl (ea_nil (ex_row_text f v rfl))))) fun _ => ed_callK (ed_var rfl (ex_row_text f v rfl))
    subst hd
    refine sd_seq (sd_if (et_tTest (ed_ne (ed_repr (ed_tup (ea_cons (ed_var rfl (ea_cons (ed_read (ed_var rfl ⟨okt, ?_⟩))))))))))
    rw [hrd]
    refine ⟨(fun z => by cases z), ?_⟩
    refine ea_cons (ed_call (ea_cons (ed_var rfl (ea_nil (ex_is_row_disks f (ea_nil ⟨by simp, _, rfl, ?_, ?_⟩))))))
    · rw [v]; exact shown_checked hc (by omega) f v
    rw [v]
    refine ed_repr (ed_tup (ea_cons (ed_var rfl (ea_cons (ed_var rfl (ea_cons (ed_bl (ea_nil ⟨by simp, _, rfl, shown_checked hc (by omega) f v, rfl, _, rfl, ?_⟩))))))))
    refine iff' (by rw [eqv_same]; rfl) (sd_next ?_)
    refine sd_for (gs := [6]) (ei_range (ed_int ⟨3, rfl, by decide, fun _ => shapeT D (rowT (.tuple xs)), ⟨_, _, _, _, _, _, _, rfl⟩, fun i x ρ' hx ⟨a2, a3, a5, a6, a7, a8, a9, e⟩ => ?_, fun ρ' ⟨a2, a3, a5, a6, a7, a8, a9, e⟩ => ⟨a2, a3, _, a5, a6, a7, a8, a9, e⟩⟩))
    subst e
    obtain ⟨k2, rfl⟩ := range_at hx
    refine eg_name ?_
    refine sd_seq (sd_asg (ed_dkI rfl (ea_cons (ed_var rfl (ea_nil (ex_changed (by omega) hc fun b b1 b2 => ?_))))))
    have b3 : b.length ≤ 277 := by
      have := b2 83 (by rw [row_split v]; exact l2)
      omega
    refine sd_seq (Sd.mono (N := fun ρ' => ∃ b, okS b ∧ ρ' = [.any, .raw (.ref D), a2, a3, .val (.str (rowT (.tuple xs))), a5, .val (.int k2), .val (.str b), a8, a9]) (R := fun _ => False) (sd_if (et_tTest (ed_eq (ed_var rfl (ed_int ⟨rfl, _, rfl, ?_⟩))))) (fun ρ' ⟨b, hb, e⟩ => ?_) fun _ z => z.elim)
    · refine ifc (fun _ => sd_asg (ed_dkI rfl (ea_cons (ed_var rfl (ea_nil (ex_changed b3 b1 fun c c1 c2 => ⟨c, ⟨?_, c1⟩, rfl⟩)))))) fun _ => sd_next ⟨b, ⟨by omega, b1⟩, rfl⟩
      have := c2 277 fun p hp => by
        have h1 := split_len (s := b) (split_chs b1 (by omega)).2.1
        have h2 : p.length ≤ ((Txt.split b " ").map (·.length)).sum := mem_le_sum (List.mem_map_of_mem hp)
        have h3 : 0 < (Txt.split b " ").length := List.length_pos_of_mem hp
        omega
      omega
    · subst e
      refine sd_seq (sd_asg (ed_call (ea_cons (ed_var rfl (ea_nil ⟨_, ⟨b, rfl, hb, rfl⟩, ?_⟩)))))
      exact sd_beside (i := 7) (j := 8) rfl rfl (fun s e => by cases e; exact hb) (readers b).symm (told_str hb) ⟨_, _, _, _, _, _, _, rfl⟩
  · subst e
    refine sd_seq (sd_asg (ed_dkI rfl (ea_cons (ed_lst ?_))))
    refine ea_cons (ed_non (ea_cons (ed_int (ea_cons (ed_tup (ea_cons (ed_str (ea_cons (ed_int (ea_nil ⟨by simp, ?_⟩)))))))))) 
    refine ea_cons (ed_lst (ea_cons (ed_str (ea_nil ⟨by simp, ?_⟩))))
    refine ea_cons (ed_bl (ea_cons (ed_dnew (ea_cons (ed_tup (ea_cons (ed_str (ea_nil ⟨by simp, ?_⟩))))))))
    refine ea_cons (ed_str (ea_cons (ed_str (ea_cons (ed_str (ea_cons (ed_dkI rfl (ea_nil (ex_odd fun o ho => ?_)))))))))
    refine ea_nil ⟨by simp, ea_nil (ex_pick (by simp) (by simp) fun d hd => ?_)⟩
    have hth : okThing d := by
      revert d
      repeat first
        | exact mem_cons (odd_thing o ho) mem_nil
        | refine mem_cons (thing_of (by decide +kernel)) ?_
        | refine mem_cons (thing_dict [] rfl rfl (by decide +kernel) (by decide +kernel)) ?_
    clear hd
    refine sd_seq (sd_asg (Ed.mono (P := fun f => f = rd d) (ed_if (et_tB (ed_isi (by decide) (ed_var rfl ⟨_, rfl, ?_⟩)))) fun f hf => ?_))
    · cases d with
      | str s => exact ift rfl (ed_call (ea_cons (ed_var rfl (ea_nil ⟨_, ⟨s, rfl, hth.2 s rfl, rfl⟩, (readers s).symm⟩))))
      | _ => exact iff' rfl (ed_non rfl)
    refine sd_seq (sd_beside (i := 9) (j := 8) rfl rfl hth.2 hf (told_thing hth) ?_)
    have hrd : rd (.str "end 3 kept") = .tuple [.str "end", .int 3, .str "kept"] := by
      have := read_back (d := .tuple [.str "end", .int 3, .str "kept"]) (by decide +kernel)
      rw [end_text] at this
      exact this
    have okE : okRepr (.tuple [.str "end", .int 3, .str "kept"]) := okRepr_of (by decide +kernel) (by decide +kernel) (by decide +kernel) (by decide +kernel) (.inl (by decide +kernel))
    refine sd_ret (ed_eq (ed_repr (ed_readK (ed_str ⟨fun s e => by cases e; exact ⟨by decide +kernel, by decide +kernel⟩, ?_⟩))))
    rw [hrd]
    refine ⟨(fun z => by cases z), ?_⟩
    refine ⟨_, rfl, okE, ed_repr (ed_tup (ea_cons (ed_str (ea_cons (ed_int (ea_cons (ed_str (ea_nil ⟨by simp, _, rfl, okE, rfl, ?_⟩))))))))⟩
    rw [eqv_same]
end K61
end

section
set_option Elab.async false
set_option linter.all false
set_option maxRecDepth 100000
set_option maxHeartbeats 4000000
/-! all promises; the end -/
namespace K61
open PySem PySem.Spec PyProof.Rows L2
theorem all_ok {P : Program} {w : World} {K : PySem.W.Frag} {mg : Str → Option Value} {base : Heap} (T : Gs K mg) : All P w K mg base := by
  have G_is_integer := ok_is_integer (P := P) (w := w) (base := base) T  se_is_integer
  have G_is_count := ok_is_count (P := P) (w := w) (base := base) T G_is_integer se_is_count
  have G_is_row_looks := ok_is_row_looks (P := P) (w := w) (base := base) T  se_is_row_looks
  have G_is_one_of := ok_is_one_of (P := P) (w := w) (base := base) T  se_is_one_of
  have G_is_rising := ok_is_rising (P := P) (w := w) (base := base) T  se_is_rising
  have G_is_key := ok_is_key (P := P) (w := w) (base := base) T  se_is_key
  have G_is_operation_value := ok_is_operation_value (P := P) (w := w) (base := base) T G_is_key G_is_integer se_is_operation_value
  have G_is_content_value := ok_is_content_value (P := P) (w := w) (base := base) T G_is_rising G_is_row_looks G_is_count G_is_key G_is_integer se_is_content_value
  have G_is_row_value := ok_is_row_value (P := P) (w := w) (base := base) T G_is_count G_is_one_of G_is_operation_value G_is_content_value (se_is_row_value T.t_NUMBERED T.t_ENDS)
  have G_text_of_content := ok_text_of_content (P := P) (w := w) (base := base) T  se_text_of_content
  have G_text_of_row := ok_text_of_row (P := P) (w := w) (base := base) T G_text_of_content (se_text_of_row T.t_NUMBERED)
  have G_number_in := ok_number_in (P := P) (w := w) (base := base) T  se_number_in
  have G_entry_in := ok_entry_in (P := P) (w := w) (base := base) T G_number_in se_entry_in
  have G_content_in := ok_content_in (P := P) (w := w) (base := base) T G_number_in G_entry_in se_content_in
  have G_row_in := ok_row_in (P := P) (w := w) (base := base) T G_number_in G_is_row_value G_text_of_row G_content_in (se_row_in T.t_NUMBERED)
  have G_law_is_int := ok_law_is_int (P := P) (w := w) (base := base) T  se_law_is_int
  have G_law_is_from := ok_law_is_from (P := P) (w := w) (base := base) T G_law_is_int se_law_is_from
  have G_law_is_key := ok_law_is_key (P := P) (w := w) (base := base) T  se_law_is_key
  have G_law_is_operation := ok_law_is_operation (P := P) (w := w) (base := base) T G_law_is_key G_law_is_int se_law_is_operation
  have G_law_is_content := ok_law_is_content (P := P) (w := w) (base := base) T G_law_is_key G_law_is_from G_law_is_int se_law_is_content
  have G_law_is_row := ok_law_is_row (P := P) (w := w) (base := base) T G_law_is_from G_law_is_content G_law_is_operation se_law_is_row
  have G_law_content_text := ok_law_content_text (P := P) (w := w) (base := base) T  se_law_content_text
  have G_law_row_text := ok_law_row_text (P := P) (w := w) (base := base) T G_law_content_text se_law_row_text
  have G_law_number := ok_law_number (P := P) (w := w) (base := base) T  se_law_number
  have G_law_read_content := ok_law_read_content (P := P) (w := w) (base := base) T G_law_number se_law_read_content
  have G_law_read_row := ok_law_read_row (P := P) (w := w) (base := base) T G_law_is_row G_law_read_content G_law_row_text G_law_number se_law_read_row
  have G_is_row_disks := ok_is_row_disks (P := P) (w := w) (base := base) T G_is_row_value se_is_row_disks
  have G_need_row := ok_need_row (P := P) (w := w) (base := base) T G_is_row_value se_need_row
  have G_row_text := ok_row_text (P := P) (w := w) (base := base) T G_need_row G_text_of_row se_row_text
  have G_law_draw := ok_law_draw (P := P) (w := w) (base := base) T  se_law_draw
  have G_law_pick := ok_law_pick (P := P) (w := w) (base := base) T G_law_draw se_law_pick
  have G_law_key := ok_law_key (P := P) (w := w) (base := base) T G_law_pick G_law_draw se_law_key
  have G_law_worth := ok_law_worth (P := P) (w := w) (base := base) T G_law_pick G_law_draw se_law_worth
  have G_law_content := ok_law_content (P := P) (w := w) (base := base) T G_law_draw G_law_pick G_law_key G_law_worth se_law_content
  have G_law_operation := ok_law_operation (P := P) (w := w) (base := base) T G_law_draw G_law_key G_law_worth se_law_operation
  have G_law_row := ok_law_row (P := P) (w := w) (base := base) T G_law_draw G_law_pick G_law_content G_law_operation se_law_row
  have G_law_odd := ok_law_odd (P := P) (w := w) (base := base) T G_law_pick se_law_odd
  have G_law_changed := ok_law_changed (P := P) (w := w) (base := base) T G_law_draw G_law_pick se_law_changed
  have GR := ok_read_row (P := P) (w := w) (base := base) T G_row_in
  refine ⟨ok_law_dealt T, G_is_row_disks, G_law_row, G_law_row_text, G_row_text, G_law_changed, G_law_read_row, G_law_pick, G_law_odd, ok_law_tried T GR, GR, ?_, ?_⟩
  · obtain ⟨fd, F⟩ := T.d_row_text
    have nd := sc_row_text.nd
    refine ⟨fd, F.ok sc_row_text (fun vs H Q E ⟨W, ds, d, iv, r, c, q⟩ => by rw [r.length]; exact (se_row_text (K := K) ds d c).1) (fun cdv A outer s H vs Q E hr hsp => ⟨t_row_text K, PSs.nox ?_, ?_⟩), kb1 F fun _ _ _ _ _ _ _ => rfl⟩
    · exact (pss_cons (ps_expr (pe_cf G_need_row (hr.mono (by decide)) rfl (pa_cons (pv 0) pa_nil)))
        (pss_one (ps_ret (pe_cf G_text_of_row (hr.mono (by decide)) rfl (pa_cons (pv 0) pa_nil)))))
    · obtain ⟨W, ds, d, iv, r, c, q⟩ := hsp
      have hs := se_row_text (K := K) ds d c
      have e : L2.start ["row"] vs = vs.map some ++ List.replicate (1 - 1) none := by
        unfold L2.start
        rw [r.length, hs.1]
        rfl
      rw [e]
      refine hs.2 W (W0.le W) _ H _ iv (EnvD.app (DqAll.vals r) (any_env _)) (fun ρ' σ' H' x _ hd => ?_) (fun d' v H' x r' hd => ?_)
      · subst hd
        exact q .non H' x .non
      · subst hd
        exact q v H' x r'
  · obtain ⟨fd, F⟩ := T.d_read_row
    have nd := sc_read_row.nd
    refine ⟨fd, F.ok sc_read_row (fun vs H Q E ⟨W, v, x, e, _⟩ => by rw [e] <;> rfl) (fun cdv A outer s H vs Q E hr h => ⟨t_read_row K E, ?_, pure_read vs H Q E h⟩), F.bindsN fun _ _ _ _ _ _ us hl => match us, hl with | [_], _ => rfl, kb1 F fun _ _ _ _ _ _ _ => rfl⟩
    exact pss_cons (ps_set (i := 1) nd rfl (Or.inl rfl) (pe_ifExp (pt_val (pe_callB call_isi rfl T.f_isinstance boot_isinstance (pa_cons (pv 0) (pa_cons (pe_bltn rfl T.f_str boot_str rfl) pa_nil)))) (pe_cf G_row_in (hr.mono (by decide)) rfl (pa_cons (pv 0) pa_nil)) pe_non))
      (pss_cons (ps_if (pt_cmpR oq_isN (pv 1) pe_non (nomark _)) (pss_one (ps_raiseBt rfl (bt_of T) hr (by decide) (takes_of rfl rfl rfl rfl) (pa_cons (pv 0) pa_nil))) pss_nil)
        (pss_one (ps_ret (pv 1))))
theorem room8 : Room 8 callerA := ⟨rfl, by decide +kernel, by decide +kernel⟩
/-- the law's def answers True at the claim's caller -/
theorem law_runs {P : Program} {w : World} {K : PySem.W.Frag} {mg : Str → Option Value} {base : Heap} (T : Gs K mg) {H : Hp} {s : Shared} {a : Addr} {ns : List Int} (e0 : Env0 P w K mg base callerA [] s H) (hs : SqL K H a (ns.map V.int)) :
    codeAny (model P w) callerA (.call (.ref (He.ga K "law")) ⟨[.ref a], []⟩) (CR CX0 [] P w H s (fun v _ => v = .bl true) fun _ _ _ => False) s := by
  obtain ⟨fd, F⟩ := T.d_law
  have b := FunD.bindsA (ps := ["_law_script"]) F (fun _ _ _ _ _ _ us hl => match us, hl with | [_], _ => rfl) s [.ref a] rfl
  refine run_at (k := 7) F sc_law room8 (vs := [.ref a]) (us := [.ref a]) rfl e0 b (.cons rfl .nil) fun cdv hr => ⟨t_law K, ?_, pure_law (P := P) (w := w) hs⟩
  exact PSs.nox (der_law T (all_ok T) cdv s H _ hr)
end K61
end

section
set_option Elab.async false
set_option linter.all false
set_option maxRecDepth 100000
set_option maxHeartbeats 4000000
open PySem PySem.W PySem.Calls PyProof.Rows
set_option maxHeartbeats 0 in
theorem PySem.Challenge.cw_eachcut_k61_whole_texts_of_rows_there_an_holds : PySem.Challenge.rw_eachcut_k61_whole_texts_of_rows_there_an.Holds := by
  w_on; o_law
  refine HandSHeadRun.head_any (r := OpenLaw.row PySem.Challenge.rw_eachcut_k61_whole_texts_of_rows_there_an) (q := view (OpenLaw.row PySem.Challenge.rw_eachcut_k61_whole_texts_of_rows_there_an).prog [58]) (H := K61.hk) (ob := K61.ob) (M := 3000) (loose := K61.nms) (d := HandSHeadRun.topDef (OpenLaw.row PySem.Challenge.rw_eachcut_k61_whole_texts_of_rows_there_an).prog 58) (kwd := []) K61.ob_eq
    (by kernel_rfl) (fun s => by kernel_rfl) K61.run (by kernel_rfl) (by kernel_rfl) (by kernel_rfl) (by rfl) (by first | assumption | decide +kernel) (by decide +kernel) ⟨rfl, rfl, rfl, rfl, rfl, by decide +kernel⟩ ?hw ?hc
  case hw => w_witness2
  case hc =>
    refine L2.walk_at (l := PySem.Challenge.rw_eachcut_k61_whole_texts_of_rows_there_an) (n := 63) rfl (by decide) (by kernel_rfl) ?F
    intro w mg fa h Y G hmg0
    obtain ⟨K, KX, c⟩ := Y
    have T : K61.Gs K mg := K61.gs_of (P := w.params) KX G c
    have hmg : mg ("law" : PySem.Str) = some (.ref fa) := by
      have e : (HandSHeadRun.topDef (OpenLaw.row PySem.Challenge.rw_eachcut_k61_whole_texts_of_rows_there_an).prog 58).name = ("law" : PySem.Str) := by kernel_rfl
      rw [← e]
      exact hmg0
    have e := hmg.symm.trans T.g_law
    cases e
    exact ⟨K, KX, fun base H s a ns _ _ _ e0 hs => K61.law_runs T e0 hs⟩
end
