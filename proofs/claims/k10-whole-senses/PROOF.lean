import PyProof.Rows.All
import HandS.ForMost
import HandS.ForExc
import HandS.Defaults
import HandS.HeadHook2
import PySem.Challenge.RW_shownempty_k10_whole_senses
import HandS.IsInst
import HandS.Walk
import HandS.TupLe
import HandS.TupAny
import HandS.TupMul
import HandS.Wide
import HandS.Codes
import HandS.Evl
import HandS.StrMore
import KE.SortData
import PyProof.CollectStr
import PyProof.TupleOfSeq
import HandS.Replace
import HandS.Zip
import PyProof.StrBlock2
import HandS.Flow
import PyProof.Rows.StrStrike
import PyProof.Rows.RegReprOcc
import PyProof.Rows.StrCountLaw
import KE.DataCmp
import KE.KDictKeyed
import KE.KeyNested
import HandS.Iter
import KE.GoesEnum
import KE.KExcIs
import HandS.ExcOwn
import HandS.ExcField
import HandS.ExcIs
import HandS.ExcInit
import HandS.ClsMeth
import PyProof.EqLayable
import PyProof.P3Eq
import HandS.Head0
import HandS.Head1
import HandS.Head2
import HandS.HeadEnd
import HandS.HeadHook1
import KE.KStateDown
set_option Elab.async false
set_option linter.all false
set_option maxRecDepth 100000
/-! The row's defs by their places; printed by gen_text.py. -/
namespace K10
open PySem PySem.Spec PyProof.Rows L2
abbrev rowP : Program := PySem.Challenge.pw_shownempty_k10_whole_senses
def topS (i : Nat) : Stmt := rowP.main.body.getD i (.Pass ⟨0, 0, 0, 0⟩)
/-- a def as it stands behind the top -/
abbrev FnP (K : PySem.W.Frag) (x qual : Str) (st : Stmt) (f : Addr) (fd : FuncData) : Prop := FunD K x qual (defArgs st) (defBody st) (defScope st) [] [] f fd
/-- BadSize_init: 0:self 1:size -/
abbrev s_BadSize_init : Stmt := inClass (topS 2) 0
abbrev n_BadSize_init : List Str := ["self", "size"]
abbrev p_BadSize_init : List Str := ["self", "size"]
theorem sc_BadSize_init : FnScope n_BadSize_init p_BadSize_init (defScope s_BadSize_init) := ⟨rfl, rfl, rfl, by decide +kernel, rfl, by decide +kernel, by decide +kernel⟩
/-- BadWord_init: 0:self 1:word -/
abbrev s_BadWord_init : Stmt := inClass (topS 3) 0
abbrev n_BadWord_init : List Str := ["self", "word"]
abbrev p_BadWord_init : List Str := ["self", "word"]
theorem sc_BadWord_init : FnScope n_BadWord_init p_BadWord_init (defScope s_BadWord_init) := ⟨rfl, rfl, rfl, by decide +kernel, rfl, by decide +kernel, by decide +kernel⟩
/-- BadWorld_init: 0:self 1:world -/
abbrev s_BadWorld_init : Stmt := inClass (topS 4) 0
abbrev n_BadWorld_init : List Str := ["self", "world"]
abbrev p_BadWorld_init : List Str := ["self", "world"]
theorem sc_BadWorld_init : FnScope n_BadWorld_init p_BadWorld_init (defScope s_BadWorld_init) := ⟨rfl, rfl, rfl, by decide +kernel, rfl, by decide +kernel, by decide +kernel⟩
/-- BadDeed_init: 0:self 1:deed -/
abbrev s_BadDeed_init : Stmt := inClass (topS 5) 0
abbrev n_BadDeed_init : List Str := ["self", "deed"]
abbrev p_BadDeed_init : List Str := ["self", "deed"]
theorem sc_BadDeed_init : FnScope n_BadDeed_init p_BadDeed_init (defScope s_BadDeed_init) := ⟨rfl, rfl, rfl, by decide +kernel, rfl, by decide +kernel, by decide +kernel⟩
/-- TooMany_init: 0:self 1:word -/
abbrev s_TooMany_init : Stmt := inClass (topS 6) 0
abbrev n_TooMany_init : List Str := ["self", "word"]
abbrev p_TooMany_init : List Str := ["self", "word"]
theorem sc_TooMany_init : FnScope n_TooMany_init p_TooMany_init (defScope s_TooMany_init) := ⟨rfl, rfl, rfl, by decide +kernel, rfl, by decide +kernel, by decide +kernel⟩
/-- is_integer: 0:thing 1:low 2:high -/
abbrev s_is_integer : Stmt := topS 9
abbrev n_is_integer : List Str := ["thing", "low", "high"]
abbrev p_is_integer : List Str := ["thing", "low", "high"]
theorem sc_is_integer : FnScope n_is_integer p_is_integer (defScope s_is_integer) := ⟨rfl, rfl, rfl, by decide +kernel, rfl, by decide +kernel, by decide +kernel⟩
/-- deep: 0:thing 1:left 2:inner -/
abbrev s_deep : Stmt := topS 10
abbrev n_deep : List Str := ["thing", "left", "inner"]
abbrev p_deep : List Str := ["thing", "left"]
theorem sc_deep : FnScope n_deep p_deep (defScope s_deep) := ⟨rfl, rfl, rfl, by decide +kernel, rfl, by decide +kernel, by decide +kernel⟩
/-- is_letter: 0:thing -/
abbrev s_is_letter : Stmt := topS 11
abbrev n_is_letter : List Str := ["thing"]
abbrev p_is_letter : List Str := ["thing"]
theorem sc_is_letter : FnScope n_is_letter p_is_letter (defScope s_is_letter) := ⟨rfl, rfl, rfl, by decide +kernel, rfl, by decide +kernel, by decide +kernel⟩
/-- is_part: 0:lot 1:other 2:member -/
abbrev s_is_part : Stmt := topS 12
abbrev n_is_part : List Str := ["lot", "other", "member"]
abbrev p_is_part : List Str := ["lot", "other"]
theorem sc_is_part : FnScope n_is_part p_is_part (defScope s_is_part) := ⟨rfl, rfl, rfl, by decide +kernel, rfl, by decide +kernel, by decide +kernel⟩
/-- is_step: 0:thing 1:size 2:what 3:start 4:goal -/
abbrev s_is_step : Stmt := topS 16
abbrev n_is_step : List Str := ["thing", "size", "what", "start", "goal"]
abbrev p_is_step : List Str := ["thing", "size"]
theorem sc_is_step : FnScope n_is_step p_is_step (defScope s_is_step) := ⟨rfl, rfl, rfl, by decide +kernel, rfl, by decide +kernel, by decide +kernel⟩
/-- is_deed: 0:thing 1:size 2:told 3:step -/
abbrev s_is_deed : Stmt := topS 17
abbrev n_is_deed : List Str := ["thing", "size", "told", "step"]
abbrev p_is_deed : List Str := ["thing", "size"]
theorem sc_is_deed : FnScope n_is_deed p_is_deed (defScope s_is_deed) := ⟨rfl, rfl, rfl, by decide +kernel, rfl, by decide +kernel, by decide +kernel⟩
/-- first_state: 0:size 1:place -/
abbrev s_first_state : Stmt := topS 19
abbrev n_first_state : List Str := ["size", "place"]
abbrev p_first_state : List Str := ["size"]
theorem sc_first_state : FnScope n_first_state p_first_state (defScope s_first_state) := ⟨rfl, rfl, rfl, by decide +kernel, rfl, by decide +kernel, by decide +kernel⟩
/-- gathered: 0:state 1:start 2:goal 3:blocks 4:nets 5:needs 6:lots 7:found 8:place 9:kind 10:to -/
abbrev s_gathered : Stmt := topS 20
abbrev n_gathered : List Str := ["state", "start", "goal", "blocks", "nets", "needs", "lots", "found", "place", "kind", "to"]
abbrev p_gathered : List Str := ["state", "start", "goal"]
theorem sc_gathered : FnScope n_gathered p_gathered (defScope s_gathered) := ⟨rfl, rfl, rfl, by decide +kernel, rfl, by decide +kernel, by decide +kernel⟩
/-- exchanged: 0:state 1:start 2:goal 3:blocks 4:nets 5:needs 6:lots 7:found 8:place 9:kind 10:to -/
abbrev s_exchanged : Stmt := topS 21
abbrev n_exchanged : List Str := ["state", "start", "goal", "blocks", "nets", "needs", "lots", "found", "place", "kind", "to"]
abbrev p_exchanged : List Str := ["state", "start", "goal"]
theorem sc_exchanged : FnScope n_exchanged p_exchanged (defScope s_exchanged) := ⟨rfl, rfl, rfl, by decide +kernel, rfl, by decide +kernel, by decide +kernel⟩
/-- handed: 0:state 1:kind 2:start 3:goal 4:blocks 5:nets 6:needs 7:due 8:found 9:pair -/
abbrev s_handed : Stmt := topS 22
abbrev n_handed : List Str := ["state", "kind", "start", "goal", "blocks", "nets", "needs", "due", "found", "pair"]
abbrev p_handed : List Str := ["state", "kind", "start", "goal"]
theorem sc_handed : FnScope n_handed p_handed (defScope s_handed) := ⟨rfl, rfl, rfl, by decide +kernel, rfl, by decide +kernel, by decide +kernel⟩
/-- state_behind: 0:state 1:step 2:what 3:start 4:goal -/
abbrev s_state_behind : Stmt := topS 23
abbrev n_state_behind : List Str := ["state", "step", "what", "start", "goal"]
abbrev p_state_behind : List Str := ["state", "step"]
theorem sc_state_behind : FnScope n_state_behind p_state_behind (defScope s_state_behind) := ⟨rfl, rfl, rfl, by decide +kernel, rfl, by decide +kernel, by decide +kernel⟩
/-- surely_there: 0:lot 1:needs 2:best 3:at 4:places 5:number 6:apart 7:pair 8:place -/
abbrev s_surely_there : Stmt := topS 24
abbrev n_surely_there : List Str := ["lot", "needs", "best", "at", "places", "number", "apart", "pair", "place"]
abbrev p_surely_there : List Str := ["lot", "needs"]
theorem sc_surely_there : FnScope n_surely_there p_surely_there (defScope s_surely_there) := ⟨rfl, rfl, rfl, by decide +kernel, rfl, by decide +kernel, by decide +kernel⟩
/-- needs_told: 0:needs 1:greatest 2:lot 3:kind 4:number 5:found 6:others 7:pair -/
abbrev s_needs_told : Stmt := topS 25
abbrev n_needs_told : List Str := ["needs", "greatest", "lot", "kind", "number", "found", "others", "pair"]
abbrev p_needs_told : List Str := ["needs"]
theorem sc_needs_told : FnScope n_needs_told p_needs_told (defScope s_needs_told) := ⟨rfl, rfl, rfl, by decide +kernel, rfl, by decide +kernel, by decide +kernel⟩
/-- sense_of: 0:state 1:blocks 2:nets 3:needs 4:where 5:place 6:told 7:pair 8:at 9:lot -/
abbrev s_sense_of : Stmt := topS 26
abbrev n_sense_of : List Str := ["state", "blocks", "nets", "needs", "where", "place", "told", "pair", "at", "lot"]
abbrev p_sense_of : List Str := ["state"]
theorem sc_sense_of : FnScope n_sense_of p_sense_of (defScope s_sense_of) := ⟨rfl, rfl, rfl, by decide +kernel, rfl, by decide +kernel, by decide +kernel⟩
/-- sense: 0:size 1:deed 2:state 3:step -/
abbrev s_sense : Stmt := topS 27
abbrev n_sense : List Str := ["size", "deed", "state", "step"]
abbrev p_sense : List Str := ["size", "deed"]
theorem sc_sense : FnScope n_sense p_sense (defScope s_sense) := ⟨rfl, rfl, rfl, by decide +kernel, rfl, by decide +kernel, by decide +kernel⟩
/-- L_draw: 0:script 1:cells 2:cell -/
abbrev s_L_draw : Stmt := topS 29
abbrev n_L_draw : List Str := ["_law_script", "_law_cells", "_law_cell"]
abbrev p_L_draw : List Str := ["_law_script"]
theorem sc_L_draw : FnScope n_L_draw p_L_draw (defScope s_L_draw) := ⟨rfl, rfl, rfl, by decide +kernel, rfl, by decide +kernel, by decide +kernel⟩
/-- L_mix: 0:cell 1:turn 2:one 3:two -/
abbrev s_L_mix : Stmt := topS 30
abbrev n_L_mix : List Str := ["_law_cell", "_law_turn", "_law_one", "_law_two"]
abbrev p_L_mix : List Str := ["_law_cell", "_law_turn"]
theorem sc_L_mix : FnScope n_L_mix p_L_mix (defScope s_L_mix) := ⟨rfl, rfl, rfl, by decide +kernel, rfl, by decide +kernel, by decide +kernel⟩
/-- L_pick: 0:draw_here 1:many 2:cell 3:digit 4:found -/
abbrev s_L_pick : Stmt := topS 31
abbrev n_L_pick : List Str := ["_law_draw_here", "_law_many", "_law_cell", "_law_digit", "_law_found"]
abbrev p_L_pick : List Str := ["_law_draw_here", "_law_many"]
theorem sc_L_pick : FnScope n_L_pick p_L_pick (defScope s_L_pick) := ⟨rfl, rfl, rfl, by decide +kernel, rfl, by decide +kernel, by decide +kernel⟩
/-- L_kinds: 0:draw_here 1:letters 2:out 3:turn 4:left 5:one -/
abbrev s_L_kinds : Stmt := topS 32
abbrev n_L_kinds : List Str := ["_law_draw_here", "_law_letters", "_law_out", "_law_turn", "_law_left", "_law_one"]
abbrev p_L_kinds : List Str := ["_law_draw_here"]
theorem sc_L_kinds : FnScope n_L_kinds p_L_kinds (defScope s_L_kinds) := ⟨rfl, rfl, rfl, by decide +kernel, rfl, by decide +kernel, by decide +kernel⟩
/-- L_things: 0:draw_here 1:kinds_here 2:cap 3:turn -/
abbrev s_L_things : Stmt := topS 33
abbrev n_L_things : List Str := ["_law_draw_here", "_law_kinds_here", "_law_cap", "_law_turn"]
abbrev p_L_things : List Str := ["_law_draw_here", "_law_kinds_here", "_law_cap"]
theorem sc_L_things : FnScope n_L_things p_L_things (defScope s_L_things) := ⟨rfl, rfl, rfl, by decide +kernel, rfl, by decide +kernel, by decide +kernel⟩
/-- L_world: 0:draw_here 1:size 2:things_here 3:spot 4:rows 5:one 6:row -/
abbrev s_L_world : Stmt := topS 34
abbrev n_L_world : List Str := ["_law_draw_here", "_law_size", "_law_things_here", "_law_spot", "_law_rows", "_law_one", "_law_row"]
abbrev p_L_world : List Str := ["_law_draw_here", "_law_size", "_law_things_here"]
theorem sc_L_world : FnScope n_L_world p_L_world (defScope s_L_world) := ⟨rfl, rfl, rfl, by decide +kernel, rfl, by decide +kernel, by decide +kernel⟩
/-- L_step: 0:draw_here 1:size 2:kinds_here 3:one 4:two 5:what 6:way -/
abbrev s_L_step : Stmt := topS 35
abbrev n_L_step : List Str := ["_law_draw_here", "_law_size", "_law_kinds_here", "_law_one", "_law_two", "_law_what", "_law_way"]
abbrev p_L_step : List Str := ["_law_draw_here", "_law_size", "_law_kinds_here"]
theorem sc_L_step : FnScope n_L_step p_L_step (defScope s_L_step) := ⟨rfl, rfl, rfl, by decide +kernel, rfl, by decide +kernel, by decide +kernel⟩
/-- L_done: 0:world_here 1:deed 2:rows 3:what 4:one 5:two 6:held 7:at 8:row -/
abbrev s_L_done : Stmt := topS 36
abbrev n_L_done : List Str := ["_law_world_here", "_law_deed", "_law_rows", "_law_what", "_law_one", "_law_two", "_law_held", "_law_at", "_law_row"]
abbrev p_L_done : List Str := ["_law_world_here", "_law_deed"]
theorem sc_L_done : FnScope n_L_done p_L_done (defScope s_L_done) := ⟨rfl, rfl, rfl, by decide +kernel, rfl, by decide +kernel, by decide +kernel⟩
/-- L_is_int: 0:thing -/
abbrev s_L_is_int : Stmt := topS 37
abbrev n_L_is_int : List Str := ["_law_thing"]
abbrev p_L_is_int : List Str := ["_law_thing"]
theorem sc_L_is_int : FnScope n_L_is_int p_L_is_int (defScope s_L_is_int) := ⟨rfl, rfl, rfl, by decide +kernel, rfl, by decide +kernel, by decide +kernel⟩
/-- L_listed: 0:thing 1:one -/
abbrev s_L_listed : Stmt := topS 38
abbrev n_L_listed : List Str := ["_law_thing", "_law_one"]
abbrev p_L_listed : List Str := ["_law_thing"]
theorem sc_L_listed : FnScope n_L_listed p_L_listed (defScope s_L_listed) := ⟨rfl, rfl, rfl, by decide +kernel, rfl, by decide +kernel, by decide +kernel⟩
/-- L_exact: 0:told_here 1:due 2:k -/
abbrev s_L_exact : Stmt := topS 39
abbrev n_L_exact : List Str := ["_law_told_here", "_law_due", "_law_k"]
abbrev p_L_exact : List Str := ["_law_told_here", "_law_due"]
theorem sc_L_exact : FnScope n_L_exact p_L_exact (defScope s_L_exact) := ⟨rfl, rfl, rfl, by decide +kernel, rfl, by decide +kernel, by decide +kernel⟩
/-- L_back_again: 0:draw_here 1:size 2:kinds_here 3:one 4:two 5:start 6:goal 7:what 8:last -/
abbrev s_L_back_again : Stmt := topS 40
abbrev n_L_back_again : List Str := ["_law_draw_here", "_law_size", "_law_kinds_here", "_law_one", "_law_two", "_law_start", "_law_goal", "_law_what", "_law_last"]
abbrev p_L_back_again : List Str := ["_law_draw_here", "_law_size", "_law_kinds_here"]
theorem sc_L_back_again : FnScope n_L_back_again p_L_back_again (defScope s_L_back_again) := ⟨rfl, rfl, rfl, by decide +kernel, rfl, by decide +kernel, by decide +kernel⟩
/-- L_some_deed: 0:draw_here 1:size 2:kinds_here 3:deed 4:turn 5:step_here 6:way -/
abbrev s_L_some_deed : Stmt := topS 41
abbrev n_L_some_deed : List Str := ["_law_draw_here", "_law_size", "_law_kinds_here", "_law_deed", "_law_turn", "_law_step_here", "_law_way"]
abbrev p_L_some_deed : List Str := ["_law_draw_here", "_law_size", "_law_kinds_here"]
theorem sc_L_some_deed : FnScope n_L_some_deed p_L_some_deed (defScope s_L_some_deed) := ⟨rfl, rfl, rfl, by decide +kernel, rfl, by decide +kernel, by decide +kernel⟩
/-- L_put: 0:world_here 1:spot 2:letter -/
abbrev s_L_put : Stmt := topS 42
abbrev n_L_put : List Str := ["_law_world_here", "_law_spot", "_law_letter"]
abbrev p_L_put : List Str := ["_law_world_here", "_law_spot", "_law_letter"]
theorem sc_L_put : FnScope n_L_put p_L_put (defScope s_L_put) := ⟨rfl, rfl, rfl, by decide +kernel, rfl, by decide +kernel, by decide +kernel⟩
/-- L_alone: 0:size 1:letter 2:many 3:worlds 4:turn 5:found 6:world_here 7:spot 8:later -/
abbrev s_L_alone : Stmt := topS 43
abbrev n_L_alone : List Str := ["_law_size", "_law_letter", "_law_many", "_law_worlds", "_law_turn", "_law_found", "_law_world_here", "_law_spot", "_law_later"]
abbrev p_L_alone : List Str := ["_law_size", "_law_letter", "_law_many"]
theorem sc_L_alone : FnScope n_L_alone p_L_alone (defScope s_L_alone) := ⟨rfl, rfl, rfl, by decide +kernel, rfl, by decide +kernel, by decide +kernel⟩
/-- L_can_be_done: 0:size 1:deed 2:worlds 3:step_here 4:found 5:world_here 6:spot -/
abbrev s_L_can_be_done : Stmt := topS 44
abbrev n_L_can_be_done : List Str := ["_law_size", "_law_deed", "_law_worlds", "_law_step_here", "_law_found", "_law_world_here", "_law_spot"]
abbrev p_L_can_be_done : List Str := ["_law_size", "_law_deed"]
theorem sc_L_can_be_done : FnScope n_L_can_be_done p_L_can_be_done (defScope s_L_can_be_done) := ⟨rfl, rfl, rfl, by decide +kernel, rfl, by decide +kernel, by decide +kernel⟩
/-- L_is_triple: 0:row -/
abbrev s_L_is_triple : Stmt := topS 45
abbrev n_L_is_triple : List Str := ["_law_row"]
abbrev p_L_is_triple : List Str := ["_law_row"]
theorem sc_L_is_triple : FnScope n_L_is_triple p_L_is_triple (defScope s_L_is_triple) := ⟨rfl, rfl, rfl, by decide +kernel, rfl, by decide +kernel, by decide +kernel⟩
/-- L_is_letter: 0:word -/
abbrev s_L_is_letter : Stmt := topS 46
abbrev n_L_is_letter : List Str := ["_law_word"]
abbrev p_L_is_letter : List Str := ["_law_word"]
theorem sc_L_is_letter : FnScope n_L_is_letter p_L_is_letter (defScope s_L_is_letter) := ⟨rfl, rfl, rfl, by decide +kernel, rfl, by decide +kernel, by decide +kernel⟩
/-- L_is_lot: 0:lot 1:size 2:spot 3:k -/
abbrev s_L_is_lot : Stmt := topS 47
abbrev n_L_is_lot : List Str := ["_law_lot", "_law_size", "_law_spot", "_law_k"]
abbrev p_L_is_lot : List Str := ["_law_lot", "_law_size"]
theorem sc_L_is_lot : FnScope n_L_is_lot p_L_is_lot (defScope s_L_is_lot) := ⟨rfl, rfl, rfl, by decide +kernel, rfl, by decide +kernel, by decide +kernel⟩
/-- L_has_form: 0:size 1:told_here 2:where 3:nets 4:needs 5:row 6:spot 7:k -/
abbrev s_L_has_form : Stmt := topS 48
abbrev n_L_has_form : List Str := ["_law_size", "_law_told_here", "_law_where", "_law_nets", "_law_needs", "_law_row", "_law_spot", "_law_k"]
abbrev p_L_has_form : List Str := ["_law_size", "_law_told_here"]
theorem sc_L_has_form : FnScope n_L_has_form p_L_has_form (defScope s_L_has_form) := ⟨rfl, rfl, rfl, by decide +kernel, rfl, by decide +kernel, by decide +kernel⟩
/-- L_is_met: 0:world_here 1:need 2:spot -/
abbrev s_L_is_met : Stmt := topS 49
abbrev n_L_is_met : List Str := ["_law_world_here", "_law_need", "_law_spot"]
abbrev p_L_is_met : List Str := ["_law_world_here", "_law_need"]
theorem sc_L_is_met : FnScope n_L_is_met p_L_is_met (defScope s_L_is_met) := ⟨rfl, rfl, rfl, by decide +kernel, rfl, by decide +kernel, by decide +kernel⟩
/-- L_led: 0:told_here 1:world_here 2:where 3:nets 4:needs 5:out 6:goal 7:here 8:row 9:more 10:need 11:spot -/
abbrev s_L_led : Stmt := topS 50
abbrev n_L_led : List Str := ["_law_told_here", "_law_world_here", "_law_where", "_law_nets", "_law_needs", "_law_out", "_law_goal", "_law_here", "_law_row", "_law_more", "_law_need", "_law_spot"]
abbrev p_L_led : List Str := ["_law_told_here", "_law_world_here"]
theorem sc_L_led : FnScope n_L_led p_L_led (defScope s_L_led) := ⟨rfl, rfl, rfl, by decide +kernel, rfl, by decide +kernel, by decide +kernel⟩
/-- L_met: 0:size 1:needs 2:letter 3:world_here 4:need -/
abbrev s_L_met : Stmt := topS 51
abbrev n_L_met : List Str := ["_law_size", "_law_needs", "_law_letter", "_law_world_here", "_law_need"]
abbrev p_L_met : List Str := ["_law_size", "_law_needs", "_law_letter"]
theorem sc_L_met : FnScope n_L_met p_L_met (defScope s_L_met) := ⟨rfl, rfl, rfl, by decide +kernel, rfl, by decide +kernel, by decide +kernel⟩
/-- L_joined: 0:world_here 1:other 2:spot -/
abbrev s_L_joined : Stmt := topS 52
abbrev n_L_joined : List Str := ["_law_world_here", "_law_other", "_law_spot"]
abbrev p_L_joined : List Str := ["_law_world_here", "_law_other"]
theorem sc_L_joined : FnScope n_L_joined p_L_joined (defScope s_L_joined) := ⟨rfl, rfl, rfl, by decide +kernel, rfl, by decide +kernel, by decide +kernel⟩
/-- L_is_sense: 0:size 1:deed 2:told_here 3:named 4:fresh 5:letter 6:beside 7:mine 8:parted 9:many 10:alone_here 11:world_here 12:behind 13:missed 14:step_here 15:one 16:need 17:k -/
abbrev s_L_is_sense : Stmt := topS 53
abbrev n_L_is_sense : List Str := ["_law_size", "_law_deed", "_law_told_here", "_law_named", "_law_fresh", "_law_letter", "_law_beside", "_law_mine", "_law_parted", "_law_many", "_law_alone_here", "_law_world_here", "_law_behind", "_law_missed", "_law_step_here", "_law_one", "_law_need", "_law_k"]
abbrev p_L_is_sense : List Str := ["_law_size", "_law_deed", "_law_told_here"]
theorem sc_L_is_sense : FnScope n_L_is_sense p_L_is_sense (defScope s_L_is_sense) := ⟨rfl, rfl, rfl, by decide +kernel, rfl, by decide +kernel, by decide +kernel⟩
/-- L_told: 0:size 1:deed 2:told_here 3:e 4:found -/
abbrev s_L_told : Stmt := topS 54
abbrev n_L_told : List Str := ["_law_size", "_law_deed", "_law_told_here", "e", "_law_found"]
abbrev p_L_told : List Str := ["_law_size", "_law_deed"]
theorem sc_L_told : FnScope n_L_told p_L_told (defScope s_L_told) := ⟨rfl, rfl, rfl, by decide +kernel, rfl, by decide +kernel, by decide +kernel⟩
/-- L_is_right: 0:draw_here 1:size 2:deed 3:answer 4:told_here 5:letters 6:turn 7:world_here 8:step_here 9:need -/
abbrev s_L_is_right : Stmt := topS 55
abbrev n_L_is_right : List Str := ["_law_draw_here", "_law_size", "_law_deed", "_law_answer", "_law_told_here", "_law_letters", "_law_turn", "_law_world_here", "_law_step_here", "_law_need"]
abbrev p_L_is_right : List Str := ["_law_draw_here", "_law_size", "_law_deed", "_law_answer"]
theorem sc_L_is_right : FnScope n_L_is_right p_L_is_right (defScope s_L_is_right) := ⟨rfl, rfl, rfl, by decide +kernel, rfl, by decide +kernel, by decide +kernel⟩
/-- L_no_deed: 0:draw_here 1:size 2:step_here 3:pool -/
abbrev s_L_no_deed : Stmt := topS 56
abbrev n_L_no_deed : List Str := ["_law_draw_here", "_law_size", "_law_step_here", "_law_pool"]
abbrev p_L_no_deed : List Str := ["_law_draw_here", "_law_size"]
theorem sc_L_no_deed : FnScope n_L_no_deed p_L_no_deed (defScope s_L_no_deed) := ⟨rfl, rfl, rfl, by decide +kernel, rfl, by decide +kernel, by decide +kernel⟩
/-- law: 0:script 1:draw_here 2:size 3:kinds_here 4:deed 5:other 6:first 7:handed 8:wrong 9:odd -/
abbrev s_law : Stmt := topS 57
abbrev n_law : List Str := ["_law_script", "_law_draw_here", "_law_size", "_law_kinds_here", "_law_deed", "_law_other", "_law_first", "_law_handed", "_law_wrong", "_law_odd"]
abbrev p_law : List Str := ["_law_script"]
theorem sc_law : FnScope n_law p_law (defScope s_law) := ⟨rfl, rfl, rfl, by decide +kernel, rfl, by decide +kernel, by decide +kernel⟩
end K10
set_option maxHeartbeats 4000000
/-! The data layer, 1: what an expression, a test, a block must do (WE, WT, WA, WSs), and what evaluates to which data (EE, ET, EA). -/
namespace K10
open PySem PySem.Spec PyProof.Rows L2
open C8 (Cal pe_c)
/-! ### items of a written list, each without a star -/
/-- no `*e` -/
def plainE : Expr → Bool
  | .Starred .. => false
  | _ => true
theorem star_cons {e : Expr} {es : List Expr} {env : Env} (h : plainE e = true) : starEach (e :: es) env = (false, eval e env) :: starEach es env := by
  cases e <;> first | rfl | cases h
theorem star_one {e : Expr} {env : Env} (h : plainE e = true) : starEach [e] env = [(false, eval e env)] := star_cons h
theorem star_two {e a : Expr} {env : Env} (h : plainE e = true) (h2 : plainE a = true) : starEach [e, a] env = [(false, eval e env), (false, eval a env)] := by rw [star_cons h, star_one h2]
theorem star_any {p : Pos} {env : Env} : ∀ {es : List Expr}, es.all plainE = true → (backTo p (starEach es env)).any (·.1) = false
  | [], _ => rfl
  | e :: es, h => by
    have h := Bool.and_eq_true_iff.mp (show (plainE e && es.all plainE) = true from h)
    rw [star_cons h.1]
    show (false || (backTo p (starEach es env)).any (·.1)) = false
    rw [star_any h.2]; rfl
/-! ### heaps, data -/
/-- no tuple is lost -/
def Tx (H H' : Hp) : Prop := ∀ a xs, Rd H a (.tup xs) → Rd H' a (.tup xs)
theorem Tx.refl (H : Hp) : Tx H H := fun _ _ h => h
theorem Tx.trans {H H1 H2 : Hp} (a : Tx H H1) (b : Tx H1 H2) : Tx H H2 := fun c xs h => b c xs (a c xs h)
theorem same_tx {H H' : Hp} (e : Same H H') : Tx H H' := fun a xs h => by
  rcases h with h | ⟨o, h⟩
  · exact .inl (e _ _ h)
  · exact .inr ⟨o, e _ _ h⟩
theorem same_new {H : Hp} {p : Addr} {o : HO} (h : H p = none) : Same H (upd H p o) := fun b x e => by
  rw [upd_ne (ne_of_none e h)]
  exact e
/-- an object that H does not know may change -/
theorem same_mut {H H' : Hp} {p : Addr} {o : HO} (e : Same H H') (h : H p = none) : Same H (upd H' p o) := fun a u ha => by
  rw [upd_ne (ne_of_none ha h)]
  exact e a u ha
theorem tx_mut {H H' : Hp} {p : Addr} {o u : HO} (e : Tx H H') (h : H' p = some u) (m : Mut (some u)) : Tx H (upd H' p o) := fun a xs ha => by
  have hp : a ≠ p := fun z => by
    subst z
    rcases e _ _ ha with q | ⟨o', q⟩
    · rw [h] at q; cases q; exact m
    · rw [h] at q; cases q; exact m
  rcases e _ _ ha with q | ⟨o', q⟩
  · exact .inl (by rw [upd_ne hp]; exact q)
  · exact .inr ⟨o', by rw [upd_ne hp]; exact q⟩
theorem same_seqT {K : PySem.W.Frag} {H H' : Hp} {a : Addr} {xs : List V} (e : Tx H H') (h : SqT K H a xs) : SqT K H' a xs := by
  rcases h with h | h
  · exact .inl (e _ _ h)
  · exact .inr h
/-! no list, no dict in it -/
mutual
def imm : PyData → Bool
  | .none => true
  | .bool _ => true
  | .int _ => true
  | .str _ => true
  | .tuple ds => immAll ds
  | .list _ => false
  | .dict _ => false
def immAll : List PyData → Bool
  | [] => true
  | d :: ds => imm d && immAll ds
end
theorem immAll_iff : ∀ {ds : List PyData}, immAll ds = true ↔ ∀ d ∈ ds, imm d = true
  | [] => by simp [immAll]
  | d :: ds => by simp [immAll, immAll_iff (ds := ds)]
section
variable {K : PySem.W.Frag} {H H' : Hp}
mutual
theorem dp_same (e : Same H H') : ∀ (d : PyData) (v : V), Dp K H v d → Dp K H' v d
  | .none, _, h => by cases h; exact .non
  | .bool b, _, h => by cases h; exact .bl b
  | .int i, _, h => by cases h; exact .int i
  | .str x, _, h => by cases h; exact .str x
  | .list ds, _, h => by
    cases h with
    | lst hs ha => exact .lst (e.seq hs) (dpAll_same e ds _ ha)
  | .tuple ds, _, h => by
    cases h with
    | tup hs ha => exact .tup (same_seqT (same_tx e) hs) (dpAll_same e ds _ ha)
  | .dict _, _, h => by cases h
theorem dpAll_same (e : Same H H') : ∀ (ds : List PyData) (vs : List V), DpAll K H vs ds → DpAll K H' vs ds
  | [], _, h => by cases h; exact .nil
  | d :: ds, _, h => by
    cases h with
    | cons h1 h2 => exact .cons (dp_same e d _ h1) (dpAll_same e ds _ h2)
end
mutual
theorem dp_tx (e : Tx H H') : ∀ (d : PyData) (v : V), imm d = true → Dp K H v d → Dp K H' v d
  | .none, _, _, h => by cases h; exact .non
  | .bool b, _, _, h => by cases h; exact .bl b
  | .int i, _, _, h => by cases h; exact .int i
  | .str x, _, _, h => by cases h; exact .str x
  | .list ds, _, i, h => by simp [imm] at i
  | .tuple ds, _, i, h => by
    cases h with
    | tup hs ha => exact .tup (same_seqT e hs) (dpAll_tx e ds _ (by simpa [imm] using i) ha)
  | .dict _, _, _, h => by cases h
theorem dpAll_tx (e : Tx H H') : ∀ (ds : List PyData) (vs : List V), immAll ds = true → DpAll K H vs ds → DpAll K H' vs ds
  | [], _, _, h => by cases h; exact .nil
  | d :: ds, _, i, h => by
    cases h with
    | cons h1 h2 =>
      have i' : imm d = true ∧ immAll ds = true := by simpa [immAll] using i
      exact .cons (dp_tx e d _ i'.1 h1) (dpAll_tx e ds _ i'.2 h2)
end
theorem _root_.L2.Dp.same {v : V} {d : PyData} (h : Dp K H v d) (e : Same H H') : Dp K H' v d := dp_same e d v h
theorem _root_.L2.Dp.tx {v : V} {d : PyData} (h : Dp K H v d) (e : Tx H H') (i : imm d = true := by rfl) : Dp K H' v d := dp_tx e d v i h
theorem _root_.L2.DpAll.same {vs : List V} {ds : List PyData} (h : DpAll K H vs ds) (e : Same H H') : DpAll K H' vs ds := dpAll_same e ds vs h
theorem _root_.L2.DpAll.tx {vs : List V} {ds : List PyData} (h : DpAll K H vs ds) (e : Tx H H') (i : immAll ds = true) : DpAll K H' vs ds := dpAll_tx e ds vs i h
theorem dp_int {v : V} {i : Int} (h : Dp K H v (.int i)) : v = .int i := by cases h; rfl
theorem dp_str {v : V} {x : Str} (h : Dp K H v (.str x)) : v = .str x := by cases h; rfl
theorem dp_bool {v : V} {b : Bool} (h : Dp K H v (.bool b)) : v = .bl b := by cases h; rfl
theorem dp_none {v : V} (h : Dp K H v .none) : v = .non := by cases h; rfl
theorem dp_tup {v : V} {ds : List PyData} (h : Dp K H v (.tuple ds)) : ∃ a xs, v = .ref a ∧ SqT K H a xs ∧ DpAll K H xs ds := by
  cases h with
  | tup hs ha => exact ⟨_, _, rfl, hs, ha⟩
theorem dp_lst {v : V} {ds : List PyData} (h : Dp K H v (.list ds)) : ∃ a xs, v = .ref a ∧ SqL K H a xs ∧ DpAll K H xs ds := by
  cases h with
  | lst hs ha => exact ⟨_, _, rfl, hs, ha⟩
theorem dpAll_len : ∀ {vs : List V} {ds : List PyData}, DpAll K H vs ds → vs.length = ds.length
  | _, _, .nil => rfl
  | _, _, .cons _ t => congrArg Nat.succ (dpAll_len t)
theorem dpAll_get : ∀ {vs : List V} {ds : List PyData}, DpAll K H vs ds → ∀ {i : Nat} {x : V}, vs[i]? = some x → ∃ d, ds[i]? = some d ∧ Dp K H x d
  | _, _, .nil, _, _, e => by simp at e
  | _, _, .cons h t, 0, x, e => by
    simp at e
    subst e
    exact ⟨_, rfl, h⟩
  | _, _, .cons h t, i + 1, x, e => by
    obtain ⟨d, e1, e2⟩ := dpAll_get t (i := i) (x := x) (by simpa using e)
    exact ⟨d, by simpa using e1, e2⟩
theorem dpAll_at : ∀ {vs : List V} {ds : List PyData}, DpAll K H vs ds → ∀ {i : Nat} {d : PyData}, ds[i]? = some d → ∃ x, vs[i]? = some x ∧ Dp K H x d
  | _, _, .nil, _, _, e => by simp at e
  | _, _, .cons h t, 0, x, e => by
    simp at e
    subst e
    exact ⟨_, rfl, h⟩
  | _, _, .cons h t, i + 1, x, e => by
    obtain ⟨d, e1, e2⟩ := dpAll_at t (i := i) (d := x) (by simpa using e)
    exact ⟨d, by simpa using e1, e2⟩
theorem dpAll_app : ∀ {vs us : List V} {ds es : List PyData}, DpAll K H vs ds → DpAll K H us es → DpAll K H (vs ++ us) (ds ++ es)
  | _, _, _, _, .nil, b => b
  | _, _, _, _, .cons h t, b => .cons h (dpAll_app t b)
theorem dpAll_drop : ∀ {vs : List V} {ds : List PyData} (n : Nat), DpAll K H vs ds → DpAll K H (vs.drop n) (ds.drop n)
  | _, _, 0, r => r
  | _, _, _ + 1, .nil => .nil
  | _, _, n + 1, .cons _ t => dpAll_drop n t
theorem dpAll_take : ∀ {vs : List V} {ds : List PyData} (n : Nat), DpAll K H vs ds → DpAll K H (vs.take n) (ds.take n)
  | _, _, 0, _ => .nil
  | _, _, _ + 1, .nil => .nil
  | _, _, n + 1, .cons r t => .cons r (dpAll_take n t)
theorem dpAll_set {x : V} {d : PyData} (r : Dp K H x d) : ∀ {vs : List V} {ds : List PyData} (i : Nat), DpAll K H vs ds → DpAll K H (vs.set i x) (ds.set i d)
  | _, _, _, .nil => .nil
  | _, _, 0, .cons _ t => .cons r t
  | _, _, i + 1, .cons q t => .cons q (dpAll_set r i t)
theorem dpAll_ints {vs : List V} {ns : List Int} (h : DpAll K H vs (ns.map .int)) : vs = ns.map .int := by
  induction ns generalizing vs with
  | nil => cases h; rfl
  | cons n ns ih => cases h with
    | cons h1 h2 => rw [dp_int h1, ih h2]; rfl
theorem dpAll_strs {vs : List V} {ns : List Str} (h : DpAll K H vs (ns.map .str)) : vs = ns.map .str := by
  induction ns generalizing vs with
  | nil => cases h; rfl
  | cons n ns ih => cases h with
    | cons h1 h2 => rw [dp_str h1, ih h2]; rfl
theorem dpAll_bools {vs : List V} {ns : List Bool} (h : DpAll K H vs (ns.map .bool)) : vs = ns.map .bl := by
  induction ns generalizing vs with
  | nil => cases h; rfl
  | cons n ns ih => cases h with
    | cons h1 h2 => rw [dp_bool h1, ih h2]; rfl
theorem dpAll_ofInts : ∀ (ns : List Int), DpAll K H (ns.map .int) (ns.map .int)
  | [] => .nil
  | n :: ns => .cons (.int n) (dpAll_ofInts ns)
theorem dpAll_ofStrs : ∀ (ns : List Str), DpAll K H (ns.map .str) (ns.map .str)
  | [] => .nil
  | n :: ns => .cons (.str n) (dpAll_ofStrs ns)
theorem dpAll_ofBools : ∀ (ns : List Bool), DpAll K H (ns.map .bl) (ns.map .bool)
  | [] => .nil
  | n :: ns => .cons (.bl n) (dpAll_ofBools ns)
theorem dpAll_nil {vs : List V} (h : DpAll K H vs []) : vs = [] := by cases h; rfl
theorem dpAll_1 {vs : List V} {a : PyData} (h : DpAll K H vs [a]) : ∃ x, vs = [x] ∧ Dp K H x a := by
  cases h with
  | cons h1 h2 => cases h2; exact ⟨_, rfl, h1⟩
theorem dpAll_2 {vs : List V} {a b : PyData} (h : DpAll K H vs [a, b]) : ∃ x y, vs = [x, y] ∧ Dp K H x a ∧ Dp K H y b := by
  cases h with
  | cons h1 h2 => obtain ⟨y, rfl, h3⟩ := dpAll_1 h2; exact ⟨_, _, rfl, h1, h3⟩
theorem dpAll_3 {vs : List V} {a b c : PyData} (h : DpAll K H vs [a, b, c]) : ∃ x y z, vs = [x, y, z] ∧ Dp K H x a ∧ Dp K H y b ∧ Dp K H z c := by
  cases h with
  | cons h1 h2 => obtain ⟨y, z, rfl, h3, h4⟩ := dpAll_2 h2; exact ⟨_, _, _, rfl, h1, h3, h4⟩
theorem dpAll_4 {vs : List V} {a b c d : PyData} (h : DpAll K H vs [a, b, c, d]) : ∃ x y z w, vs = [x, y, z, w] ∧ Dp K H x a ∧ Dp K H y b ∧ Dp K H z c ∧ Dp K H w d := by
  cases h with
  | cons h1 h2 => obtain ⟨y, z, w, rfl, h3, h4, h5⟩ := dpAll_3 h2; exact ⟨_, _, _, _, rfl, h1, h3, h4, h5⟩
end
/-! ### weakest preconditions -/
section
variable {X : Cx} {σ : L2.St} {H : Hp}
structure WE (X : Cx) (e : Expr) (σ : L2.St) (H : Hp) (Q : VK) : Prop where
  run : ∀ (pins : List (Addr × Obj)) (s : Shared), Inv X pins σ H s → wpAny (model X.prog X.w) X.A (eval e X.env) (EP X pins σ Q) X.xe s
instance (X : Cx) (e : Expr) (σ : L2.St) (H : Hp) (Q : VK) : CoeFun (WE X e σ H Q) fun _ => ∀ (pins : List (Addr × Obj)) (s : Shared), Inv X pins σ H s → wpAny (model X.prog X.w) X.A (eval e X.env) (EP X pins σ Q) X.xe s := ⟨WE.run⟩
structure WT (X : Cx) (e : Expr) (σ : L2.St) (H : Hp) (Q : Bool → Hp → Prop) : Prop where
  run : ∀ (pins : List (Addr × Obj)) (s : Shared), Inv X pins σ H s → wpAny (model X.prog X.w) X.A (isTrue e X.env (eval e X.env)) (TP X pins σ Q) X.xe s
instance (X : Cx) (e : Expr) (σ : L2.St) (H : Hp) (Q : Bool → Hp → Prop) : CoeFun (WT X e σ H Q) fun _ => ∀ (pins : List (Addr × Obj)) (s : Shared), Inv X pins σ H s → wpAny (model X.prog X.w) X.A (isTrue e X.env (eval e X.env)) (TP X pins σ Q) X.xe s := ⟨WT.run⟩
structure WW (X : Cx) (e : Expr) (σ : L2.St) (H : Hp) (Q : Bool → Hp → Prop) : Prop where
  run : ∀ (whole : Sem Value) (pins : List (Addr × Obj)) (s : Shared), Inv X pins σ H s → wpAny (model X.prog X.w) X.A (isTrue e X.env whole) (TP X pins σ Q) X.xe s
instance (X : Cx) (e : Expr) (σ : L2.St) (H : Hp) (Q : Bool → Hp → Prop) : CoeFun (WW X e σ H Q) fun _ => ∀ (whole : Sem Value) (pins : List (Addr × Obj)) (s : Shared), Inv X pins σ H s → wpAny (model X.prog X.w) X.A (isTrue e X.env whole) (TP X pins σ Q) X.xe s := ⟨WW.run⟩
structure WA (X : Cx) (es : List Expr) (σ : L2.St) (H : Hp) (Q : List V → Hp → Prop) : Prop where
  run : ∀ (pos : Pos) (pins : List (Addr × Obj)) (s : Shared), Inv X pins σ H s → wpAny (model X.prog X.w) X.A (spliced (backTo pos (starEach es X.env))) (AP X pins σ Q) X.xe s
instance (X : Cx) (es : List Expr) (σ : L2.St) (H : Hp) (Q : List V → Hp → Prop) : CoeFun (WA X es σ H Q) fun _ => ∀ (pos : Pos) (pins : List (Addr × Obj)) (s : Shared), Inv X pins σ H s → wpAny (model X.prog X.w) X.A (spliced (backTo pos (starEach es X.env))) (AP X pins σ Q) X.xe s := ⟨WA.run⟩
structure WS (X : Cx) (st : Stmt) (D : Ends) (σ : L2.St) (H : Hp) : Prop where
  run : ∀ (pins : List (Addr × Obj)) (s : Shared), Inv X pins σ H s → wpAny (model X.prog X.w) X.A (exec st X.env) (SP X pins D) X.xe s
instance (X : Cx) (st : Stmt) (D : Ends) (σ : L2.St) (H : Hp) : CoeFun (WS X st D σ H) fun _ => ∀ (pins : List (Addr × Obj)) (s : Shared), Inv X pins σ H s → wpAny (model X.prog X.w) X.A (exec st X.env) (SP X pins D) X.xe s := ⟨WS.run⟩
structure WSs (X : Cx) (sts : List Stmt) (D : Ends) (σ : L2.St) (H : Hp) : Prop where
  run : ∀ (pins : List (Addr × Obj)) (s : Shared), Inv X pins σ H s → wpAny (model X.prog X.w) X.A (execs sts X.env) (SP X pins D) X.xe s
instance (X : Cx) (sts : List Stmt) (D : Ends) (σ : L2.St) (H : Hp) : CoeFun (WSs X sts D σ H) fun _ => ∀ (pins : List (Addr × Obj)) (s : Shared), Inv X pins σ H s → wpAny (model X.prog X.w) X.A (execs sts X.env) (SP X pins D) X.xe s := ⟨WSs.run⟩
theorem pw (e : Expr) : PE X e (WE X e) := ⟨fun pins s _ _ _ I h => h pins s I⟩
theorem ptw (e : Expr) : PT X e (WT X e) := ⟨fun pins s _ _ _ I h => h pins s I⟩
theorem pww (e : Expr) : PW X e (WW X e) := ⟨fun wh pins s _ _ _ I h => h wh pins s I⟩
theorem paw (es : List Expr) : PA X es (WA X es) := ⟨fun pos pins s _ _ _ I h => h pos pins s I⟩
theorem psw (st : Stmt) : PS X st (WS X st) := ⟨fun pins s _ _ _ I h => h pins s I⟩
theorem pssw (sts : List Stmt) : PSs X sts (WSs X sts) := ⟨fun pins s _ _ _ I h => h pins s I⟩
theorem we_of {e : Expr} {t : TE} {Q : VK} (p : PE X e t) (h : t σ H Q) : WE X e σ H Q := .mk fun pins s I => p.run pins s σ H Q I h
theorem wt_of {e : Expr} {t : TT} {Q : Bool → Hp → Prop} (p : PT X e t) (h : t σ H Q) : WT X e σ H Q := .mk fun pins s I => p.run pins s σ H Q I h
theorem ww_of {e : Expr} {t : TT} {Q : Bool → Hp → Prop} (p : PW X e t) (h : t σ H Q) : WW X e σ H Q := .mk fun wh pins s I => p.run wh pins s σ H Q I h
theorem wa_of {es : List Expr} {t : TA} {Q : List V → Hp → Prop} (p : PA X es t) (h : t σ H Q) : WA X es σ H Q := .mk fun pos pins s I => p.run pos pins s σ H Q I h
theorem ws_of {st : Stmt} {t : TS} {D : Ends} (p : PS X st t) (h : t D σ H) : WS X st D σ H := .mk fun pins s I => p.run pins s σ H D I h
theorem wss_of {sts : List Stmt} {t : TS} {D : Ends} (p : PSs X sts t) (h : t D σ H) : WSs X sts D σ H := .mk fun pins s I => p.run pins s σ H D I h
theorem WE.mono {e : Expr} {Q Q' : VK} (h : WE X e σ H Q) (k : ∀ v H', Q v H' → Q' v H') : WE X e σ H Q' := .mk fun pins s I => thn (h pins s I) fun _ _ ⟨v, H', I', r, q⟩ => ⟨v, H', I', r, k v H' q⟩
theorem WT.mono {e : Expr} {Q Q' : Bool → Hp → Prop} (h : WT X e σ H Q) (k : ∀ v H', Q v H' → Q' v H') : WT X e σ H Q' := .mk fun pins s I => thn (h pins s I) fun b _ ⟨H', I', q⟩ => ⟨H', I', k b H' q⟩
theorem WW.mono {e : Expr} {Q Q' : Bool → Hp → Prop} (h : WW X e σ H Q) (k : ∀ v H', Q v H' → Q' v H') : WW X e σ H Q' := .mk fun wh pins s I => thn (h wh pins s I) fun b _ ⟨H', I', q⟩ => ⟨H', I', k b H' q⟩
theorem WA.mono {es : List Expr} {Q Q' : List V → Hp → Prop} (h : WA X es σ H Q) (k : ∀ v H', Q v H' → Q' v H') : WA X es σ H Q' := .mk fun pos pins s I => thn (h pos pins s I) fun _ _ ⟨v, H', I', r, q⟩ => ⟨v, H', I', r, k v H' q⟩
/-! ### what evaluates to which data -/
def EE (X : Cx) (σ : L2.St) (H : Hp) (e : Expr) (d : PyData) : Prop := ∀ H1, Same H H1 → WE X e σ H1 fun v H2 => Same H1 H2 ∧ Dp X.K H2 v d
def ET (X : Cx) (σ : L2.St) (H : Hp) (e : Expr) (b : Bool) : Prop := ∀ H1, Same H H1 → WT X e σ H1 fun c H2 => Same H1 H2 ∧ c = b
def EW (X : Cx) (σ : L2.St) (H : Hp) (e : Expr) (b : Bool) : Prop := ∀ H1, Same H H1 → WW X e σ H1 fun c H2 => Same H1 H2 ∧ c = b
def EA (X : Cx) (σ : L2.St) (H : Hp) (es : List Expr) (ds : List PyData) : Prop := ∀ H1, Same H H1 → WA X es σ H1 fun vs H2 => Same H1 H2 ∧ DpAll X.K H2 vs ds
/-- a new list of these -/
def EN (X : Cx) (σ : L2.St) (H : Hp) (e : Expr) (ds : List PyData) : Prop := ∀ H1, Same H H1 → WE X e σ H1 fun v H2 => Same H1 H2 ∧ ∃ p xs, v = .ref p ∧ H1 p = none ∧ H2 p = some (.lst xs) ∧ DpAll X.K H2 xs ds
variable {H' : Hp} {e : Expr} {d : PyData} {b : Bool} {ds : List PyData} {es : List Expr}
theorem EE.up (h : EE X σ H e d) (s : Same H H') : EE X σ H' e d := fun H1 s1 => h H1 (s.trans s1)
theorem ET.up (h : ET X σ H e b) (s : Same H H') : ET X σ H' e b := fun H1 s1 => h H1 (s.trans s1)
theorem EA.up (h : EA X σ H es ds) (s : Same H H') : EA X σ H' es ds := fun H1 s1 => h H1 (s.trans s1)
theorem EN.up (h : EN X σ H e ds) (s : Same H H') : EN X σ H' e ds := fun H1 s1 => h H1 (s.trans s1)
theorem EN.ee (h : EN X σ H e ds) : EE X σ H e (.list ds) := fun H1 s1 => (h H1 s1).mono fun v H2 ⟨s2, p, xs, e, _, hp, ha⟩ => ⟨s2, by rw [e]; exact .lst (.of hp) ha⟩
theorem EE.run {Q : VK} (h : EE X σ H e d) (k : ∀ v H1, Same H H1 → Dp X.K H1 v d → Q v H1) : WE X e σ H Q := (h H (Same.refl H)).mono fun v H1 ⟨s, q⟩ => k v H1 s q
theorem ET.run {Q : Bool → Hp → Prop} (h : ET X σ H e b) (k : ∀ H1, Same H H1 → Q b H1) : WT X e σ H Q := (h H (Same.refl H)).mono fun v H1 ⟨s, q⟩ => by rw [q]; exact k H1 s
theorem EN.run {Q : VK} (h : EN X σ H e ds) (k : ∀ p xs H1, Same H H1 → H p = none → H1 p = some (.lst xs) → DpAll X.K H1 xs ds → Q (.ref p) H1) : WE X e σ H Q := (h H (Same.refl H)).mono fun v H1 ⟨s, p, xs, e, hn, hp, ha⟩ => by rw [e]; exact k p xs H1 s hn hp ha
theorem EE.is {d' : PyData} (h : EE X σ H e d) (q : d = d') : EE X σ H e d' := q ▸ h
theorem ET.is {b' : Bool} (h : ET X σ H e b) (q : b = b') : ET X σ H e b' := q ▸ h
theorem EN.is {ds' : List PyData} (h : EN X σ H e ds) (q : ds = ds') : EN X σ H e ds' := q ▸ h
theorem EW.et (h : EW X σ H e b) : ET X σ H e b := fun H1 s1 => .mk fun pins s I => h H1 s1 _ pins s I

/-! ### names, constants -/
theorem ee_var (i : Nat) {x : Str} {v : V} {pos : Pos} (h : σ[i]? = some (some v)) (hd : Dp X.K H v d) (hN : X.N[i]? = some x := by rfl) (hv : Vis X.env.scope x := by first | exact Or.inl rfl | exact Or.inr (Or.inl rfl) | exact Or.inr (Or.inr rfl))
    (hd1 : (x == ("__debug__" : Str)) = false := by decide) (hd2 : (x == ("__classdict__" : Str)) = false := by decide) : EE X σ H (.Name x pos) d := fun H1 s1 => we_of (pe_var hN hv hd1 hd2) ⟨v, h, Same.refl H1, hd.same s1⟩
theorem we_var {Q : VK} (i : Nat) {x : Str} {v : V} {pos : Pos} (h : σ[i]? = some (some v)) (hd : Q v H) (hN : X.N[i]? = some x := by rfl) (hv : Vis X.env.scope x := by first | exact Or.inl rfl | exact Or.inr (Or.inl rfl) | exact Or.inr (Or.inr rfl))
    (hd1 : (x == ("__debug__" : Str)) = false := by decide) (hd2 : (x == ("__classdict__" : Str)) = false := by decide) : WE X (.Name x pos) σ H Q := we_of (pe_var hN hv hd1 hd2) ⟨v, h, hd⟩
theorem ee_int {i j pos} : EE X σ H (.Constant (.int i) j pos) (.int i) := fun H1 _ => we_of pe_int ⟨Same.refl H1, .int i⟩
theorem ee_bool {i j pos} : EE X σ H (.Constant (.bool i) j pos) (.bool i) := fun H1 _ => we_of pe_bl ⟨Same.refl H1, .bl i⟩
theorem ee_none {j pos} : EE X σ H (.Constant .none j pos) .none := fun H1 _ => we_of pe_non ⟨Same.refl H1, .non⟩
theorem ee_str {x j pos} : EE X σ H (.Constant (.str x) j pos) (.str x) := fun H1 _ => we_of pe_str ⟨Same.refl H1, .str x⟩
theorem ee_gstr {x : Str} {z : Str} {pos : Pos} (hm : ∃ t, X.mg x = some (.str z t)) (hg : Gl X x := by rfl) (hd : (x == ("__debug__" : Str)) = false := by decide) : EE X σ H (.Name x pos) (.str z) := fun H1 _ => by
  obtain ⟨t, hm⟩ := hm
  exact we_of (pe_glob (v := .str z) hg hm ⟨t, rfl⟩ hd) ⟨Same.refl H1, .str z⟩

/-! ### arguments -/
theorem ea_nil : EA X σ H [] [] := fun H1 _ => wa_of pa_nil ⟨Same.refl H1, .nil⟩
theorem ea_cons (h : EE X σ H e d) (hr : EA X σ H es ds) (hs : starEach (e :: es) X.env = (false, eval e X.env) :: starEach es X.env := by exact star_cons (by rfl)) : EA X σ H (e :: es) (d :: ds) := fun H1 s1 =>
  wa_of (pa_cons (pw e) (paw es) hs) ((h H1 s1).mono fun v H2 ⟨s2, dv⟩ => (hr H2 (s1.trans s2)).mono fun vs H3 ⟨s3, dvs⟩ => ⟨s2.trans s3, .cons (dv.same s3) dvs⟩)
theorem ea_1 (h : EE X σ H e d) (hs : starEach [e] X.env = (false, eval e X.env) :: starEach [] X.env := by exact star_cons (by rfl)) : EA X σ H [e] [d] := ea_cons h ea_nil hs

/-! ### operators by data -/
def RB (X : Cx) (r : R2) (H : Hp) (da db d : PyData) : Prop := ∀ x y H1 (Q : VK), Same H H1 → Dp X.K H1 x da → Dp X.K H1 y db → (∀ v H2, Same H1 H2 → Dp X.K H2 v d → Q v H2) → r x y H1 Q
variable {a b' : Expr} {da db : PyData} {r : R2} {pos : Pos}
theorem rb_op {t : TE} (p : PE X e t) (hp : t = tOp r (WE X a) (WE X b')) (ha : EE X σ H a da) (hb : EE X σ H b' db) (hr : RB X r H da db d) : EE X σ H e d := fun H1 s1 => by
  subst hp
  exact we_of p ((ha H1 s1).mono fun x H2 ⟨s2, dx⟩ => (hb H2 (s1.trans s2)).mono fun y H3 ⟨s3, dy⟩ => hr x y H3 _ (s1.trans (s2.trans s3)) (dx.same s3) dy fun v H4 s4 dv => ⟨s2.trans (s3.trans s4), dv⟩)
theorem ee_op {op : Operator} (ho : OpR X (binaryOp op) r) (ha : EE X σ H a da) (hb : EE X σ H b' db) (hr : RB X r H da db d) : EE X σ H (.BinOp a op b' pos) d := rb_op (pe_op ho (pw a) (pw b')) rfl ha hb hr
theorem ee_cmp {op : CmpOp} (ho : OpR X (compareOp op) r) (ha : EE X σ H a da) (hb : EE X σ H b' db) (hr : RB X r H da db d) (hm : behindInMarks op b' = false := by first | exact nomark _ | rfl) : EE X σ H (.Compare a [op] [b'] pos) d := rb_op (pe_cmpR ho (pw a) (pw b') hm) rfl ha hb hr
theorem et_cmp {op : CmpOp} {c : Bool} (ho : OpR X (compareOp op) r) (ha : EE X σ H a da) (hb : EE X σ H b' db) (hr : RB X r H da db (.bool c)) (hm : behindInMarks op b' = false := by first | exact nomark _ | rfl) : ET X σ H (.Compare a [op] [b'] pos) c := fun H1 s1 =>
  wt_of (pt_cmpR ho (pw a) (pw b') hm) ((ha H1 s1).mono fun x H2 ⟨s2, dx⟩ => (hb H2 (s1.trans s2)).mono fun y H3 ⟨s3, dy⟩ => hr x y H3 _ (s1.trans (s2.trans s3)) (dx.same s3) dy fun v H4 s4 dv => ⟨c, dp_bool dv, s2.trans (s3.trans s4), rfl⟩)
theorem ee_ix (ho : IxR X r) (ha : EE X σ H a da) (hb : EE X σ H b' db) (hr : RB X r H da db d) (hs : PlainIx b' := by exact fun _ _ => rfl) : EE X σ H (.Subscript a b' pos) d := rb_op (pe_ix ho (pw a) (pw b') hs) rfl ha hb hr
theorem rb_I0 {g : Int → Int → V} {i j : Int} {f : PyData} (h : ∀ H, Dp X.K H (g i j) f) : RB X (rI0 g) H (.int i) (.int j) f := fun x y H1 Q _ dx dy k => ⟨i, j, dp_int dx, dp_int dy, k _ H1 (Same.refl H1) (h H1)⟩
theorem rb_I {C : Int → Int → Prop} {g : Int → Int → V} {i j : Int} {f : PyData} (hc : C i j) (h : ∀ H, Dp X.K H (g i j) f) : RB X (rI C g) H (.int i) (.int j) f := fun x y H1 Q _ dx dy k => ⟨i, j, dp_int dx, dp_int dy, hc, k _ H1 (Same.refl H1) (h H1)⟩
theorem ee_add {i j : Int} (ha : EE X σ H a (.int i)) (hb : EE X σ H b' (.int j)) : EE X σ H (.BinOp a .Add b' pos) (.int (i + j)) := ee_op op_add ha hb (rb_I0 fun _ => .int _)
theorem ee_sub {i j : Int} (ha : EE X σ H a (.int i)) (hb : EE X σ H b' (.int j)) : EE X σ H (.BinOp a .Sub b' pos) (.int (i - j)) := ee_op op_sub ha hb (rb_I0 fun _ => .int _)
theorem ee_mul {i j : Int} (ha : EE X σ H a (.int i)) (hb : EE X σ H b' (.int j)) (hc : CMul i j) : EE X σ H (.BinOp a .Mult b' pos) (.int (i * j)) := ee_op op_mul ha hb (rb_I hc fun _ => .int _)
theorem ee_mod {i j : Int} (ha : EE X σ H a (.int i)) (hb : EE X σ H b' (.int j)) (hc : 0 < j) : EE X σ H (.BinOp a .Mod b' pos) (.int (i % j)) := ee_op op_mod ha hb (rb_I (C := fun _ j => 0 < j) hc fun _ => .int _)
theorem ee_fdiv {i j : Int} (ha : EE X σ H a (.int i)) (hb : EE X σ H b' (.int j)) (hc : CDiv i j) : EE X σ H (.BinOp a .FloorDiv b' pos) (.int (i / j)) := ee_op op_fdiv ha hb (rb_I hc fun _ => .int _)
theorem ee_neg {i : Int} (ha : EE X σ H a (.int i)) : EE X σ H (.UnaryOp .USub a pos) (.int (-i)) := fun H1 s1 => we_of (pe_un un_neg (pw a)) ((ha H1 s1).mono fun x H2 ⟨s2, dx⟩ => ⟨i, dp_int dx, s2, .int _⟩)
theorem ee_lt {i j : Int} (ha : EE X σ H a (.int i)) (hb : EE X σ H b' (.int j)) : EE X σ H (.Compare a [.Lt] [b'] pos) (.bool (decide (i < j))) := ee_cmp op_lt ha hb (rb_I0 fun _ => .bl _)
theorem ee_le {i j : Int} (ha : EE X σ H a (.int i)) (hb : EE X σ H b' (.int j)) : EE X σ H (.Compare a [.LtE] [b'] pos) (.bool (decide (i ≤ j))) := ee_cmp op_le ha hb (rb_I0 fun _ => .bl _)
theorem ee_gt {i j : Int} (ha : EE X σ H a (.int i)) (hb : EE X σ H b' (.int j)) : EE X σ H (.Compare a [.Gt] [b'] pos) (.bool (decide (j < i))) := ee_cmp op_gt ha hb (rb_I0 fun _ => .bl _)
theorem ee_ge {i j : Int} (ha : EE X σ H a (.int i)) (hb : EE X σ H b' (.int j)) : EE X σ H (.Compare a [.GtE] [b'] pos) (.bool (decide (j ≤ i))) := ee_cmp op_ge ha hb (rb_I0 fun _ => .bl _)
theorem et_lt {i j : Int} (ha : EE X σ H a (.int i)) (hb : EE X σ H b' (.int j)) : ET X σ H (.Compare a [.Lt] [b'] pos) (decide (i < j)) := et_cmp op_lt ha hb (rb_I0 fun _ => .bl _)
theorem et_le {i j : Int} (ha : EE X σ H a (.int i)) (hb : EE X σ H b' (.int j)) : ET X σ H (.Compare a [.LtE] [b'] pos) (decide (i ≤ j)) := et_cmp op_le ha hb (rb_I0 fun _ => .bl _)
theorem et_gt {i j : Int} (ha : EE X σ H a (.int i)) (hb : EE X σ H b' (.int j)) : ET X σ H (.Compare a [.Gt] [b'] pos) (decide (j < i)) := et_cmp op_gt ha hb (rb_I0 fun _ => .bl _)
theorem et_ge {i j : Int} (ha : EE X σ H a (.int i)) (hb : EE X σ H b' (.int j)) : ET X σ H (.Compare a [.GtE] [b'] pos) (decide (j ≤ i)) := et_cmp op_ge ha hb (rb_I0 fun _ => .bl _)
/-- == of scalars -/
def scalD : PyData → PyData → Option Bool
  | .int i, .int j => some (decide (i = j))
  | .str i, .str j => some (decide (i = j))
  | .bool i, .bool j => some (decide (i = j))
  | .none, .none => some true
  | .int _, .str _ => some false
  | .str _, .int _ => some false
  | .none, .int _ => some false
  | .none, .str _ => some false
  | .none, .bool _ => some false
  | .int _, .none => some false
  | .str _, .none => some false
  | .bool _, .none => some false
  | .bool _, .str _ => some false
  | .str _, .bool _ => some false
  | _, _ => Option.none
theorem scal_of {x y : V} {c : Bool} (h : scalD da db = some c) (dx : Dp X.K H x da) (dy : Dp X.K H y db) : scal x y = true ∧ decide (x = y) = c := by
  cases da <;> cases db <;> cases dx <;> cases dy <;> simp [scalD] at h <;> subst h <;> simp [scal]
theorem rb_eq {c : Bool} (h : scalD da db = some c) : RB X rEq H da db (.bool c) := fun x y H1 Q _ dx dy k => by
  obtain ⟨h1, h2⟩ := scal_of h dx dy
  exact ⟨h1, by rw [h2]; exact k _ H1 (Same.refl H1) (.bl c)⟩
theorem rb_ne {c : Bool} (h : scalD da db = some c) : RB X rNe H da db (.bool (!c)) := fun x y H1 Q _ dx dy k => by
  obtain ⟨h1, h2⟩ := scal_of h dx dy
  exact ⟨h1, by rw [h2]; exact k _ H1 (Same.refl H1) (.bl _)⟩
theorem ee_eq {c : Bool} (ha : EE X σ H a da) (hb : EE X σ H b' db) (h : scalD da db = some c := by rfl) : EE X σ H (.Compare a [.Eq] [b'] pos) (.bool c) := ee_cmp op_eq ha hb (rb_eq h)
theorem ee_ne {c : Bool} (ha : EE X σ H a da) (hb : EE X σ H b' db) (h : scalD da db = some c := by rfl) : EE X σ H (.Compare a [.NotEq] [b'] pos) (.bool (!c)) := ee_cmp op_ne ha hb (rb_ne h)
theorem et_eq {c : Bool} (ha : EE X σ H a da) (hb : EE X σ H b' db) (h : scalD da db = some c := by rfl) : ET X σ H (.Compare a [.Eq] [b'] pos) c := et_cmp op_eq ha hb (rb_eq h)
theorem et_ne {c : Bool} (ha : EE X σ H a da) (hb : EE X σ H b' db) (h : scalD da db = some c := by rfl) : ET X σ H (.Compare a [.NotEq] [b'] pos) (!c) := et_cmp op_ne ha hb (rb_ne h)
/-- == of data of any depth -/
theorem rb_eqD (h1 : SeqAt.shaped da = true) (h2 : SeqAt.shaped db = true) : RB X (rEqD X.K) H da db (.bool (PyData.eqv da db)) := fun x y H1 Q _ dx dy k => ⟨da, db, dx, dy, h1, h2, k _ H1 (Same.refl H1) (.bl _)⟩
theorem rb_neD (h1 : SeqAt.shaped da = true) (h2 : SeqAt.shaped db = true) : RB X (rNeD X.K) H da db (.bool (!PyData.eqv da db)) := fun x y H1 Q _ dx dy k => ⟨da, db, dx, dy, h1, h2, k _ H1 (Same.refl H1) (.bl _)⟩
/-- is None -/
def isNoneD : PyData → Bool
  | .none => true
  | _ => false
theorem rb_isN : RB X (fun x y H Q => y = .non ∧ Q (.bl (decide (x = .non))) H) H da .none (.bool (isNoneD da)) := fun x y H1 Q _ dx dy k => ⟨dp_none dy, by
  have e : decide (x = V.non) = isNoneD da := by cases dx <;> simp [isNoneD]
  rw [e]
  exact k _ H1 (Same.refl H1) (.bl _)⟩
theorem rb_notN : RB X (fun x y H Q => y = .non ∧ Q (.bl (!decide (x = .non))) H) H da .none (.bool (!isNoneD da)) := fun x y H1 Q _ dx dy k => ⟨dp_none dy, by
  have e : decide (x = V.non) = isNoneD da := by cases dx <;> simp [isNoneD]
  rw [e]
  exact k _ H1 (Same.refl H1) (.bl _)⟩
theorem ee_isN (ha : EE X σ H a da) (hb : EE X σ H b' .none := by exact ee_none) : EE X σ H (.Compare a [.Is] [b'] pos) (.bool (isNoneD da)) := ee_cmp op_isN ha hb rb_isN
theorem et_isN (ha : EE X σ H a da) (hb : EE X σ H b' .none := by exact ee_none) : ET X σ H (.Compare a [.Is] [b'] pos) (isNoneD da) := et_cmp op_isN ha hb rb_isN
theorem et_notN (ha : EE X σ H a da) (hb : EE X σ H b' .none := by exact ee_none) : ET X σ H (.Compare a [.IsNot] [b'] pos) (!isNoneD da) := et_cmp op_notN ha hb rb_notN
/-! ### and, or, not, if -/
variable {e1 e2 : Expr} {c : Bool} {rest : List Expr}
theorem ew_and1 (h : ET X σ H e1 b) : EW X σ H (.BoolOp .And [e1] pos) b := fun H1 s1 => ww_of (pw_and1 (ptw e1)) (h H1 s1)
theorem ew_or1 (h : ET X σ H e1 b) : EW X σ H (.BoolOp .Or [e1] pos) b := fun H1 s1 => ww_of (pw_or1 (ptw e1)) (h H1 s1)
theorem ew_and (h1 : ET X σ H e1 b) (h2 : b = true → EW X σ H (.BoolOp .And (e2 :: rest) pos) c) : EW X σ H (.BoolOp .And (e1 :: e2 :: rest) pos) (b && c) := fun H1 s1 => ww_of (pw_and (ptw e1) (pww _)) ((h1 H1 s1).mono fun v H2 ⟨s2, q⟩ => by
  subst q
  cases v with
  | true =>
    rw [if_pos rfl]
    exact (h2 rfl H2 (s1.trans s2)).mono fun w H3 ⟨s3, q3⟩ => ⟨s2.trans s3, q3⟩
  | false =>
    rw [if_neg Bool.false_ne_true]
    exact ⟨s2, rfl⟩)
theorem ew_or (h1 : ET X σ H e1 b) (h2 : b = false → EW X σ H (.BoolOp .Or (e2 :: rest) pos) c) : EW X σ H (.BoolOp .Or (e1 :: e2 :: rest) pos) (b || c) := fun H1 s1 => ww_of (pw_or (ptw e1) (pww _)) ((h1 H1 s1).mono fun v H2 ⟨s2, q⟩ => by
  subst q
  cases v with
  | true =>
    rw [if_pos rfl]
    exact ⟨s2, rfl⟩
  | false =>
    rw [if_neg Bool.false_ne_true]
    exact (h2 rfl H2 (s1.trans s2)).mono fun w H3 ⟨s3, q3⟩ => ⟨s2.trans s3, q3⟩)
theorem et_not (h : ET X σ H e1 b) : ET X σ H (.UnaryOp .Not e1 pos) (!b) := fun H1 s1 => wt_of (pt_not (ptw e1)) ((h H1 s1).mono fun v H2 ⟨s2, q⟩ => ⟨s2, by rw [q]⟩)
/-- a call, a name: a value that is a bool, as a test -/
theorem et_val (h : EE X σ H e1 (.bool b)) (he : ∀ whole, isTrue e1 X.env whole = (do let v ← whole; standAt e1.pos; holding [v] (truthy v)) := by intro _; rfl) : ET X σ H e1 b := fun H1 s1 => wt_of (pt_val (pw e1) he) ((h H1 s1).mono fun v H2 ⟨s2, q⟩ => ⟨b, dp_bool q, s2, rfl⟩)
theorem ev_one {op} (h : EE X σ H e1 d) : EE X σ H (.BoolOp op [e1] pos) d := fun H1 s1 => we_of (pe_one (pw e1)) (h H1 s1)
theorem ev_and (h1 : EE X σ H e1 (.bool b)) (h2 : b = true → EE X σ H (.BoolOp .And (e2 :: rest) pos) (.bool c)) : EE X σ H (.BoolOp .And (e1 :: e2 :: rest) pos) (.bool (b && c)) := fun H1 s1 => we_of (pe_and (pw e1) (pw _)) ((h1 H1 s1).mono fun v H2 ⟨s2, q⟩ => ⟨b, dp_bool q, by
  cases b with
  | true =>
    rw [if_pos rfl]
    exact (h2 rfl H2 (s1.trans s2)).mono fun w H3 ⟨s3, q3⟩ => ⟨s2.trans s3, q3⟩
  | false =>
    rw [if_neg Bool.false_ne_true]
    exact ⟨s2, .bl false⟩⟩)
theorem ev_or (h1 : EE X σ H e1 (.bool b)) (h2 : b = false → EE X σ H (.BoolOp .Or (e2 :: rest) pos) (.bool c)) : EE X σ H (.BoolOp .Or (e1 :: e2 :: rest) pos) (.bool (b || c)) := fun H1 s1 => we_of (pe_or (pw e1) (pw _)) ((h1 H1 s1).mono fun v H2 ⟨s2, q⟩ => ⟨b, dp_bool q, by
  cases b with
  | true =>
    rw [if_pos rfl]
    exact ⟨s2, .bl true⟩
  | false =>
    rw [if_neg Bool.false_ne_true]
    exact (h2 rfl H2 (s1.trans s2)).mono fun w H3 ⟨s3, q3⟩ => ⟨s2.trans s3, q3⟩⟩)
theorem ev_not (h : EE X σ H e1 (.bool b)) : EE X σ H (.UnaryOp .Not e1 pos) (.bool (!b)) := fun H1 s1 => we_of (pe_not (pw e1)) ((h H1 s1).mono fun v H2 ⟨s2, q⟩ => ⟨b, dp_bool q, s2, .bl _⟩)
/-! ### displays -/
theorem ee_tup {k : Nat} (h : EA X σ H es ds) (hl : ds.length ≤ 1000 := by simp) : EE X σ H (.Tuple es k pos) (.tuple ds) := fun H1 s1 => we_of (pe_tup (paw es)) ((h H1 s1).mono fun vs H2 ⟨s2, dvs⟩ =>
  ⟨by rw [dpAll_len dvs, sizeLine_eq]; omega, fun p hp => ⟨s2.trans (same_new hp), .tup (.of upd_same) (dvs.same (same_new hp))⟩⟩)
theorem en_lst (h : EA X σ H es ds) (hl : ds.length ≤ 1000 := by simp) : EN X σ H (.List es pos) ds := fun H1 s1 => we_of (pe_lst (paw es)) ((h H1 s1).mono fun vs H2 ⟨s2, dvs⟩ =>
  ⟨by rw [dpAll_len dvs, sizeLine_eq]; omega, fun p hp => ⟨s2.trans (same_new hp), p, vs, rfl, s2.free hp, upd_same, dvs.same (same_new hp)⟩⟩)
/-! ### calls -/
/-- a def's promise over data: P args answer -/
def spF (K : PySem.W.Frag) (P : List PyData → PyData → Prop) : Sp := fun vs H Q _ => ∃ ds r, DpAll K H vs ds ∧ P ds r ∧ ∀ v H', Same H H' → Dp K H' v r → Q v H'
theorem ee_call {k j : Nat} {x : Str} {P : List PyData → PyData → Prop} {p : Pos} (c : Cal X.prog X.w X.K X.mg X.base k x (spF X.K P) []) (hr : Room j X.A) (ha : EA X σ H (e :: es) ds) (hP : P ds d) (hk : k ≤ j := by decide) (hg : Gl X x := by rfl)
    (hdb : (x == ("__debug__" : Str)) = false := by decide) (he : starEach (e :: es) X.env = (false, eval e X.env) :: starEach es X.env := by exact star_cons (by rfl)) (hpl : (backTo pos (starEach es X.env)).any (·.1) = false := by exact star_any (by rfl)) :
    EE X σ H (.Call (.Name x p) (e :: es) [] pos) d := fun H1 s1 => we_of (pe_c c hr hk hg (paw _) hdb he hpl) ((ha H1 s1).mono fun vs H2 ⟨s2, dvs⟩ => by
  rw [List.append_nil]
  exact ⟨ds, d, dvs, hP, fun v H3 s3 dv => ⟨s2.trans s3, dv⟩⟩)
/-- a call of a built-in, by values -/
def RCd (X : Cx) (r : List V → Hp → VK → Prop) (H : Hp) (ds : List PyData) (d : PyData) : Prop := ∀ vs H1 (Q : VK), Same H H1 → DpAll X.K H1 vs ds → (∀ v H2, Same H1 H2 → Dp X.K H2 v d → Q v H2) → r vs H1 Q
theorem ee_cb {r : List V → Hp → VK → Prop} {id : String} {x : Str} {p : Pos} (hc : CallR X (.builtin id) r) (hm : X.mg x = none) (hv : bootBuiltins x = some (.builtin id)) (ha : EA X σ H (e :: es) ds) (hr : RCd X r H ds d) (hg : Gl X x := by rfl) (hn : x ≠ "__name__" := by decide)
    (hdb : (x == ("__debug__" : Str)) = false := by decide) (he : starEach (e :: es) X.env = (false, eval e X.env) :: starEach es X.env := by exact star_cons (by rfl)) (hpl : (backTo pos (starEach es X.env)).any (·.1) = false := by exact star_any (by rfl)) :
    EE X σ H (.Call (.Name x p) (e :: es) [] pos) d := fun H1 s1 => we_of (pe_callB hc hg hm hv (paw _) hn hdb he hpl) ((ha H1 s1).mono fun vs H2 ⟨s2, dvs⟩ => hr vs H2 _ (s1.trans s2) dvs fun v H3 s3 dv => ⟨s2.trans s3, dv⟩)
theorem ee_cty {r : List V → Hp → VK → Prop} {T : String} {x : Str} {p : Pos} (hc : CallR X (.type T) r) (hm : X.mg x = none) (hv : bootBuiltins x = some (.type T)) (ha : EA X σ H (e :: es) ds) (hr : RCd X r H ds d) (hg : Gl X x := by rfl) (hn : x ≠ "__name__" := by decide)
    (hdb : (x == ("__debug__" : Str)) = false := by decide) (he : starEach (e :: es) X.env = (false, eval e X.env) :: starEach es X.env := by exact star_cons (by rfl)) (hpl : (backTo pos (starEach es X.env)).any (·.1) = false := by exact star_any (by rfl)) :
    EE X σ H (.Call (.Name x p) (e :: es) [] pos) d := fun H1 s1 => we_of (pe_callTy hc hg hm hv (paw _) hn hdb he hpl) ((ha H1 s1).mono fun vs H2 ⟨s2, dvs⟩ => hr vs H2 _ (s1.trans s2) dvs fun v H3 s3 dv => ⟨s2.trans s3, dv⟩)
/-- .. that gives a new list -/
def RCn (X : Cx) (r : List V → Hp → VK → Prop) (H : Hp) (ds es : List PyData) : Prop := ∀ vs H1 (Q : VK), Same H H1 → DpAll X.K H1 vs ds → (∀ p xs H2, Same H1 H2 → H1 p = none → H2 p = some (.lst xs) → DpAll X.K H2 xs es → Q (.ref p) H2) → r vs H1 Q
theorem en_cb {r : List V → Hp → VK → Prop} {ls : List PyData} {id : String} {x : Str} {p : Pos} (hc : CallR X (.builtin id) r) (hm : X.mg x = none) (hv : bootBuiltins x = some (.builtin id)) (ha : EA X σ H (e :: es) ds) (hr : RCn X r H ds ls) (hg : Gl X x := by rfl) (hn : x ≠ "__name__" := by decide)
    (hdb : (x == ("__debug__" : Str)) = false := by decide) (he : starEach (e :: es) X.env = (false, eval e X.env) :: starEach es X.env := by exact star_cons (by rfl)) (hpl : (backTo pos (starEach es X.env)).any (·.1) = false := by exact star_any (by rfl)) :
    EN X σ H (.Call (.Name x p) (e :: es) [] pos) ls := fun H1 s1 => we_of (pe_callB hc hg hm hv (paw _) hn hdb he hpl) ((ha H1 s1).mono fun vs H2 ⟨s2, dvs⟩ => hr vs H2 _ (s1.trans s2) dvs fun p xs H3 s3 hn hp ha => ⟨s2.trans s3, p, xs, rfl, s2.free hn, hp, ha⟩)
theorem en_cty {r : List V → Hp → VK → Prop} {ls : List PyData} {T : String} {x : Str} {p : Pos} (hc : CallR X (.type T) r) (hm : X.mg x = none) (hv : bootBuiltins x = some (.type T)) (ha : EA X σ H (e :: es) ds) (hr : RCn X r H ds ls) (hg : Gl X x := by rfl) (hn : x ≠ "__name__" := by decide)
    (hdb : (x == ("__debug__" : Str)) = false := by decide) (he : starEach (e :: es) X.env = (false, eval e X.env) :: starEach es X.env := by exact star_cons (by rfl)) (hpl : (backTo pos (starEach es X.env)).any (·.1) = false := by exact star_any (by rfl)) :
    EN X σ H (.Call (.Name x p) (e :: es) [] pos) ls := fun H1 s1 => we_of (pe_callTy hc hg hm hv (paw _) hn hdb he hpl) ((ha H1 s1).mono fun vs H2 ⟨s2, dvs⟩ => hr vs H2 _ (s1.trans s2) dvs fun p xs H3 s3 hn hp ha => ⟨s2.trans s3, p, xs, rfl, s2.free hn, hp, ha⟩)
end
end K10
set_option maxHeartbeats 4000000
/-! The data layer, 2: what is walked, comprehensions, blocks, loops. -/
namespace K10
open PySem PySem.Spec PyProof.Rows L2
open C8 (Cal pe_c)
section
variable {X : Cx} {σ : L2.St} {H H' : Hp}
/-! ### what is walked -/
def SRCt (X : Cx) (wi : TI) (σ : L2.St) (H : Hp) (ds : List PyData) : Prop := ∀ H1, Same H H1 → ∀ R : It → Hp → Prop,
  (∀ J H2 G Y, Same H1 H2 → Walk J ds.length G Y → (∀ H3, Same H2 H3 → G H3) → (∀ i H3 x H4, i < ds.length → Same H2 H3 → Y i H3 x H4 → Same H3 H4 ∧ ∃ d, ds[i]? = some d ∧ Dp X.K H4 x d) → R J H2) → wi σ H1 R
/-- what stands in H is walked: the body may change what H does not know -/
def SRVt (X : Cx) (wi : TI) (σ : L2.St) (H : Hp) (ds : List PyData) : Prop := ∀ H1, Same H H1 → ∀ R : It → Hp → Prop,
  (∀ J H2 G Y, Same H1 H2 → Walk J ds.length G Y → (∀ H3, Same H H3 → G H3) → (∀ i H3 x H4, i < ds.length → Same H H3 → Y i H3 x H4 → Same H3 H4 ∧ ∃ d, ds[i]? = some d ∧ Dp X.K H4 x d) → R J H2) → wi σ H1 R
def SRC (X : Cx) (σ : L2.St) (H : Hp) (tg iter : Expr) (ds : List PyData) : Prop := ∃ wi, PI X tg iter wi ∧ SRCt X wi σ H ds
def SRV (X : Cx) (σ : L2.St) (H : Hp) (tg iter : Expr) (ds : List PyData) : Prop := ∃ wi, PI X tg iter wi ∧ SRVt X wi σ H ds
theorem SRV.src {tg iter : Expr} {ds : List PyData} (h : SRV X σ H tg iter ds) : SRC X σ H tg iter ds := by
  obtain ⟨wi, p, q⟩ := h
  exact ⟨wi, p, fun H1 s1 R k => q H1 s1 R fun J H2 G Y s2 w g y => k J H2 G Y s2 w (fun H3 s3 => g H3 (s1.trans (s2.trans s3))) fun i H3 x H4 hi s3 yy => y i H3 x H4 hi (s1.trans (s2.trans s3)) yy⟩
variable {tg e : Expr} {ds : List PyData}
theorem yat {xs : List V} {i : Nat} {H2 H3 : Hp} {x : V} {H4 : Hp} (ha : DpAll X.K H2 xs ds) (s : Same H2 H3) (y : YAt xs i H3 x H4) : Same H3 H4 ∧ ∃ d, ds[i]? = some d ∧ Dp X.K H4 x d := by
  obtain ⟨rfl, hx⟩ := y
  obtain ⟨d, e1, e2⟩ := dpAll_get ha hx
  exact ⟨Same.refl _, d, e1, e2.same s⟩
theorem src_tup (h : EE X σ H e (.tuple ds)) : SRC X σ H tg e ds := ⟨_, pi_tup (pw e), fun H1 s1 R k => (h H1 s1).mono fun v H2 ⟨s2, dv⟩ => by
  obtain ⟨a, xs, rfl, hs, ha⟩ := dp_tup dv
  have hl := dpAll_len ha
  refine ⟨a, rfl, ⟨xs, hs⟩, k _ H2 _ _ s2 (hl ▸ walk_tup) (fun H3 s3 => same_seqT (same_tx s3) hs) fun i H3 x H4 _ s3 y => yat ha s3 y⟩⟩
theorem src_lst (h : EE X σ H e (.list ds)) : SRC X σ H tg e ds := ⟨_, pi_list (pw e), fun H1 s1 R k => (h H1 s1).mono fun v H2 ⟨s2, dv⟩ => by
  obtain ⟨a, xs, rfl, hs, ha⟩ := dp_lst dv
  have hl := dpAll_len ha
  refine ⟨a, rfl, ⟨xs, hs⟩, k _ H2 _ _ s2 (hl ▸ walk_list) (fun H3 s3 => s3.seq hs) fun i H3 x H4 _ s3 y => yat ha s3 y⟩⟩
theorem srv_tup (i : Nat) {x : Str} {v : V} {pos : Pos} (h : σ[i]? = some (some v)) (hd : Dp X.K H v (.tuple ds)) (hN : X.N[i]? = some x := by rfl) (hv : Vis X.env.scope x := by first | exact Or.inl rfl | exact Or.inr (Or.inl rfl) | exact Or.inr (Or.inr rfl))
    (hd1 : (x == ("__debug__" : Str)) = false := by decide) (hd2 : (x == ("__classdict__" : Str)) = false := by decide) : SRV X σ H tg (.Name x pos) ds := by
  obtain ⟨a, xs, rfl, hs, ha⟩ := dp_tup hd
  have hl := dpAll_len ha
  exact ⟨_, pi_tup (pe_var hN hv hd1 hd2), fun H1 s1 R k => ⟨.ref a, h, a, rfl, ⟨xs, same_seqT (same_tx s1) hs⟩, k _ H1 _ _ (Same.refl H1) (hl ▸ walk_tup) (fun H3 s3 => same_seqT (same_tx s3) hs) fun i H3 x H4 _ s3 y => yat ha s3 y⟩⟩
theorem srv_lst (i : Nat) {x : Str} {v : V} {pos : Pos} (h : σ[i]? = some (some v)) (hd : Dp X.K H v (.list ds)) (hN : X.N[i]? = some x := by rfl) (hv : Vis X.env.scope x := by first | exact Or.inl rfl | exact Or.inr (Or.inl rfl) | exact Or.inr (Or.inr rfl))
    (hd1 : (x == ("__debug__" : Str)) = false := by decide) (hd2 : (x == ("__classdict__" : Str)) = false := by decide) : SRV X σ H tg (.Name x pos) ds := by
  obtain ⟨a, xs, rfl, hs, ha⟩ := dp_lst hd
  have hl := dpAll_len ha
  exact ⟨_, pi_list (pe_var hN hv hd1 hd2), fun H1 s1 R k => ⟨.ref a, h, a, rfl, ⟨xs, s1.seq hs⟩, k _ H1 _ _ (Same.refl H1) (hl ▸ walk_list) (fun H3 s3 => s3.seq hs) fun i H3 x H4 _ s3 y => yat ha s3 y⟩⟩
/-- lo, lo + 1, .. -/
def rangeD (lo : Int) (n : Nat) : List PyData := (List.range n).map fun (i : Nat) => PyData.int (lo + i)
theorem rangeD_len (lo : Int) (n : Nat) : (rangeD lo n).length = n := by unfold rangeD; rw [List.length_map, List.length_range]
theorem rangeD_get {lo : Int} {n i : Nat} (h : i < n) : (rangeD lo n)[i]? = some (.int (lo + i)) := by
  unfold rangeD
  rw [List.getElem?_map, List.getElem?_range h]
  rfl
theorem walk_rangeD (lo : Int) (n : Nat) : Walk (Itr lo n) (rangeD lo n).length (fun _ => True) (YFn fun i => .int (lo + i)) := by
  rw [rangeD_len]
  exact walk_range
theorem mem_rangeD {lo : Int} {n : Nat} {d : PyData} (h : d ∈ rangeD lo n) : ∃ i : Nat, i < n ∧ d = .int (lo + i) := by
  unfold rangeD at h
  obtain ⟨i, hi, e⟩ := List.mem_map.mp h
  exact ⟨i, List.mem_range.mp hi, e.symm⟩
theorem srv_range1 {n : Int} {p pos : Pos} (ha : EE X σ H e (.int n)) (hm : X.mg "range" = none) (hn : n ≤ 100000) (hn0 : 0 ≤ n) (hg : Gl X "range" := by rfl) (hs : starEach [e] X.env = [(false, eval e X.env)] := by exact star_one (by rfl)) : SRV X σ H tg (.Call (.Name "range" p) [e] [] pos) (rangeD 0 n.toNat) :=
  ⟨_, pi_range1 hg hm (pa_cons (pw e) pa_nil hs) hs, fun H1 s1 R k => (ha H1 s1).mono fun v H2 ⟨s2, dv⟩ => ⟨n, by rw [dp_int dv], by omega, by omega,
    k _ H2 _ _ s2 (walk_rangeD 0 n.toNat) (fun _ _ => trivial) fun i H3 x H4 hi _ y => by
      obtain ⟨rfl, rfl⟩ := y
      rw [rangeD_len] at hi
      exact ⟨Same.refl _, _, rangeD_get hi, .int _⟩⟩⟩
theorem srv_range2 {e2 : Expr} {lo n : Int} {p pos : Pos} (ha : EE X σ H e (.int lo)) (hb : EE X σ H e2 (.int n)) (hm : X.mg "range" = none) (hn : n ≤ 100000) (hn0 : -100000 ≤ n) (hl : 0 ≤ lo) (hl1 : lo ≤ 100000) (hg : Gl X "range" := by rfl) (hs : starEach [e, e2] X.env = [(false, eval e X.env), (false, eval e2 X.env)] := by exact star_two (by rfl) (by rfl)) (hs2 : starEach [e2] X.env = [(false, eval e2 X.env)] := by exact star_one (by rfl)) :
    SRV X σ H tg (.Call (.Name "range" p) [e, e2] [] pos) (rangeD lo (n - lo).toNat) :=
  ⟨_, pi_range2 hg hm (pa_cons (pw e) (pa_cons (pw e2) pa_nil hs2) (by rw [hs, hs2])) hs hs2, fun H1 s1 R k => (ha H1 s1).mono fun v H2 ⟨s2, dv⟩ => (hb H2 (s1.trans s2)).mono fun u H3 ⟨s3, du⟩ => ⟨lo, n, by rw [dp_int dv, dp_int du], ⟨by omega, by omega, by omega, by omega⟩,
    k _ H3 _ _ (s2.trans s3) (walk_rangeD lo (n - lo).toNat) (fun _ _ => trivial) fun i H4 x H5 hi _ y => by
      obtain ⟨rfl, rfl⟩ := y
      rw [rangeD_len] at hi
      exact ⟨Same.refl _, _, rangeD_get hi, .int _⟩⟩⟩
theorem srv_rangeN {n : Nat} {p pos : Pos} (ha : EE X σ H e (.int (n : Int))) (hm : X.mg "range" = none) (hn : n ≤ 100000) (hg : Gl X "range" := by rfl) (hs : starEach [e] X.env = [(false, eval e X.env)] := by exact star_one (by rfl)) : SRV X σ H tg (.Call (.Name "range" p) [e] [] pos) ((List.range n).map fun (i : Nat) => PyData.int (i : Int)) := by
  have := srv_range1 (tg := tg) (p := p) (pos := pos) ha hm (by omega) (by omega) hg hs
  unfold rangeD at this
  rw [Int.toNat_natCast] at this
  simpa using this
theorem srv_rangeN2 {e2 : Expr} {lo n : Nat} {p pos : Pos} (ha : EE X σ H e (.int (lo : Int))) (hb : EE X σ H e2 (.int (n : Int))) (hm : X.mg "range" = none) (hn : n ≤ 100000) (hl1 : lo ≤ 100000) (hg : Gl X "range" := by rfl) (hs : starEach [e, e2] X.env = [(false, eval e X.env), (false, eval e2 X.env)] := by exact star_two (by rfl) (by rfl)) (hs2 : starEach [e2] X.env = [(false, eval e2 X.env)] := by exact star_one (by rfl)) :
    SRV X σ H tg (.Call (.Name "range" p) [e, e2] [] pos) ((List.range (n - lo)).map fun (i : Nat) => PyData.int ((lo + i : Nat) : Int)) := by
  have := srv_range2 (tg := tg) (p := p) (pos := pos) ha hb hm (by omega) (by omega) (by omega) (by omega) hg hs hs2
  have e1 : ((n : Int) - (lo : Int)).toNat = n - lo := by omega
  unfold rangeD at this
  rw [e1] at this
  simpa using this
/-- range(n - 1) -/
theorem srv_rangeP {n : Nat} {p pos : Pos} (ha : EE X σ H e (.int ((n : Int) - 1))) (hm : X.mg "range" = none) (hn : n ≤ 100000) (hg : Gl X "range" := by rfl) (hs : starEach [e] X.env = [(false, eval e X.env)] := by exact star_one (by rfl)) : SRV X σ H tg (.Call (.Name "range" p) [e] [] pos) ((List.range (n - 1)).map fun (i : Nat) => PyData.int (i : Int)) := by
  have : SRV X σ H tg (.Call (.Name "range" p) [e] [] pos) (rangeD 0 ((n : Int) - 1).toNat) := ⟨_, pi_range1 hg hm (pa_cons (pw e) pa_nil hs) hs, fun H1 s1 R k => (ha H1 s1).mono fun v H2 ⟨s2, dv⟩ => ⟨(n : Int) - 1, by rw [dp_int dv], by omega, by omega,
    k _ H2 _ _ s2 (walk_rangeD 0 ((n : Int) - 1).toNat) (fun _ _ => trivial) fun i H3 x H4 hi _ y => by
      obtain ⟨rfl, rfl⟩ := y
      rw [rangeD_len] at hi
      exact ⟨Same.refl _, _, rangeD_get hi, .int _⟩⟩⟩
  have e1 : ((n : Int) - 1).toNat = n - 1 := by omega
  unfold rangeD at this
  rw [e1] at this
  simpa using this
/-- the signs of a text -/
def signs (z : Str) : List PyData := z.cps.toList.map fun c => PyData.str ⟨#[c]⟩
theorem signs_len (z : Str) : (signs z).length = z.cps.size := by unfold signs; rw [List.length_map, Array.length_toList]
theorem srv_str {z : Str} (ha : EE X σ H e (.str z)) : SRV X σ H tg e (signs z) := ⟨_, pi_str (pw e), fun H1 s1 R k => (ha H1 s1).mono fun v H2 ⟨s2, dv⟩ => ⟨z, dp_str dv,
    k _ H2 _ _ s2 (by rw [signs_len]; exact walk_str) (fun _ _ => trivial) fun i H3 x H4 hi _ y => by
      obtain ⟨rfl, c, hc, rfl⟩ := y
      refine ⟨Same.refl _, .str ⟨#[c]⟩, ?_, .str _⟩
      unfold signs
      rw [List.getElem?_map, Array.getElem?_toList, hc]
      rfl⟩⟩
/-- enumerate -/
def enumD (ds : List PyData) : List PyData := (List.range ds.length).zipWith (fun (i : Nat) d => PyData.tuple [.int (i : Nat), d]) ds
theorem enumD_len (ds : List PyData) : (enumD ds).length = ds.length := by unfold enumD; simp
theorem enumD_get {ds : List PyData} {i : Nat} {d : PyData} (h : ds[i]? = some d) : (enumD ds)[i]? = some (.tuple [.int (i : Nat), d]) := by
  have hi : i < ds.length := (List.getElem?_eq_some_iff.mp h).1
  unfold enumD
  rw [List.getElem?_zipWith, List.getElem?_range hi, h]
theorem src_enum {elts : List Expr} {kk : Nat} {tpos p pos : Pos} (h : EE X σ H e (.list ds)) (hm : X.mg "enumerate" = none) (hg : Gl X "enumerate" := by rfl) (hs : starEach [e] X.env = [(false, eval e X.env)] := by exact star_one (by rfl)) :
    SRC X σ H (.Tuple elts kk tpos) (.Call (.Name "enumerate" p) [e] [] pos) (enumD ds) := ⟨_, pi_enum hg hm (pa_cons (pw e) pa_nil hs) hs, fun H1 s1 R k => (h H1 s1).mono fun v H2 ⟨s2, dv⟩ => by
  obtain ⟨a, xs, rfl, hs, ha⟩ := dp_lst dv
  have hl := dpAll_len ha
  refine ⟨a, xs, rfl, hs, k _ H2 _ _ s2 (by rw [enumD_len, ← hl]; exact walk_enum) (fun H3 s3 => s3.seq hs) fun i H3 x H4 hi s3 y => ?_⟩
  obtain ⟨T, x1, x2, rfl, hT, rfl, e1, e2⟩ := y
  obtain ⟨d, e3, e4⟩ := dpAll_get ha e2
  cases e1
  exact ⟨same_new hT, _, enumD_get e3, .tup (.of upd_same) (.cons (.int _) (.cons (e4.same (s3.trans (same_new hT))) .nil))⟩⟩

/-! ### comprehensions -/
/-- how a comprehension's items stand while its list at D grows -/
structure Rst (R : Addr → Hp → V → PyData → Prop) : Prop where
  same : ∀ {D H H' x d}, R D H x d → Same H H' → R D H' x d
  chg : ∀ {D H x d xs ys}, R D H x d → H D = some (.lst xs) → R D (upd H D (.lst ys)) x d
structure Rok (K : PySem.W.Frag) (R : Addr → Hp → V → PyData → Prop) : Prop extends Rst R where
  out : ∀ {D H x d}, R D H x d → Dp K H x d
def Rimm (K : PySem.W.Frag) : Addr → Hp → V → PyData → Prop := fun _ H x d => Dp K H x d ∧ imm d = true
theorem rok_imm {K : PySem.W.Frag} : Rok K (Rimm K) := ⟨⟨fun h s => ⟨h.1.same s, h.2⟩, fun h e => ⟨h.1.tx (tx_mut (Tx.refl _) e trivial) h.2, h.2⟩⟩, fun h => h.1⟩
def RAll (R : Hp → V → PyData → Prop) (H : Hp) : List V → List PyData → Prop := Paired (R H)
theorem rall_app {R : Hp → V → PyData → Prop} {x : V} {d : PyData} (r : R H x d) : ∀ {xs : List V} {ds : List PyData}, RAll R H xs ds → RAll R H (xs ++ [x]) (ds ++ [d])
  | _, _, .nil => .cons r .nil
  | _, _, .cons a t => .cons a (rall_app r t)
theorem rall_dp {K : PySem.W.Frag} {R : Hp → V → PyData → Prop} (h : ∀ x d, R H x d → Dp K H x d) : ∀ {xs : List V} {ds : List PyData}, RAll R H xs ds → DpAll K H xs ds
  | _, _, .nil => .nil
  | _, _, .cons a t => .cons (h _ _ a) (rall_dp h t)
def ENt (K : PySem.W.Frag) (t : TE) (σ : L2.St) (H : Hp) (ds : List PyData) : Prop := ∀ H1, Same H H1 → ∀ Q : VK, (∀ p xs H2, Same H1 H2 → H1 p = none → H2 p = some (.lst xs) → DpAll K H2 xs ds → Q (.ref p) H2) → t σ H1 Q
/-- a new list of items that stand so -/
def ENtR (R : Addr → Hp → V → PyData → Prop) (t : TE) (σ : L2.St) (H : Hp) (ds : List PyData) : Prop := ∀ H1, Same H H1 → ∀ Q : VK, (∀ p xs H2, Same H1 H2 → H1 p = none → H2 p = some (.lst xs) → RAll (R p) H2 xs ds → Q (.ref p) H2) → t σ H1 Q
theorem ent_lcR {α : Type} {as : List α} {enc : α → PyData} {wi : TI} {g : TG} {tt : TT} {te : TE} {vs : List Nat} {R : Addr → Hp → V → PyData → Prop} (hR : Rst R) (st : SRCt X wi σ H (as.map enc)) (hz : as.length ≤ 100000) (f : α → Bool) (F : α → PyData)
    (step : ∀ D d x H', d ∈ as → Same H H' → H D = none → H' D ≠ none → Dp X.K H' x (enc d) → ∀ Rr : L2.St → Hp → Prop,
      (∀ σ2, wipe σ2 vs = wipe σ vs → (∀ Q : Bool → Hp → Prop, (∀ H3, Same H' H3 → Q (f d) H3) → tt σ2 H' Q) → (f d = true → ∀ H3, Same H' H3 → ∀ Q : VK, (∀ y H4, Same H3 H4 → R D H4 y (F d) → Q y H4) → te σ2 H3 Q) → Rr σ2 H') → g x (wipe σ vs) H' Rr) :
    ENtR R (tLc wi g tt te vs) σ H ((as.filter f).map F) := fun H1 s1 Q k => st H1 s1 _ fun J H2 G Y s2 w hG hY D hD => by
  have hHD : H D = none := (s1.trans s2).free hD
  refine lc_it w (fun i H' => Same H2 H' ∧ ∃ xs, H' D = some (.lst xs) ∧ RAll (R D) H' xs (((as.take i).filter f).map F)) ⟨same_new hD, [], upd_same, .nil⟩ (fun i H' _ p => hG H' p.1) (fun i x H3 H4 hi p y => ?_) fun H' p => ?_
  · obtain ⟨p1, xs, p2, p3⟩ := p
    obtain ⟨s4, d0, hd0, dx⟩ := hY i H3 x H4 hi p1 y
    rw [List.getElem?_map] at hd0
    obtain ⟨d, hd, rfl⟩ := Option.map_eq_some_iff.mp hd0
    have hmem : d ∈ as := List.mem_of_getElem? hd
    have p4 : H4 D = some (.lst xs) := s4 _ _ p2
    have hlen : xs.length ≤ 100000 := by
      have e1 := Paired.length p3
      rw [List.length_map] at e1
      have e2 := List.length_filter_le f (as.take i)
      rw [List.length_take] at e2
      omega
    have hp3 : ∀ {H5 : Hp}, Same H3 H5 → RAll (R D) H5 xs (((as.take i).filter f).map F) := fun {H5} s5 => Paired.mapP p3 fun a b r => hR.same r s5
    have htk : as.take (i + 1) = as.take i ++ [d] := by rw [List.take_add_one, hd]; rfl
    refine step D d x H4 hmem ((s1.trans s2).trans (p1.trans s4)) hHD (by rw [p4]; simp) dx _ fun σ2 hw ht he => ⟨hw, ht _ fun H5 s5 => ?_⟩
    cases hf : f d with
    | true =>
      rw [if_pos rfl]
      refine he hf H5 s5 _ fun y H6 s6 ry => ?_
      have s36 : Same H3 H6 := s4.trans (s5.trans s6)
      have p6 : H6 D = some (.lst xs) := s36 _ _ p2
      refine ⟨xs, p6, Nat.lt_of_le_of_lt hlen (by decide), same_mut (p1.trans s36) hD, xs ++ [y], upd_same, ?_⟩
      rw [htk, List.filter_append, List.map_append, List.filter_cons, if_pos hf]
      exact rall_app (hR.chg ry p6) (Paired.mapP (hp3 s36) fun a b r => hR.chg r p6)
    | false =>
      rw [if_neg Bool.false_ne_true]
      refine ⟨p1.trans (s4.trans s5), xs, s5 _ _ p4, ?_⟩
      rw [htk, List.filter_append, List.map_append, List.filter_cons, if_neg (by rw [hf]; exact Bool.false_ne_true)]
      show RAll (R D) H5 xs (((as.take i).filter f).map F ++ [])
      rw [List.append_nil]
      exact hp3 (s4.trans s5)
  · obtain ⟨p1, xs, p2, p3⟩ := p
    rw [List.length_map, List.take_length] at p3
    exact k D xs H' (s2.trans p1) (s2.free hD) p2 p3
theorem ent_lc {α : Type} {as : List α} {enc : α → PyData} {wi : TI} {g : TG} {tt : TT} {te : TE} {vs : List Nat} {R : Addr → Hp → V → PyData → Prop} (hR : Rok X.K R) (st : SRCt X wi σ H (as.map enc)) (hz : as.length ≤ 100000) (f : α → Bool) (F : α → PyData)
    (step : ∀ D d x H', d ∈ as → Same H H' → H D = none → H' D ≠ none → Dp X.K H' x (enc d) → ∀ Rr : L2.St → Hp → Prop,
      (∀ σ2, wipe σ2 vs = wipe σ vs → (∀ Q : Bool → Hp → Prop, (∀ H3, Same H' H3 → Q (f d) H3) → tt σ2 H' Q) → (f d = true → ∀ H3, Same H' H3 → ∀ Q : VK, (∀ y H4, Same H3 H4 → R D H4 y (F d) → Q y H4) → te σ2 H3 Q) → Rr σ2 H') → g x (wipe σ vs) H' Rr) :
    ENt X.K (tLc wi g tt te vs) σ H ((as.filter f).map F) := fun H1 s1 Q k => ent_lcR hR.toRst st hz f F step H1 s1 Q fun p xs H2 a b c d => k p xs H2 a b c (rall_dp (fun x d r => hR.out r) d)
/-- in a comprehension's block, whatever its state -/
def EB (X : Cx) (scope : Scope) (σ : L2.St) (H : Hp) (e : Expr) (d : PyData) : Prop := ∀ (s : Shared) (H0 : Hp) (C : Addr) (cl : List (Str × Addr)) (fp : List Addr), EE (X.blk s H0 scope (compEnvC scope cl C X.env) fp) σ H e d
def TBk (X : Cx) (scope : Scope) (σ : L2.St) (H : Hp) (e : Expr) (b : Bool) : Prop := ∀ (s : Shared) (H0 : Hp) (C : Addr) (cl : List (Str × Addr)) (fp : List Addr), ET (X.blk s H0 scope (compEnvC scope cl C X.env) fp) σ H e b
def teB (X : Cx) (scope : Scope) (e : Expr) : TE := fun σ H Q => ∀ (s : Shared) (H0 : Hp) (C : Addr) (cl : List (Str × Addr)) (fp : List Addr), WE (X.blk s H0 scope (compEnvC scope cl C X.env) fp) e σ H Q
def ttB (X : Cx) (scope : Scope) (e : Expr) : TT := fun σ H Q => ∀ (s : Shared) (H0 : Hp) (C : Addr) (cl : List (Str × Addr)) (fp : List Addr), WT (X.blk s H0 scope (compEnvC scope cl C X.env) fp) e σ H Q
theorem pe_teB {scope : Scope} {e : Expr} (s : Shared) (H0 : Hp) (C : Addr) (cl : List (Str × Addr)) (fp : List Addr) : PE (X.blk s H0 scope (compEnvC scope cl C X.env) fp) e (teB X scope e) := ⟨fun pins s' σ H Q I h => h s H0 C cl fp pins s' I⟩
theorem pt_ttB {scope : Scope} {e : Expr} (s : Shared) (H0 : Hp) (C : Addr) (cl : List (Str × Addr)) (fp : List Addr) : PT (X.blk s H0 scope (compEnvC scope cl C X.env) fp) e (ttB X scope e) := ⟨fun pins s' σ H Q I h => h s H0 C cl fp pins s' I⟩
/-- a comprehension that gives a new list of these -/
def LcR (X : Cx) (σ : L2.St) (H : Hp) (elt tg iter : Expr) (ifs : List Expr) (scope : Scope) (ls : List PyData) : Prop := ∃ (own : List (Str × Nat)) (wi : TI) (g : TG) (tt : TT) (te : TE), PI X tg iter wi ∧ BlkOk X.N X.env.scope scope own ∧
  (∀ (s : Shared) (H : Hp) (C : Addr) (cl : List (Str × Addr)) (fp : List Addr), PG (X.blk s H scope (compEnvC scope cl C X.env) fp) tg g) ∧ (∀ (s : Shared) (H : Hp) (C : Addr) (cl : List (Str × Addr)) (fp : List Addr), PTs (X.blk s H scope (compEnvC scope cl C X.env) fp) ifs tt) ∧
  (∀ (s : Shared) (H : Hp) (C : Addr) (cl : List (Str × Addr)) (fp : List Addr), PE (X.blk s H scope (compEnvC scope cl C X.env) fp) elt te) ∧ ENt X.K (tLc wi g tt te (own.map (·.2))) σ H ls
variable {elt iter c : Expr} {ifs : List Expr} {scope : Scope} {own : List (Str × Nat)} {pos : Pos} {ls : List PyData}
theorem en_lc (hN : X.N.Nodup) (h : LcR X σ H elt tg iter ifs scope ls) (hc : X.calm = true := by rfl) (hs : ∀ x, foldedSetIterable iter X.env x = pure x := by intro _; rfl) : EN X σ H (.ListComp elt [⟨tg, iter, ifs, 0⟩] scope pos) ls := by
  obtain ⟨own, wi, g, tt, te, h1, h2, h3, h4, h5, h6⟩ := h
  exact fun H1 s1 => we_of (pe_lc hc hN h1 h2 h3 h4 h5 hs) (h6 H1 s1 _ fun p xs H2 s2 hn hp ha => ⟨s2, p, xs, rfl, hn, hp, ha⟩)
theorem LcR.is {ls' : List PyData} (h : LcR X σ H elt tg iter ifs scope ls) (e : ls = ls') : LcR X σ H elt tg iter ifs scope ls' := e ▸ h
/-- [elt for x in iter if c], x in slot j; the target's rule is the caller's -/
theorem lcr_fm {α : Type} {as : List α} {enc : α → PyData} {R : Addr → Hp → V → PyData → Prop} {g : TG} (hR : Rok X.K R) (own : List (Str × Nat)) (hs : SRC X σ H tg iter (as.map enc)) (ok : BlkOk X.N X.env.scope scope own) (hg : ∀ (s : Shared) (H : Hp) (C : Addr) (cl : List (Str × Addr)) (fp : List Addr), PG (X.blk s H scope (compEnvC scope cl C X.env) fp) tg g)
    (f : α → Bool) (F : α → PyData) (hz : as.length ≤ 100000)
    (step : ∀ D d x H', d ∈ as → Same H H' → H D = none → H' D ≠ none → Dp X.K H' x (enc d) → ∀ Rr : L2.St → Hp → Prop,
      (∀ σ2, wipe σ2 (own.map (·.2)) = wipe σ (own.map (·.2)) → TBk X scope σ2 H' c (f d) → (f d = true → ∀ H3, Same H' H3 → ∀ (s : Shared) (H0 : Hp) (C : Addr) (cl : List (Str × Addr)) (fp : List Addr), WE (X.blk s H0 scope (compEnvC scope cl C X.env) fp) elt σ2 H3 fun y H4 => Same H3 H4 ∧ R D H4 y (F d)) → Rr σ2 H') → g x (wipe σ (own.map (·.2))) H' Rr) :
    LcR X σ H elt tg iter [c] scope ((as.filter f).map F) := by
  obtain ⟨wi, p, q⟩ := hs
  refine ⟨own, wi, g, ttB X scope c, teB X scope elt, p, ok, hg, fun s H C cl fp => pts_one (pt_ttB s H C cl fp), fun s H C cl fp => pe_teB s H C cl fp, ent_lc hR q hz f F fun D d x H' hd s' hn hn' dx Rr k => step D d x H' hd s' hn hn' dx Rr fun σ2 hw ht he => k σ2 hw (fun Q hq => ?_) fun hf H3 s3 Q hq => ?_⟩
  · exact fun s H0 C cl fp => (ht s H0 C cl fp).run fun H1 s1 => hq H1 s1
  · exact fun s H0 C cl fp => (he hf H3 s3 s H0 C cl fp).mono fun y H4 ⟨s4, r⟩ => hq y H4 s4 r
theorem lcr_m {α : Type} {as : List α} {enc : α → PyData} {R : Addr → Hp → V → PyData → Prop} {g : TG} (hR : Rok X.K R) (own : List (Str × Nat)) (hs : SRC X σ H tg iter (as.map enc)) (ok : BlkOk X.N X.env.scope scope own) (hg : ∀ (s : Shared) (H : Hp) (C : Addr) (cl : List (Str × Addr)) (fp : List Addr), PG (X.blk s H scope (compEnvC scope cl C X.env) fp) tg g)
    (F : α → PyData) (hz : as.length ≤ 100000)
    (step : ∀ D d x H', d ∈ as → Same H H' → H D = none → H' D ≠ none → Dp X.K H' x (enc d) → ∀ Rr : L2.St → Hp → Prop,
      (∀ σ2, wipe σ2 (own.map (·.2)) = wipe σ (own.map (·.2)) → (∀ H3, Same H' H3 → ∀ (s : Shared) (H0 : Hp) (C : Addr) (cl : List (Str × Addr)) (fp : List Addr), WE (X.blk s H0 scope (compEnvC scope cl C X.env) fp) elt σ2 H3 fun y H4 => Same H3 H4 ∧ R D H4 y (F d)) → Rr σ2 H') → g x (wipe σ (own.map (·.2))) H' Rr) :
    LcR X σ H elt tg iter [] scope (as.map F) := by
  obtain ⟨wi, p, q⟩ := hs
  have z := ent_lc (X := X) (σ := σ) (H := H) (wi := wi) (g := g) (tt := tYes) (te := teB X scope elt) (vs := own.map (·.2)) hR q hz (fun _ => true) F fun D d x H' hd s' hn hn' dx Rr k => step D d x H' hd s' hn hn' dx Rr fun σ2 hw he => k σ2 hw (fun Q hq => hq H' (Same.refl H')) fun hf H3 s3 Q hq => fun s H0 C cl fp => (he H3 s3 s H0 C cl fp).mono fun y H4 ⟨s4, r⟩ => hq y H4 s4 r
  rw [List.filter_eq_self.mpr fun _ _ => rfl] at z
  exact ⟨own, wi, g, tYes, teB X scope elt, p, ok, hg, fun s H C cl fp => pts_nil, fun s H C cl fp => pe_teB s H C cl fp, z⟩
/-- [elt for x in iter], the items' standing told -/
theorem we_lcm {α : Type} {as : List α} {enc : α → PyData} {R : Addr → Hp → V → PyData → Prop} {g : TG} {Q : VK} (hN : X.N.Nodup) (hR : Rst R) (own : List (Str × Nat)) (hs : SRC X σ H tg iter (as.map enc)) (ok : BlkOk X.N X.env.scope scope own) (hg : ∀ (s : Shared) (H : Hp) (C : Addr) (cl : List (Str × Addr)) (fp : List Addr), PG (X.blk s H scope (compEnvC scope cl C X.env) fp) tg g)
    (F : α → PyData) (hz : as.length ≤ 100000)
    (step : ∀ D d x H', d ∈ as → Same H H' → H D = none → H' D ≠ none → Dp X.K H' x (enc d) → ∀ Rr : L2.St → Hp → Prop,
      (∀ σ2, wipe σ2 (own.map (·.2)) = wipe σ (own.map (·.2)) → (∀ H3, Same H' H3 → ∀ (s : Shared) (H0 : Hp) (C : Addr) (cl : List (Str × Addr)) (fp : List Addr), WE (X.blk s H0 scope (compEnvC scope cl C X.env) fp) elt σ2 H3 fun y H4 => Same H3 H4 ∧ R D H4 y (F d)) → Rr σ2 H') → g x (wipe σ (own.map (·.2))) H' Rr)
    (k : ∀ p xs H2, Same H H2 → H p = none → H2 p = some (.lst xs) → RAll (R p) H2 xs (as.map F) → Q (.ref p) H2) (hc : X.calm = true := by rfl) (hfs : ∀ x, foldedSetIterable iter X.env x = pure x := by intro _; rfl) :
    WE X (.ListComp elt [⟨tg, iter, [], 0⟩] scope pos) σ H Q := by
  obtain ⟨wi, p, q⟩ := hs
  have z := ent_lcR (X := X) (σ := σ) (H := H) (wi := wi) (g := g) (tt := tYes) (te := teB X scope elt) (vs := own.map (·.2)) hR q hz (fun _ => true) F fun D d x H' hd s' hn hn' dx Rr k => step D d x H' hd s' hn hn' dx Rr fun σ2 hw he => k σ2 hw (fun Q hq => hq H' (Same.refl H')) fun hf H3 s3 Q hq => fun s H0 C cl fp => (he H3 s3 s H0 C cl fp).mono fun y H4 ⟨s4, r⟩ => hq y H4 s4 r
  rw [List.filter_eq_self.mpr fun _ _ => rfl] at z
  exact we_of (pe_lc hc hN p ok hg (fun s H C cl fp => pts_nil) (fun s H C cl fp => pe_teB s H C cl fp) hfs) (z H (Same.refl H) Q k)
/-- [elt for x in iter], elements without lists -/
theorem lcr_map {α : Type} {as : List α} {enc : α → PyData} {x : Str} {px : Pos} (j : Nat) (hs : SRC X σ H (.Name x px) iter (as.map enc)) (hN : X.N.Nodup)
    (F : α → PyData) (hF : ∀ d ∈ as, imm (F d) = true) (h : ∀ d ∈ as, ∀ v H', Same H H' → Dp X.K H' v (enc d) → EB X scope ((wipe σ [j]).set j (some v)) H' elt (F d)) (hz : as.length ≤ 100000) (ok : BlkOk X.N X.env.scope scope [(x, j)] := by exact blkOk_by rfl) (hg : ∀ (s : Shared) (H : Hp) (C : Addr) (cl : List (Str × Addr)) (fp : List Addr), PG (X.blk s H scope (compEnvC scope cl C X.env) fp) (.Name x px) (gName j) := by exact fun _ _ _ _ _ => pg_name (by assumption) rfl (.inl rfl)) : LcR X σ H elt (.Name x px) iter [] scope (as.map F) :=
  lcr_m rok_imm [(x, j)] hs ok hg F hz fun D d v H' hd s' _ _ dv Rr k => k _ (by
      show ((wipe σ [j]).set j (some v)).set j none = σ.set j none
      rw [List.set_set]
      show (σ.set j none).set j none = _
      rw [List.set_set]) fun H3 s3 s H0 C cl fp => ((h d hd v H' s' dv s H0 C cl fp) H3 s3).mono fun y H4 ⟨s4, dy⟩ => ⟨s4, dy, hF d hd⟩
/-- [elt for x in iter if c] -/
theorem lcr_filt {α : Type} {as : List α} {enc : α → PyData} {x : Str} {px : Pos} (j : Nat) (hs : SRC X σ H (.Name x px) iter (as.map enc)) (hN : X.N.Nodup)
    (f : α → Bool) (F : α → PyData) (hF : ∀ d ∈ as, f d = true → imm (F d) = true) (ht : ∀ d ∈ as, ∀ v H', Same H H' → Dp X.K H' v (enc d) → TBk X scope ((wipe σ [j]).set j (some v)) H' c (f d)) (h : ∀ d ∈ as, f d = true → ∀ v H', Same H H' → Dp X.K H' v (enc d) → EB X scope ((wipe σ [j]).set j (some v)) H' elt (F d)) (hz : as.length ≤ 100000) (ok : BlkOk X.N X.env.scope scope [(x, j)] := by exact blkOk_by rfl) (hg : ∀ (s : Shared) (H : Hp) (C : Addr) (cl : List (Str × Addr)) (fp : List Addr), PG (X.blk s H scope (compEnvC scope cl C X.env) fp) (.Name x px) (gName j) := by exact fun _ _ _ _ _ => pg_name (by assumption) rfl (.inl rfl)) :
    LcR X σ H elt (.Name x px) iter [c] scope ((as.filter f).map F) :=
  lcr_fm rok_imm [(x, j)] hs ok hg f F hz fun D d v H' hd s' _ _ dv Rr k => k _ (by
      show ((wipe σ [j]).set j (some v)).set j none = σ.set j none
      rw [List.set_set]
      show (σ.set j none).set j none = _
      rw [List.set_set]) (ht d hd v H' s' dv) fun hf H3 s3 s H0 C cl fp => ((h d hd hf v H' s' dv s H0 C cl fp) H3 s3).mono fun y H4 ⟨s4, dy⟩ => ⟨s4, dy, hF d hd hf⟩

/-! ### blocks -/
variable {st : Stmt} {rest body orelse : List Stmt} {D : Ends}
theorem wss_nil (h : D.nx σ H) : WSs X [] D σ H := wss_of pss_nil h
theorem wss_cons (h : WS X st { D with nx := WSs X rest D } σ H) : WSs X (st :: rest) D σ H := wss_of (pss_cons (psw st) (pssw rest)) h
theorem ws_ret {d : PyData} (h : EE X σ H e d) (k : ∀ v H1, Same H H1 → Dp X.K H1 v d → D.rt v H1) : WS X (.Return (some e) pos) D σ H := ws_of (ps_ret (pw e)) (h.run k)
theorem wss_ret {d : PyData} (h : EE X σ H e d) (k : ∀ v H1, Same H H1 → Dp X.K H1 v d → D.rt v H1) : WSs X (.Return (some e) pos :: rest) D σ H := wss_cons (ws_ret h k)
theorem wss_set {d : PyData} {x : Str} {pos' : Pos} (i : Nat) (hN : X.N.Nodup) (h : EE X σ H e d) (k : ∀ v H1, Same H H1 → Dp X.K H1 v d → WSs X rest D (σ.set i (some v)) H1) (hi : X.N[i]? = some x := by rfl) (hx : Loc X.env.scope x := by first | exact .inl rfl | exact .inr rfl)
    (hs : swapsWith e (some (.Name x pos')) pos.line X.env = pure false := by rfl) (hf : X.fn x = true ∨ X.env.scope.names.lookup x = some .local := by first | exact .inl rfl | exact .inr rfl) : WSs X (.Assign [.Name x pos'] e pos :: rest) D σ H := wss_cons (ws_of (ps_set hN hi hx (pw e) hs hf) (h.run k))
theorem wss_setW {x : Str} {pos' : Pos} (i : Nat) (hN : X.N.Nodup) (h : WE X e σ H fun v H1 => WSs X rest D (σ.set i (some v)) H1) (hi : X.N[i]? = some x := by rfl) (hx : Loc X.env.scope x := by first | exact .inl rfl | exact .inr rfl)
    (hs : swapsWith e (some (.Name x pos')) pos.line X.env = pure false := by rfl) (hf : X.fn x = true ∨ X.env.scope.names.lookup x = some .local := by first | exact .inl rfl | exact .inr rfl) : WSs X (.Assign [.Name x pos'] e pos :: rest) D σ H := wss_cons (ws_of (ps_set hN hi hx (pw e) hs hf) h)
/-- name = a new list -/
theorem wss_setN {x : Str} {pos' : Pos} (i : Nat) (hN : X.N.Nodup) (h : EN X σ H e ls) (k : ∀ p xs H1, Same H H1 → H p = none → H1 p = some (.lst xs) → DpAll X.K H1 xs ls → WSs X rest D (σ.set i (some (.ref p))) H1) (hi : X.N[i]? = some x := by rfl) (hx : Loc X.env.scope x := by first | exact .inl rfl | exact .inr rfl)
    (hs : swapsWith e (some (.Name x pos')) pos.line X.env = pure false := by rfl) (hf : X.fn x = true ∨ X.env.scope.names.lookup x = some .local := by first | exact .inl rfl | exact .inr rfl) : WSs X (.Assign [.Name x pos'] e pos :: rest) D σ H := wss_cons (ws_of (ps_set hN hi hx (pw e) hs hf) (h.run k))
/-- name = [..], a plain local -/
theorem wss_setLc {y : Str} {py spos : Pos} (i : Nat) (hN : X.N.Nodup) (h : LcR X σ H elt tg iter ifs scope ls) (k : ∀ p xs H1, Same H H1 → H p = none → H1 p = some (.lst xs) → DpAll X.K H1 xs ls → WSs X rest D (σ.set i (some (.ref p))) H1)
    (hy : X.N[i]? = some y := by rfl) (hyl : X.env.scope.names.lookup y = some .local := by rfl) (hsw : swapsWith (.ListComp elt [⟨tg, iter, ifs, 0⟩] scope pos) (some (.Name y py)) spos.line X.env = pure true := by exact sw_true rfl rfl rfl (by decide +kernel)) (hc : X.calm = true := by rfl)
    (hs : ∀ x, foldedSetIterable iter X.env x = pure x := by intro _; rfl) : WSs X (.Assign [.Name y py] (.ListComp elt [⟨tg, iter, ifs, 0⟩] scope pos) spos :: rest) D σ H := by
  obtain ⟨own, wi, g, tt, te, h1, h2, h3, h4, h5, h6⟩ := h
  exact wss_cons (ws_of (ps_setLc hc hN hy hyl hsw h1 h2 h3 h4 h5 hs) (h6 H (Same.refl H) _ fun p xs H2 s2 hn hp ha => k p xs H2 s2 hn hp ha))
theorem ws_if {b : Bool} (h : ET X σ H c b) (h1 : b = true → ∀ H1, Same H H1 → WSs X body D σ H1) (h2 : b = false → ∀ H1, Same H H1 → WSs X orelse D σ H1) : WS X (.If c body orelse pos) D σ H := ws_of (ps_if (ptw c) (pssw body) (pssw orelse)) (h.run fun H1 s1 => by
  cases b with
  | true =>
    rw [if_pos rfl]
    exact h1 rfl H1 s1
  | false =>
    rw [if_neg Bool.false_ne_true]
    exact h2 rfl H1 s1)
theorem wss_if {b : Bool} (h : ET X σ H c b) (h1 : b = true → ∀ H1, Same H H1 → WSs X body { D with nx := WSs X rest D } σ H1) (h2 : b = false → ∀ H1, Same H H1 → WSs X orelse { D with nx := WSs X rest D } σ H1) : WSs X (.If c body orelse pos :: rest) D σ H := wss_cons (ws_if h h1 h2)
/-- an if without else, the body a way out or a way on -/
theorem wss_when {b : Bool} (h : ET X σ H c b) (h1 : b = true → ∀ H1, Same H H1 → WSs X body { D with nx := WSs X rest D } σ H1) (h2 : b = false → ∀ H1, Same H H1 → WSs X rest D σ H1) : WSs X (.If c body [] pos :: rest) D σ H := wss_if h h1 fun hb H1 s1 => wss_nil (h2 hb H1 s1)
theorem wss_expr {d : PyData} (h : EE X σ H e d) (k : ∀ H1, Same H H1 → WSs X rest D σ H1) (hs : swapsWith e none pos.line X.env = pure false := by rfl) : WSs X (.Expr e pos :: rest) D σ H := wss_cons (ws_of (ps_expr (pw e) hs) (h.run fun v H1 s1 _ => k H1 s1))
theorem wss_exprW (h : WE X e σ H fun _ H1 => WSs X rest D σ H1) (hs : swapsWith e none pos.line X.env = pure false := by rfl) : WSs X (.Expr e pos :: rest) D σ H := wss_cons (ws_of (ps_expr (pw e) hs) h)
/-- target = e -/
theorem wss_asg {g : TG} {d : PyData} (h : EE X σ H e d) (hg : PG X tg g) (k : ∀ v H1, Same H H1 → Dp X.K H1 v d → g v σ H1 (WSs X rest D)) (hs : swapsWithSole [tg] e pos.line X.env = pure false := by rfl) (hw : swappedStores [tg] e X.env = pure none := by rfl)
    (h1 : (assignEach [tg] X.env).map (·.2) = [assign tg X.env] := by rfl) : WSs X (.Assign [tg] e pos :: rest) D σ H := wss_cons (ws_of (ps_asg (pw e) hg hs hw h1) (h.run k))
/-- a, b, c = a tuple -/
theorem g3 {i j k : Nat} {v : V} {d1 d2 d3 : PyData} {Q : L2.St → Hp → Prop} (dv : Dp X.K H v (.tuple [d1, d2, d3])) (q : ∀ v1 v2 v3, Dp X.K H v1 d1 → Dp X.K H v2 d2 → Dp X.K H v3 d3 → Q (((σ.set i (some v1)).set j (some v2)).set k (some v3)) H) :
    gTup X.K 3 (gCons (gName i) (gCons (gName j) (gCons (gName k) gNil))) v σ H Q := by
  obtain ⟨a, xs, rfl, hs, ha⟩ := dp_tup dv
  obtain ⟨v1, v2, v3, rfl, h1, h2, h3⟩ := dpAll_3 ha
  exact ⟨a, _, rfl, hs, rfl, v1, _, rfl, v2, _, rfl, v3, _, rfl, rfl, q v1 v2 v3 h1 h2 h3⟩
theorem g2 {i j : Nat} {v : V} {d1 d2 : PyData} {Q : L2.St → Hp → Prop} (dv : Dp X.K H v (.tuple [d1, d2])) (q : ∀ v1 v2, Dp X.K H v1 d1 → Dp X.K H v2 d2 → Q ((σ.set i (some v1)).set j (some v2)) H) :
    gTup X.K 2 (gCons (gName i) (gCons (gName j) gNil)) v σ H Q := by
  obtain ⟨a, xs, rfl, hs, ha⟩ := dp_tup dv
  obtain ⟨v1, v2, rfl, h1, h2⟩ := dpAll_2 ha
  exact ⟨a, _, rfl, hs, rfl, v1, _, rfl, v2, _, rfl, rfl, q v1 v2 h1 h2⟩
/-! ### for -/
/-- over what stands in H0, a heap that does not know what the body changes -/
theorem wss_forV {g : TG} {H0 : Hp} (hp : PassesOwn (model X.prog X.w) X.A X.env X.xe) (b : Same H0 H) (hs : SRV X σ H0 tg iter ds) (hg : PG X tg g) (Pv : Nat → L2.St → Hp → Prop) (h0 : ∀ H1, Same H H1 → Pv 0 σ H1) (hS : ∀ i σ' H', Pv i σ' H' → Same H0 H')
    (step : ∀ i d x σ' H' H'', ds[i]? = some d → Pv i σ' H' → Same H' H'' → Dp X.K H'' x d → g x σ' H'' (WSs X body { D with nx := Pv (i + 1), ct := Pv (i + 1), bk := WSs X rest D })) (hd : ∀ σ' H', Pv ds.length σ' H' → WSs X rest D σ' H')
    (hc : X.calm = true := by rfl) (hfs : ∀ x, foldedSetIterable iter X.env x = pure x := by intro _; rfl) : WSs X (.For tg iter body [] pos :: rest) D σ H := by
  obtain ⟨wi, p, q⟩ := hs
  refine wss_cons (ws_of (ps_for hp hc p hg (pssw body) hfs) (q H b _ fun J H2 G Y s2 w hG hY => ?_))
  exact for_it (D := { D with nx := WSs X rest D }) w Pv (h0 H2 s2) (fun i σ' H' _ pv => hG H' (hS i σ' H' pv)) (fun i x σ' H' H'' hi pv y => by
    obtain ⟨s', d, hd', dx⟩ := hY i H' x H'' hi (hS i σ' H' pv) y
    exact step i d x σ' H' H'' hd' pv s' dx) hd
/-- over something new -/
theorem wss_forC {g : TG} (hp : PassesOwn (model X.prog X.w) X.A X.env X.xe) (hs : SRC X σ H tg iter ds) (hg : PG X tg g)
    (k : ∀ H1, Same H H1 → ∃ Pv : Nat → L2.St → Hp → Prop, Pv 0 σ H1 ∧ (∀ i σ' H', Pv i σ' H' → Same H1 H') ∧
      (∀ i d x σ' H' H'', ds[i]? = some d → Pv i σ' H' → Same H' H'' → Dp X.K H'' x d → g x σ' H'' (WSs X body { D with nx := Pv (i + 1), ct := Pv (i + 1), bk := WSs X rest D })) ∧ (∀ σ' H', Pv ds.length σ' H' → WSs X rest D σ' H'))
    (hc : X.calm = true := by rfl) (hfs : ∀ x, foldedSetIterable iter X.env x = pure x := by intro _; rfl) : WSs X (.For tg iter body [] pos :: rest) D σ H := by
  obtain ⟨wi, p, q⟩ := hs
  refine wss_cons (ws_of (ps_for hp hc p hg (pssw body) hfs) (q H (Same.refl H) _ fun J H2 G Y s2 w hG hY => ?_))
  obtain ⟨Pv, h0, hS, step, hd⟩ := k H2 s2
  exact for_it (D := { D with nx := WSs X rest D }) w Pv h0 (fun i σ' H' _ pv => hG H' (hS i σ' H' pv)) (fun i x σ' H' H'' hi pv y => by
    obtain ⟨s', d, hd', dx⟩ := hY i H' x H'' hi (hS i σ' H' pv) y
    exact step i d x σ' H' H'' hd' pv s' dx) hd
end
/-! ### a def by its promise over data -/
section
variable {P : Program} {w : World} {K : PySem.W.Frag} {mg : Str → Option Value} {base : Heap}
theorem fn_data {x qual : Str} {st : Stmt} {f : Addr} {fd : FuncData} {dvs : List V} {N ps : List Str} {k : Nat} {Pd : List PyData → PyData → Prop} (F : FunD K x qual (defArgs st) (defBody st) (defScope st) dvs [] f fd) (S : FnScope N ps (defScope st)) (hl : ∀ ds r, Pd ds r → ds.length = ps.length)
    (hbody : ∀ (cdv : Value) (A : Around) (outer : List Env) (s : Shared) (H H0 : Hp) (vs : List V) (ds : List PyData) (r : PyData) (D : Ends) (E : XK), Room k (A.deeper (envOfC qual (defScope st) s.heap.objs.size f cdv)) → DpAll K H vs ds → Pd ds r → (∀ v H', Same H H' → Dp K H' v r → D.rt v H') → (r = .none → ∀ σ' H', Same H H' → D.nx σ' H') →
      WSs (cxOf CX0 P w K mg base N qual (defScope st) f cdv A outer s H E).nox (defBody st) D (start N vs) H) : FnOk P w K mg base CX0 (k + 1) f fd ps (spF K Pd) := by
  refine F.ok S (fun vs H Q E ⟨ds, r, hv, hP, _⟩ => (dpAll_len hv).trans (hl ds r hP)) fun cdv A outer s H vs Q E hr h => ?_
  obtain ⟨ds, r, hv, hP, hk⟩ := h
  exact ⟨_, PSs.nox (pssw _), hbody cdv A outer s H H vs ds r _ E hr hv hP hk fun e σ' H' s' => hk _ _ s' (by rw [e]; exact .non)⟩
end
end K10
set_option maxHeartbeats 4000000
/-! sorted(x) of a list, a tuple, a text: the one sorted list of its data. -/
namespace K10
open PySem PySem.Spec PyProof.Rows L2 PySem.W PySem.Calls
section
variable {prog : Program} {w : World} {A : Around} {E : Value → Shared → Prop} {s : Shared} {β : Type} {bs : List β} {enc : β → PyData} {R : Value → β → Prop}
theorem sorted_gen {v : Value} {Q : Value → Shared → Prop}
    (hcol : ∀ (Q' : List Value → Shared → Prop) (E' : Value → Shared → Prop), (∀ (s1 : Shared) (vs : List Value), (∀ b o, s.heap.get? b = some o → s1.heap.get? b = some o) → s1.gens = s.gens → s1.drawn = s.drawn → s1.os = s.os → EachIs R vs bs → Q' vs s1) → wpAny (model prog w) A.in1 (collect v) Q' E' s)
    (er : ∀ (h' : Heap) (vs : List Value), (∀ b o, s.heap.get? b = some o → h'.get? b = some o) → EachIs R vs bs → EachIs (fun v b => ∃ as, Reads h' v (enc b) as) vs bs) (hal : AllAlike (bs.map enc)) (hk : Sortable (bs.map enc)) (hL : bs.length ≤ sizeLine)
    (hu : ∀ b, b ∈ bs → A.units + 2 + (enc b).depth < cLine)
    (h : ∀ (h1 : Heap) (s2 : Shared) (L : Addr) (out : List Value) (c : Nat), (∀ b o, s.heap.get? b = some o → h1.get? b = some o) → (∀ b o, h1.get? b = some o → s2.heap.get? b = some o) → s2.gens = s.gens → s2.drawn = s.drawn → s2.os = s.os → h1.objs.size ≤ L → s2.heap.get? L = some { cls := .type "list", data := .seq out.toArray c } → EachIs R out (bs.mergeSort (dataLe false enc)) → Q (.ref L) s2) :
    wpAny (model prog w) A (call (.builtin "sorted") [v]) Q E s := by
  refine PySem.Calls.call_function_entry kind_sorted plain_sorted entry_sorted (args_sorted1 _) ?_
  unfold Builtin.«sorted»
  refine wpAny_bind (m := checkCount "sorted" 1 1 _) (wpAny_pure ?_)
  refine wpAny_bind (hcol _ _ fun s1 vs k1 g1 d1 o1 hvs => ?_)
  have hvl : vs.length ≤ sizeLine := by rw [hvs.length]; exact hL
  refine wpAny_bind (wpAny_newList ?_ hvl)
  obtain ⟨h1, gs, dr, tk, os⟩ := s1
  have ho : (h1.push (seqObj "list" vs.toArray 0)).get? h1.objs.size = some (seqObj "list" vs.toArray 0) := Heap.get?_push_size _ rfl
  have kk : ∀ b o, s.heap.get? b = some o → (h1.push (seqObj "list" vs.toArray 0)).get? b = some o := fun b o e => Heap.get?_push_of_some _ (k1 b o e)
  have hlt : ∀ {b o}, s.heap.get? b = some o → b ≠ h1.objs.size := fun {b o} e => Nat.ne_of_lt (Heap.lt_size (k1 b o e))
  have er' : EachIs (fun v b => ∃ as, Reads (sortingHeap (h1.push (seqObj "list" vs.toArray 0)) h1.objs.size vs) v (enc b) as) vs bs := er _ vs (fun b o e => sortingHeap_old (hlt e) (kk b o e)) hvs
  refine wpAny_bind (wpAny_holding (wpAny_call_entry slot_list_sort ⟨_, ho, rfl⟩ entry_list_sort (list_sort_vals (s := ⟨h1.push (seqObj "list" vs.toArray 0), gs, dr, tk, os⟩) (κ := dataKind (sortingHeap (h1.push (seqObj "list" vs.toArray 0)) h1.objs.size vs) (bs.map enc)) ho
    (SortsAt.data (s := ⟨sortingHeap (h1.push (seqObj "list" vs.toArray 0)) h1.objs.size vs, gs, dr, tk, os⟩) (each_map (R := fun v d => ∃ as, Reads (sortingHeap (h1.push (seqObj "list" vs.toArray 0)) h1.objs.size vs) v d as) enc er') hal hk (bound_map (A := A.in1.in1) hu)) hvl ⟨_, rfl, ?_⟩) (args_list_sort _)))
  refine wpAny_pure ⟨_, rfl, ?_⟩
  obtain ⟨c, hc⟩ := sortedHeap_at (out := (sortVals (dataKind (sortingHeap (h1.push (seqObj "list" vs.toArray 0)) h1.objs.size vs) (bs.map enc)) false vs vs).toArray) ho
  exact h h1 _ h1.objs.size _ c k1 (fun b o e => (sortedHeap_old (Nat.ne_of_lt (Heap.lt_size e)) (Heap.lt_size (Heap.get?_push_of_some (seqObj "list" vs.toArray 0) e))).trans (Heap.get?_push_of_some _ e)) g1 d1 o1 (Nat.le_refl _) hc (sortVals_data false hvs er' hal)
end
theorem vals_of_get : ∀ {xs : List V} {us : List Value}, xs.length = us.length → (∀ (i : Nat) (x : V) (v : Value), xs[i]? = some x → us[i]? = some v → L2.RelV x v) → Vals xs us
  | [], [], _, _ => .nil
  | x :: xs, u :: us, h, k => .cons (k 0 x u rfl rfl) (vals_of_get (Nat.succ.inj h) fun i x v e1 e2 => k (i + 1) x v (by simpa using e1) (by simpa using e2))
/-! ### by values -/
def itemsD : PyData → Option (List PyData)
  | .list ds => some ds
  | .tuple ds => some ds
  | .str z => some (signs z)
  | _ => none
def sortD (ds : List PyData) : List PyData := ds.mergeSort (dataLe false id)
def rSortD (K : Frag) : List V → Hp → VK → Prop := fun vs H Q => ∃ (x : V) (d : PyData) (ds : List PyData), vs = [x] ∧ Dp K H x d ∧ itemsD d = some ds ∧ AllAlike ds ∧ Sortable ds ∧ ds.length ≤ 100000 ∧ (∀ d ∈ ds, d.depth ≤ 100) ∧
  ∀ p xs H', Same H H' → H p = none → H' p = some (.lst xs) → DpAll K H' xs (sortD ds) → Q (.ref p) H'
theorem each_of_vals {K : Frag} {H : Hp} : ∀ {xs : List V} {its : List Value} {ds : List PyData}, Vals xs its → DpAll K H xs ds → EachIs (fun v (b : V × PyData) => RelV b.1 v ∧ Dp K H b.1 b.2) its (xs.zip ds)
  | _, _, _, .nil, .nil => .nil
  | _, _, _, .cons r t, .cons d e => .cons ⟨r, d⟩ (each_of_vals t e)
theorem vals_of_each {K : Frag} {H : Hp} : ∀ {its : List Value} {bs : List (V × PyData)}, EachIs (fun v (b : V × PyData) => RelV b.1 v ∧ Dp K H b.1 b.2) its bs → Vals (bs.map Prod.fst) its ∧ DpAll K H (bs.map Prod.fst) (bs.map Prod.snd)
  | _, _, .nil => ⟨.nil, .nil⟩
  | _, _, .cons r t => ⟨.cons r.1 (vals_of_each t).1, .cons r.2 (vals_of_each t).2⟩
theorem zip_snd : ∀ {xs : List V} {ds : List PyData}, xs.length = ds.length → (xs.zip ds).map Prod.snd = ds
  | [], [], _ => rfl
  | x :: xs, d :: ds, h => congrArg (d :: ·) (zip_snd (Nat.succ.inj h))
theorem sortD_len (ds : List PyData) : (sortD ds).length = ds.length := List.length_mergeSort ..
section
variable {X : Cx}
theorem cr_sortD_core {pins : List (Addr × Obj)} {s : Shared} {σ : L2.St} {H : Hp} {v : Value} {xs : List V} {ds : List PyData} {Q : VK} (hu : X.A.units + 200 < cLine) (I : Inv X pins σ H s) (ha : DpAll X.K H xs ds)
    (hcol : ∀ (Q' : List Value → Shared → Prop) (E' : Value → Shared → Prop), (∀ (s1 : Shared) (us : List Value), (∀ b o, s.heap.get? b = some o → s1.heap.get? b = some o) → s1.gens = s.gens → s1.drawn = s.drawn → s1.os = s.os → Vals xs us → Q' us s1) → wpAny (model X.prog X.w) X.A.in1 (collect v) Q' E' s)
    (hal : AllAlike ds) (hk : Sortable ds) (hl : ds.length ≤ 100000) (hd : ∀ d ∈ ds, d.depth ≤ 100) (q : ∀ p xs H', Same H H' → H p = none → H' p = some (.lst xs) → DpAll X.K H' xs (sortD ds) → Q (.ref p) H') :
    wpAny (model X.prog X.w) X.A (call (.builtin "sorted") [v]) (EP X pins σ Q) X.xe s := by
  have hz := zip_snd (dpAll_len ha)
  have hzl : (xs.zip ds).length = ds.length := by rw [← List.length_map (f := Prod.snd), hz]
  refine sorted_gen (bs := xs.zip ds) (enc := Prod.snd) (R := fun v (b : V × PyData) => RelV b.1 v ∧ Dp X.K H b.1 b.2) (fun Q' E' k => hcol Q' E' fun s1 us k1 g1 d1 o1 rv => k s1 us k1 g1 d1 o1 (each_of_vals rv ha)) (fun h' vs k e => ?_) (by rw [hz]; exact hal) (by rw [hz]; exact hk)
    (by rw [hzl, sizeLine_eq]; omega) (fun b hb => ?_) fun h1 s2 L out c k1 k2 g2 d2 o2 hL hg he => ?_
  · exact e.mono fun v b ⟨r, dd⟩ => Dp.reads (I.kept (h' := h') (t' := s.toks) k) b.2 b.1 v dd r
  · have hm : b.2 ∈ ds := by rw [← hz]; exact List.mem_map.mpr ⟨b, hb, rfl⟩
    have := hd _ hm
    omega
  · obtain ⟨hp2, gs, dr, tk, os⟩ := s2
    obtain ⟨hp, gs0, dr0, tk0, os0⟩ := s
    cases g2
    cases d2
    cases o2
    have I1 := I.kept (h' := h1) (t' := tk) k1
    obtain ⟨e1, e2⟩ := vals_of_each he
    have e3 : ((xs.zip ds).mergeSort (dataLe false Prod.snd)).map Prod.snd = sortD ds := by
      unfold sortD
      have e4 : ((xs.zip ds).mergeSort (dataLe false Prod.snd)).map Prod.snd = ((xs.zip ds).map Prod.snd).mergeSort (dataLe false id) := sort_maps (s := dataLe false id) Prod.snd (fun a _ b _ => rfl)
      rw [e4, hz]
    rw [e3] at e2
    have hn : H L = none := I1.hok.fresh hL
    have hlen : (((xs.zip ds).mergeSort (dataLe false Prod.snd)).map Prod.fst).length ≤ sizeLine := by
      rw [List.length_map, List.length_mergeSort, hzl, sizeLine_eq]
      omega
    have I2 := I1.laid (t' := tk) (a := L) (o := .lst (((xs.zip ds).mergeSort (dataLe false Prod.snd)).map Prod.fst)) k2 hL ⟨hlen, out, c, e1, hg⟩
    exact ⟨.ref L, _, I2, rfl, q L _ _ (same_new hn) hn upd_same (e2.same (same_new hn))⟩
theorem cr_sortD (hu : X.A.units + 200 < cLine) (hh : X.calm = true) : CallR X (.builtin "sorted") (rSortD X.K) := by
  intro pins s σ H vs us Q I r h
  obtain ⟨x, d, ds, rfl, dx, hi, hal, hk, hl, hd, q⟩ := h
  obtain ⟨u, rfl, ru⟩ : ∃ u, us = [u] ∧ RelV x u := by
    cases r with
    | cons r1 r2 => cases r2; exact ⟨_, rfl, r1⟩
  cases d with
  | list es =>
    cases hi
    obtain ⟨a, xs, rfl, hs, ha⟩ := dp_lst dx
    cases ru
    obtain ⟨its, rv, ⟨o, n, e1, e2, e3, e4⟩, hz⟩ := I.list hs
    refine cr_sortD_core hu I ha (fun Q' E' k => ?_) hal hk hl hd q
    have hit : its.toArray.size ≤ sizeLine := by rw [List.size_toArray, ← rv.length]; exact hz
    exact wpAny_collect_seq (hsz := hit) a (.inl rfl) e1 e2 e4 fun h' kk => k ⟨h', s.gens, s.drawn, s.toks, s.os⟩ _ kk rfl rfl rfl (by simpa using rv)
  | tuple es =>
    cases hi
    obtain ⟨a, xs, rfl, hs, ha⟩ := dp_tup dx
    cases ru
    obtain ⟨its, rv, ⟨o, e1, e2, n, e4⟩, hz⟩ := I.tuple hs
    refine cr_sortD_core hu I ha (fun Q' E' k => ?_) hal hk hl hd q
    have hit : its.toArray.size ≤ sizeLine := by rw [List.size_toArray, ← rv.length]; exact hz
    exact wpAny_collect_seq (hsz := hit) a (.inr rfl) e1 e2 e4 fun h' kk => k ⟨h', s.gens, s.drawn, s.toks, s.os⟩ _ kk rfl rfl rfl (by simpa using rv)
  | str z =>
    cases hi
    cases dp_str dx
    obtain ⟨t, rfl⟩ := ru
    have hz : z.cps.size ≤ sizeLine := by
      have e : (signs z).length = z.cps.size := signs_len z
      rw [sizeLine_eq]
      omega
    have ha : DpAll X.K H (z.cps.toList.map fun c => V.str ⟨#[c]⟩) (signs z) := by
      have := dpAll_ofStrs (K := X.K) (H := H) (z.cps.toList.map fun c => (⟨#[c]⟩ : Str))
      rw [List.map_map, List.map_map] at this
      exact this
    refine cr_sortD_core hu I ha (fun Q' E' k => ?_) hal hk hl hd q
    refine wpAny_collect_str (A := X.A.in1) (show X.A.in1.handled = none from I.ok.hd hh) z t (fun s' acc k1 g1 d1 o1 hit => k s' _ k1 g1 d1 o1 ?_) hz
    obtain ⟨h1, h2⟩ := hit
    refine vals_of_get (by rw [List.length_map, Array.length_toList, Array.length_toList, h1]) fun i x v hx hv => ?_
    obtain ⟨c, t', e1, e2⟩ := h2 i v (by rw [Array.getElem?_toList] at hv; exact hv)
    rw [List.getElem?_map, Array.getElem?_toList, e1] at hx
    cases hx
    exact ⟨t', e2⟩
  | _ => cases hi
end
end K10
set_option maxHeartbeats 4000000
/-! The data layer, 3: built-ins, texts, tuples, subscripts, lists that grow. -/
namespace K10
open PySem PySem.Spec PyProof.Rows L2
open C8 (Cal pe_c)
section
variable {X : Cx} {σ : L2.St} {H H' : Hp} {e a b' : Expr} {d da db : PyData} {ds ls : List PyData} {pos p p2 apos : Pos}
/-! ### isinstance -/
def tyName : PyData → String
  | .none => "NoneType"
  | .bool _ => "bool"
  | .int _ => "int"
  | .str _ => "str"
  | .list _ => "list"
  | .tuple _ => "tuple"
  | .dict _ => "dict"
theorem dp_ty {K : PySem.W.Frag} {v : V} (h : Dp K H v d) : TyX K H v (.type (tyName d)) := by
  cases h with
  | non => exact .base .non
  | bl b => exact .base (.bl b)
  | int i => exact .base (.int i)
  | str x => exact .base (.str x)
  | lst hs ha =>
    rcases hs with (h | ⟨o, h⟩) | ⟨o, its, n, h, hc, _⟩
    · exact .base (.lst h)
    · exact .base (.frz h)
    · exact .kList h hc
  | tup hs ha =>
    rcases hs with (h | ⟨o, h⟩) | ⟨o, its, n, h, hc, _⟩
    · exact .base (.tup h)
    · exact .fTuple h
    · exact .kTuple h hc
def isTy (t : String) (d : PyData) : Bool := match t, d with
  | "int", .int _ => true
  | "int", .bool _ => true
  | "bool", .bool _ => true
  | "str", .str _ => true
  | "list", .list _ => true
  | "tuple", .tuple _ => true
  | _, _ => false
def isiT : List String := ["int", "bool", "str", "list", "tuple"]
private theorem kb_none_int : kitB "NoneType" "int" = some false := by decide +kernel
private theorem kb_none_bool : kitB "NoneType" "bool" = some false := by decide +kernel
private theorem kb_none_str : kitB "NoneType" "str" = some false := by decide +kernel
private theorem kb_none_list : kitB "NoneType" "list" = some false := by decide +kernel
private theorem kb_none_tuple : kitB "NoneType" "tuple" = some false := by decide +kernel
private theorem kb_bool_int : kitB "bool" "int" = some true := by decide +kernel
private theorem kb_bool_bool : kitB "bool" "bool" = some true := by decide +kernel
private theorem kb_bool_str : kitB "bool" "str" = some false := by decide +kernel
private theorem kb_bool_list : kitB "bool" "list" = some false := by decide +kernel
private theorem kb_bool_tuple : kitB "bool" "tuple" = some false := by decide +kernel
private theorem kb_int_int : kitB "int" "int" = some true := by decide +kernel
private theorem kb_int_bool : kitB "int" "bool" = some false := by decide +kernel
private theorem kb_int_str : kitB "int" "str" = some false := by decide +kernel
private theorem kb_int_list : kitB "int" "list" = some false := by decide +kernel
private theorem kb_int_tuple : kitB "int" "tuple" = some false := by decide +kernel
private theorem kb_str_int : kitB "str" "int" = some false := by decide +kernel
private theorem kb_str_bool : kitB "str" "bool" = some false := by decide +kernel
private theorem kb_str_str : kitB "str" "str" = some true := by decide +kernel
private theorem kb_str_list : kitB "str" "list" = some false := by decide +kernel
private theorem kb_str_tuple : kitB "str" "tuple" = some false := by decide +kernel
private theorem kb_list_int : kitB "list" "int" = some false := by decide +kernel
private theorem kb_list_bool : kitB "list" "bool" = some false := by decide +kernel
private theorem kb_list_str : kitB "list" "str" = some false := by decide +kernel
private theorem kb_list_list : kitB "list" "list" = some true := by decide +kernel
private theorem kb_list_tuple : kitB "list" "tuple" = some false := by decide +kernel
private theorem kb_tuple_int : kitB "tuple" "int" = some false := by decide +kernel
private theorem kb_tuple_bool : kitB "tuple" "bool" = some false := by decide +kernel
private theorem kb_tuple_str : kitB "tuple" "str" = some false := by decide +kernel
private theorem kb_tuple_list : kitB "tuple" "list" = some false := by decide +kernel
private theorem kb_tuple_tuple : kitB "tuple" "tuple" = some true := by decide +kernel
private theorem kb_dict_int : kitB "dict" "int" = some false := by decide +kernel
private theorem kb_dict_bool : kitB "dict" "bool" = some false := by decide +kernel
private theorem kb_dict_str : kitB "dict" "str" = some false := by decide +kernel
private theorem kb_dict_list : kitB "dict" "list" = some false := by decide +kernel
private theorem kb_dict_tuple : kitB "dict" "tuple" = some false := by decide +kernel
theorem kit_isTy {t : String} (ht : t ∈ isiT) (d : PyData) : kitB (tyName d) t = some (isTy t d) := by
  have h : t = "int" ∨ t = "bool" ∨ t = "str" ∨ t = "list" ∨ t = "tuple" := by simpa [isiT] using ht
  rcases h with rfl | rfl | rfl | rfl | rfl <;> cases d <;> first | exact kb_none_int | exact kb_none_bool | exact kb_none_str | exact kb_none_list | exact kb_none_tuple | exact kb_bool_int | exact kb_bool_bool | exact kb_bool_str | exact kb_bool_list | exact kb_bool_tuple | exact kb_int_int | exact kb_int_bool | exact kb_int_str | exact kb_int_list | exact kb_int_tuple | exact kb_str_int | exact kb_str_bool | exact kb_str_str | exact kb_str_list | exact kb_str_tuple | exact kb_list_int | exact kb_list_bool | exact kb_list_str | exact kb_list_list | exact kb_list_tuple | exact kb_tuple_int | exact kb_tuple_bool | exact kb_tuple_str | exact kb_tuple_list | exact kb_tuple_tuple | exact kb_dict_int | exact kb_dict_bool | exact kb_dict_str | exact kb_dict_list | exact kb_dict_tuple
theorem ee_isi {t : Str} {T : String} {c : Bool} (h : EE X σ H e d) (hm : X.mg "isinstance" = none) (hmT : X.mg t = none) (hvT : bootBuiltins t = some (.type T)) (hT : T ∈ isiT := by decide) (hc : isTy T d = c := by rfl) (hg : Gl X "isinstance" := by rfl) (hgT : Gl X t := by rfl) (hn : t ≠ "__name__" := by decide) (hd : (t == ("__debug__" : Str)) = false := by decide)
    (he : starEach [e, .Name t p2] X.env = (false, eval e X.env) :: starEach [.Name t p2] X.env := by exact star_cons (by rfl)) (he2 : starEach [.Name t p2] X.env = (false, eval (.Name t p2) X.env) :: starEach [] X.env := by exact star_cons (by rfl)) (hpl : (backTo pos (starEach [.Name t p2] X.env)).any (·.1) = false := by exact star_any (by rfl)) :
    EE X σ H (.Call (.Name "isinstance" p) [e, .Name t p2] [] pos) (.bool c) := fun H1 s1 =>
  we_of (pe_callB call_isi hg hm (by decide +kernel) (pa_cons (pw e) (pa_cons (pe_bltn (v := .ty T) hgT hmT hvT rfl hn hd) pa_nil he2) he) (by decide) (by decide) he hpl) ((h H1 s1).mono fun v H2 ⟨s2, dv⟩ =>
    ⟨v, .ty T, .type (tyName d), .type T, c, rfl, .ty T, dp_ty dv, by rw [← hc]; exact kit_ty (kit_isTy hT d), s2, .bl c⟩)
/-- isinstance(x, (list, tuple)) -/
theorem ee_isi2 {c : Bool} {k : Nat} {q q2 : Pos} (h : EE X σ H e d) (hm : X.mg "isinstance" = none) (hmL : X.mg "list" = none) (hmT : X.mg "tuple" = none) (hc : (isTy "list" d || isTy "tuple" d) = c := by rfl) (hg : Gl X "isinstance" := by rfl) (hgL : Gl X "list" := by rfl) (hgT : Gl X "tuple" := by rfl)
    (he : starEach [e, .Tuple [.Name "list" q, .Name "tuple" q2] k p2] X.env = (false, eval e X.env) :: starEach [.Tuple [.Name "list" q, .Name "tuple" q2] k p2] X.env := by exact star_cons (by rfl))
    (he2 : starEach [.Tuple [.Name "list" q, .Name "tuple" q2] k p2] X.env = (false, eval (.Tuple [.Name "list" q, .Name "tuple" q2] k p2) X.env) :: starEach [] X.env := by exact star_cons (by rfl)) (hpl : (backTo pos (starEach [.Tuple [.Name "list" q, .Name "tuple" q2] k p2] X.env)).any (·.1) = false := by exact star_any (by rfl))
    (hs : starEach [.Name "list" q, .Name "tuple" q2] X.env = (false, eval (.Name "list" q) X.env) :: starEach [.Name "tuple" q2] X.env := by exact star_cons (by rfl)) (hs2 : starEach [.Name "tuple" q2] X.env = (false, eval (.Name "tuple" q2) X.env) :: starEach [] X.env := by exact star_cons (by rfl)) :
    EE X σ H (.Call (.Name "isinstance" p) [e, .Tuple [.Name "list" q, .Name "tuple" q2] k p2] [] pos) (.bool c) := fun H1 s1 =>
  we_of (pe_callB call_isiT hg hm (by decide +kernel) (pa_cons (pw e) (pa_cons (pe_tup (pa_cons (pe_bltn (v := .ty "list") hgL hmL (by decide +kernel) rfl) (pa_cons (pe_bltn (v := .ty "tuple") hgT hmT (by decide +kernel) rfl) pa_nil hs2) hs)) pa_nil he2) he) (by decide) (by decide) he hpl) ((h H1 s1).mono fun v H2 ⟨s2, dv⟩ =>
    ⟨by show 2 ≤ sizeLine; decide, fun q hq => ⟨v, q, [.ty "list", .ty "tuple"], .type (tyName d), [.type "list", .type "tuple"], c, rfl, upd_same, .cons (.ty _) (.cons (.ty _) .nil), dp_ty (dv.same (same_new hq)),
      by rw [← hc]; exact kitAny_cons (kit_ty (kit_isTy (by decide) d)) (fun h => kitAny_cons (r := isTy "list" d || isTy "tuple" d) (kit_ty (kit_isTy (by decide) d)) (fun h' => by rw [h, h'] <;> rfl) (fun h' => by rw [h'] <;> simp)) (fun h => by rw [h] <;> rfl), s2.trans (same_new hq), .bl c⟩⟩)
/-! ### len, tuple, list, int, sums -/
theorem ee_lenS (h : EE X σ H e d) (hi : itemsD d = some ds) (hz : ds.length ≤ 1000000) (hm : X.mg "len" = none) (hg : Gl X "len" := by rfl) (he : starEach [e] X.env = (false, eval e X.env) :: starEach [] X.env := by exact star_cons (by rfl)) (hpl : (backTo pos (starEach [] X.env)).any (·.1) = false := by exact star_any (by rfl)) :
    EE X σ H (.Call (.Name "len" p) [e] [] pos) (.int (ds.length : Nat)) := by
  refine ee_cb (call_len_seq.or call_len_str) hm boot_len (ea_1 h he) (fun vs H1 Q s1 dvs k => ?_) hg (by decide) (by decide) he hpl
  obtain ⟨x, rfl, dx⟩ := dpAll_1 dvs
  cases d with
  | list es =>
    cases hi
    obtain ⟨a, xs, rfl, hs, ha⟩ := dp_lst dx
    exact .inl ⟨a, xs, rfl, .inl hs, by rw [dpAll_len ha]; exact k _ H1 (Same.refl H1) (.int _)⟩
  | tuple es =>
    cases hi
    obtain ⟨a, xs, rfl, hs, ha⟩ := dp_tup dx
    exact .inl ⟨a, xs, rfl, .inr hs, by rw [dpAll_len ha]; exact k _ H1 (Same.refl H1) (.int _)⟩
  | str z =>
    cases hi
    cases dp_str dx
    have e2 : z.length = (signs z).length := (signs_len z).symm
    exact .inr ⟨z, rfl, by rw [sizeLine_eq, e2]; omega, by rw [e2]; exact k _ H1 (Same.refl H1) (.int _)⟩
  | _ => cases hi
theorem ee_tuple (h : EE X σ H e d) (hi : d = .list ds ∨ d = .tuple ds) (hm : X.mg "tuple" = none) (hi' : immAll ds = true ∨ True := by exact .inr trivial) (hg : Gl X "tuple" := by rfl) (he : starEach [e] X.env = (false, eval e X.env) :: starEach [] X.env := by exact star_cons (by rfl)) (hpl : (backTo pos (starEach [] X.env)).any (·.1) = false := by exact star_any (by rfl)) :
    EE X σ H (.Call (.Name "tuple" p) [e] [] pos) (.tuple ds) := by
  refine ee_cty call_tuple_of hm (by decide +kernel) (ea_1 h he) (fun vs H1 Q s1 dvs k => ?_) hg (by decide) (by decide) he hpl
  obtain ⟨x, rfl, dx⟩ := dpAll_1 dvs
  rcases hi with rfl | rfl
  · obtain ⟨a, xs, rfl, hs, ha⟩ := dp_lst dx
    exact ⟨a, xs, rfl, .inl ⟨hs, fun l hl => k _ _ (same_new hl) (.tup (.of upd_same) (ha.same (same_new hl)))⟩⟩
  · obtain ⟨a, xs, rfl, hs, ha⟩ := dp_tup dx
    exact ⟨a, xs, rfl, .inr ⟨hs, k _ H1 (Same.refl H1) (.tup hs ha)⟩⟩
theorem en_list (h : EE X σ H e d) (hi : d = .list ds ∨ d = .tuple ds) (hm : X.mg "list" = none) (hg : Gl X "list" := by rfl) (he : starEach [e] X.env = (false, eval e X.env) :: starEach [] X.env := by exact star_cons (by rfl)) (hpl : (backTo pos (starEach [] X.env)).any (·.1) = false := by exact star_any (by rfl)) :
    EN X σ H (.Call (.Name "list" p) [e] [] pos) ds := by
  refine en_cty call_list_of hm (by decide +kernel) (ea_1 h he) (fun vs H1 Q s1 dvs k => ?_) hg (by decide) (by decide) he hpl
  obtain ⟨x, rfl, dx⟩ := dpAll_1 dvs
  rcases hi with rfl | rfl
  · obtain ⟨a, xs, rfl, hs, ha⟩ := dp_lst dx
    exact ⟨a, xs, rfl, .inl hs, fun l hl => k l xs _ (same_new hl) hl upd_same (ha.same (same_new hl))⟩
  · obtain ⟨a, xs, rfl, hs, ha⟩ := dp_tup dx
    exact ⟨a, xs, rfl, .inr hs, fun l hl => k l xs _ (same_new hl) hl upd_same (ha.same (same_new hl))⟩
theorem ee_int1 {i : Int} (h : EE X σ H e (.int i)) (hm : X.mg "int" = none) (hg : Gl X "int" := by rfl) (he : starEach [e] X.env = (false, eval e X.env) :: starEach [] X.env := by exact star_cons (by rfl)) (hpl : (backTo pos (starEach [] X.env)).any (·.1) = false := by exact star_any (by rfl)) :
    EE X σ H (.Call (.Name "int" p) [e] [] pos) (.int i) := by
  refine ee_cty call_int1 hm (by decide +kernel) (ea_1 h he) (fun vs H1 Q s1 dvs k => ?_) hg (by decide) (by decide) he hpl
  obtain ⟨x, rfl, dx⟩ := dpAll_1 dvs
  exact .inl ⟨i, by rw [dp_int dx], k _ H1 (Same.refl H1) (.int i)⟩
theorem ee_abs {i : Int} (h : EE X σ H e (.int i)) (hm : X.mg "abs" = none) (hg : Gl X "abs" := by rfl) (he : starEach [e] X.env = (false, eval e X.env) :: starEach [] X.env := by exact star_cons (by rfl)) (hpl : (backTo pos (starEach [] X.env)).any (·.1) = false := by exact star_any (by rfl)) :
    EE X σ H (.Call (.Name "abs" p) [e] [] pos) (.int (if i < 0 then -i else i)) := by
  refine ee_cb call_abs hm (by decide +kernel) (ea_1 h he) (fun vs H1 Q s1 dvs k => ?_) hg (by decide) (by decide) he hpl
  obtain ⟨x, rfl, dx⟩ := dpAll_1 dvs
  exact ⟨i, by rw [dp_int dx], k _ H1 (Same.refl H1) (.int _)⟩
theorem ee_max2 {i j : Int} (h : EE X σ H e (.int i)) (h2 : EE X σ H a (.int j)) (hm : X.mg "max" = none) (hcal : X.calm = true := by rfl) (hg : Gl X "max" := by rfl) (he : starEach [e, a] X.env = (false, eval e X.env) :: starEach [a] X.env := by exact star_cons (by rfl)) (he2 : starEach [a] X.env = (false, eval a X.env) :: starEach [] X.env := by exact star_cons (by rfl)) (hpl : (backTo pos (starEach [a] X.env)).any (·.1) = false := by exact star_any (by rfl)) :
    EE X σ H (.Call (.Name "max" p) [e, a] [] pos) (.int (if j > i then j else i)) := by
  refine ee_cb (call_max2 hcal) hm (by decide +kernel) (ea_cons h (ea_1 h2 he2) he) (fun vs H1 Q s1 dvs k => ?_) hg (by decide) (by decide) he hpl
  obtain ⟨x, y, rfl, dx, dy⟩ := dpAll_2 dvs
  exact ⟨i, j, by rw [dp_int dx, dp_int dy], k _ H1 (Same.refl H1) (.int _)⟩
theorem ee_min2 {i j : Int} (h : EE X σ H e (.int i)) (h2 : EE X σ H a (.int j)) (hm : X.mg "min" = none) (hcal : X.calm = true := by rfl) (hg : Gl X "min" := by rfl) (he : starEach [e, a] X.env = (false, eval e X.env) :: starEach [a] X.env := by exact star_cons (by rfl)) (he2 : starEach [a] X.env = (false, eval a X.env) :: starEach [] X.env := by exact star_cons (by rfl)) (hpl : (backTo pos (starEach [a] X.env)).any (·.1) = false := by exact star_any (by rfl)) :
    EE X σ H (.Call (.Name "min" p) [e, a] [] pos) (.int (if j < i then j else i)) := by
  refine ee_cb (call_min2 hcal) hm (by decide +kernel) (ea_cons h (ea_1 h2 he2) he) (fun vs H1 Q s1 dvs k => ?_) hg (by decide) (by decide) he hpl
  obtain ⟨x, y, rfl, dx, dy⟩ := dpAll_2 dvs
  exact ⟨i, j, by rw [dp_int dx, dp_int dy], k _ H1 (Same.refl H1) (.int _)⟩
theorem ee_sum {ns : List Int} (h : EE X σ H e (.list (ns.map .int))) (hm : X.mg "sum" = none) (hcal : X.calm = true := by rfl) (hg : Gl X "sum" := by rfl) (he : starEach [e] X.env = (false, eval e X.env) :: starEach [] X.env := by exact star_cons (by rfl)) (hpl : (backTo pos (starEach [] X.env)).any (·.1) = false := by exact star_any (by rfl)) :
    EE X σ H (.Call (.Name "sum" p) [e] [] pos) (.int ns.sum) := by
  refine ee_cb (cr_sum hcal) hm (by decide +kernel) (ea_1 h he) (fun vs H1 Q s1 dvs k => ?_) hg (by decide) (by decide) he hpl
  obtain ⟨x, rfl, dx⟩ := dpAll_1 dvs
  obtain ⟨a, xs, rfl, hs, ha⟩ := dp_lst dx
  rw [dpAll_ints ha] at hs
  exact ⟨a, ns, rfl, hs, k _ H1 (Same.refl H1) (.int _)⟩
theorem ee_all {bs : List Bool} (h : EE X σ H e (.list (bs.map .bool))) (hm : X.mg "all" = none) (hcal : X.calm = true := by rfl) (hg : Gl X "all" := by rfl) (he : starEach [e] X.env = (false, eval e X.env) :: starEach [] X.env := by exact star_cons (by rfl)) (hpl : (backTo pos (starEach [] X.env)).any (·.1) = false := by exact star_any (by rfl)) :
    EE X σ H (.Call (.Name "all" p) [e] [] pos) (.bool (bs.all id)) := by
  refine ee_cb (cr_all hcal) hm (by decide +kernel) (ea_1 h he) (fun vs H1 Q s1 dvs k => ?_) hg (by decide) (by decide) he hpl
  obtain ⟨x, rfl, dx⟩ := dpAll_1 dvs
  obtain ⟨a, xs, rfl, hs, ha⟩ := dp_lst dx
  rw [dpAll_bools ha] at hs
  exact ⟨a, bs, rfl, hs, k _ H1 (Same.refl H1) (.bl _)⟩
theorem ee_any {bs : List Bool} (h : EE X σ H e (.list (bs.map .bool))) (hm : X.mg "any" = none) (hcal : X.calm = true := by rfl) (hg : Gl X "any" := by rfl) (he : starEach [e] X.env = (false, eval e X.env) :: starEach [] X.env := by exact star_cons (by rfl)) (hpl : (backTo pos (starEach [] X.env)).any (·.1) = false := by exact star_any (by rfl)) :
    EE X σ H (.Call (.Name "any" p) [e] [] pos) (.bool (bs.any id)) := by
  refine ee_cb (cr_any hcal) hm (by decide +kernel) (ea_1 h he) (fun vs H1 Q s1 dvs k => ?_) hg (by decide) (by decide) he hpl
  obtain ⟨x, rfl, dx⟩ := dpAll_1 dvs
  obtain ⟨a, xs, rfl, hs, ha⟩ := dp_lst dx
  rw [dpAll_bools ha] at hs
  exact ⟨a, bs, rfl, hs, k _ H1 (Same.refl H1) (.bl _)⟩
theorem en_sorted (h : EE X σ H e d) (hi : itemsD d = some ds) (hal : PySem.W.AllAlike ds) (hk : PySem.W.Sortable ds) (hl : ds.length ≤ 100000) (hd : ∀ d ∈ ds, d.depth ≤ 100) (hm : X.mg "sorted" = none) (hu : X.A.units + 200 < cLine) (hcal : X.calm = true := by rfl) (hg : Gl X "sorted" := by rfl) (he : starEach [e] X.env = (false, eval e X.env) :: starEach [] X.env := by exact star_cons (by rfl)) (hpl : (backTo pos (starEach [] X.env)).any (·.1) = false := by exact star_any (by rfl)) :
    EN X σ H (.Call (.Name "sorted" p) [e] [] pos) (sortD ds) := by
  refine en_cb (cr_sortD hu hcal) hm (by decide +kernel) (ea_1 h he) (fun vs H1 Q s1 dvs k => ?_) hg (by decide) (by decide) he hpl
  obtain ⟨x, rfl, dx⟩ := dpAll_1 dvs
  exact ⟨x, d, ds, rfl, dx, hi, hal, hk, hl, hd, fun p xs H2 s2 hn hp ha => k p xs H2 s2 hn hp ha⟩
/-! ### texts -/
theorem ee_adds {x y : Str} (ha : EE X σ H a (.str x)) (hb : EE X σ H b' (.str y)) (hz : x.length + y.length ≤ 1000000) : EE X σ H (.BinOp a .Add b' pos) (.str (x ++ y)) :=
  ee_op op_add_str ha hb fun u v H1 Q _ du dv k => ⟨x, y, dp_str du, dp_str dv, by rw [sizeLine_eq]; omega, k _ H1 (Same.refl H1) (.str _)⟩
theorem ee_join {xs : List Str} {z : Str} (ho : EE X σ H a (.str z)) (h : EE X σ H e (.list (xs.map .str))) (hz : (xs.map (·.length)).sum + xs.length * z.length ≤ 1000000) (hs : starEach [e] X.env = [(false, eval e X.env)] := by exact star_one (by rfl)) (hbase : attributeBase a "join" X.env (eval a X.env) = eval a X.env := by rfl) (hline : (apos.endLine == pos.line) = true := by rfl) :
    EE X σ H (.Call (.Attribute a "join" apos) [e] [] pos) (.str (Txt.join z xs)) := fun H1 s1 =>
  we_of (pe_join (pw a) (pw e) hs hbase hline) ((ho H1 s1).mono fun v H2 ⟨s2, dv⟩ => ⟨⟨z, dp_str dv⟩, (h H2 (s1.trans s2)).mono fun u H3 ⟨s3, du⟩ => by
    obtain ⟨q, ys, rfl, hq, hy⟩ := dp_lst du
    rw [dpAll_strs hy] at hq
    exact ⟨z, q, xs, dp_str dv, rfl, .inl hq, by omega, s2.trans s3, .str _⟩⟩)
theorem ee_count {x z : Str} (ho : EE X σ H a (.str z)) (h : EE X σ H e (.str x)) (hs : starEach [e] X.env = [(false, eval e X.env)] := by exact star_one (by rfl)) (hbase : attributeBase a "count" X.env (eval a X.env) = eval a X.env := by rfl) (hline : (apos.endLine == pos.line) = true := by rfl) :
    EE X σ H (.Call (.Attribute a "count" apos) [e] [] pos) (.int (Txt.count z x)) := fun H1 s1 =>
  we_of (pe_m1 PySem.F.slot_str_count PySem.F.type_str_count mt_count (pw a) (pw e) hs hbase hline) ((ho H1 s1).mono fun v H2 ⟨s2, dv⟩ => ⟨⟨z, dp_str dv⟩, (h H2 (s1.trans s2)).mono fun u H3 ⟨s3, du⟩ => ⟨z, x, dp_str dv, by rw [dp_str du], s2.trans s3, .int _⟩⟩)
theorem ee_sindex {x z : Str} {i : Nat} {rest : List Nat} (ho : EE X σ H a (.str z)) (h : EE X σ H e (.str x)) (hi : Builtin.Str.occurrences z x 0 z.length 1 = i :: rest) (hs : starEach [e] X.env = [(false, eval e X.env)] := by exact star_one (by rfl)) (hbase : attributeBase a "index" X.env (eval a X.env) = eval a X.env := by rfl) (hline : (apos.endLine == pos.line) = true := by rfl) :
    EE X σ H (.Call (.Attribute a "index" apos) [e] [] pos) (.int (i : Nat)) := fun H1 s1 =>
  we_of (pe_m1 PySem.F.slot_str_index PySem.F.type_str_index mt_sindex (pw a) (pw e) hs hbase hline) ((ho H1 s1).mono fun v H2 ⟨s2, dv⟩ => ⟨⟨z, dp_str dv⟩, (h H2 (s1.trans s2)).mono fun u H3 ⟨s3, du⟩ => ⟨z, x, i, rest, dp_str dv, by rw [dp_str du], hi, s2.trans s3, .int _⟩⟩)
def rMulS : R2 := fun x y H Q => ∃ (z : Str) (n : Int), x = .str z ∧ y = .int n ∧ n ≤ 1000 ∧ -1000 ≤ n ∧ z.length ≤ 1000 ∧ Q (.str (Txt.mul z n)) H
theorem op_mulS : OpR X (binaryOp .Mult) rMulS := by
  intro pins s σ H x y v u Q I rx ry h
  obtain ⟨z, n, rfl, rfl, h1, h2, h3, q⟩ := h
  obtain ⟨t, rfl⟩ := rx
  obtain ⟨t', rfl⟩ := ry
  exact SB.mul (mulOk_of 1000 1000 h3 (by omega) (by omega) (by decide) (by decide)) fun t2 k => ⟨.str _, H, I.tok k, ⟨t2, rfl⟩, q⟩
theorem ee_muls {z : Str} {n : Int} (ha : EE X σ H a (.str z)) (hb : EE X σ H b' (.int n)) (h1 : n ≤ 1000) (h2 : -1000 ≤ n) (h3 : z.length ≤ 1000) : EE X σ H (.BinOp a .Mult b' pos) (.str (Txt.mul z n)) :=
  ee_op op_mulS ha hb fun u v H1 Q _ du dv k => ⟨z, n, dp_str du, dp_int dv, h1, h2, h3, k _ H1 (Same.refl H1) (.str _)⟩
/-- x in z, a text in a text -/
def inS (x z : Str) : Bool := !(Builtin.Str.occurrences z x 0 z.length 1).isEmpty
theorem ee_inS {x z : Str} (ha : EE X σ H a (.str x)) (hb : EE X σ H b' (.str z)) (hm : behindInMarks .In b' = false := by rfl) : EE X σ H (.Compare a [.In] [b'] pos) (.bool (inS x z)) :=
  ee_cmp op_in_str ha hb (fun u v H1 Q _ du dv k => ⟨x, z, dp_str du, dp_str dv, k _ H1 (Same.refl H1) (.bl _)⟩) hm
theorem et_inS {x z : Str} (ha : EE X σ H a (.str x)) (hb : EE X σ H b' (.str z)) (hm : behindInMarks .In b' = false := by rfl) : ET X σ H (.Compare a [.In] [b'] pos) (inS x z) :=
  et_cmp op_in_str ha hb (fun u v H1 Q _ du dv k => ⟨x, z, dp_str du, dp_str dv, k _ H1 (Same.refl H1) (.bl _)⟩) hm
theorem et_ninS {x z : Str} (ha : EE X σ H a (.str x)) (hb : EE X σ H b' (.str z)) (hm : behindInMarks .NotIn b' = false := by rfl) : ET X σ H (.Compare a [.NotIn] [b'] pos) (!inS x z) :=
  et_cmp op_notin_str ha hb (fun u v H1 Q _ du dv k => ⟨x, z, dp_str du, dp_str dv, k _ H1 (Same.refl H1) (.bl _)⟩) hm
/-! ### in a list, a tuple of scalars -/
def flatD : PyData → Bool
  | .none => true
  | .bool _ => true
  | .int _ => true
  | .str _ => true
  | _ => false
theorem flat_of {v : V} {K : PySem.W.Frag} (h : flatD d = true) (dv : Dp K H v d) : flatV v = true := by
  cases dv <;> first | rfl | cases h
theorem flat_all {K : PySem.W.Frag} : ∀ {xs : List V} {ds : List PyData}, (∀ d ∈ ds, flatD d = true) → DpAll K H xs ds → xs.all flatV = true
  | _, _, _, .nil => rfl
  | _, _, h, .cons a t => by
    rw [List.all_cons, flat_of (h _ (List.mem_cons_self ..)) a, flat_all (fun d hd => h d (List.mem_cons_of_mem _ hd)) t]
    rfl
theorem rb_in {neg c : Bool} {y : V} (hi : d = .list ds ∨ d = .tuple ds) (hx : flatD da = true) (hf : ∀ d ∈ ds, flatD d = true) (hc : ∀ x xs (H1 : Hp), Dp X.K H1 x da → DpAll X.K H1 xs ds → inV x xs = c) : RB X (rIn X.K neg) H da d (.bool (if neg then !c else c)) := fun x y H1 Q _ dx dy k => by
  rcases hi with rfl | rfl
  · obtain ⟨a, xs, rfl, hs, ha⟩ := dp_lst dy
    exact ⟨a, xs, rfl, .inl hs, flat_of hx dx, flat_all hf ha, by rw [hc x xs H1 dx ha]; exact k _ H1 (Same.refl H1) (.bl _)⟩
  · obtain ⟨a, xs, rfl, hs, ha⟩ := dp_tup dy
    exact ⟨a, xs, rfl, .inr hs, flat_of hx dx, flat_all hf ha, by rw [hc x xs H1 dx ha]; exact k _ H1 (Same.refl H1) (.bl _)⟩
/-! ### subscripts -/
theorem atI_of {xs : List V} {K : PySem.W.Frag} {i : Int} {j : Nat} (ha : DpAll K H xs ds) (hj : (i = (j : Int)) ∨ (i < 0 ∧ i + (ds.length : Int) = (j : Int))) (hd : ds[j]? = some d) : ∃ x, atI xs i = some x ∧ Dp K H x d := by
  obtain ⟨x, hx, dx⟩ := dpAll_at ha hd
  refine ⟨x, ?_, dx⟩
  rcases hj with rfl | ⟨h1, h2⟩
  · exact atI_nat hx
  · have hl := dpAll_len ha
    have hlt : j < ds.length := (List.getElem?_eq_some_iff.mp hd).1
    unfold atI ixN
    rw [if_neg (by omega)]
    rw [if_pos (by rw [hl]; omega)]
    have e : (i + (xs.length : Int)).toNat = j := by rw [hl]; omega
    rw [Option.bind_some, e]
    exact hx
theorem ee_ixT {i : Int} {j : Nat} (ha : EE X σ H a (.tuple ds)) (hb : EE X σ H b' (.int i)) (hd : ds[j]? = some d) (hj : (i = (j : Int)) ∨ (i < 0 ∧ i + (ds.length : Int) = (j : Int)) := by exact .inl rfl) (hs : PlainIx b' := by exact fun _ _ => rfl) : EE X σ H (.Subscript a b' pos) d :=
  ee_ix ix_tup ha hb (fun x y H1 Q _ dx dy k => by
    obtain ⟨q, xs, rfl, hq, hx⟩ := dp_tup dx
    obtain ⟨v, hv, dv⟩ := atI_of hx hj hd
    exact ⟨q, xs, i, v, rfl, dp_int dy, hq, hv, k _ H1 (Same.refl H1) dv⟩) hs
theorem ee_ixL {i : Int} {j : Nat} (ha : EE X σ H a (.list ds)) (hb : EE X σ H b' (.int i)) (hd : ds[j]? = some d) (hj : (i = (j : Int)) ∨ (i < 0 ∧ i + (ds.length : Int) = (j : Int)) := by exact .inl rfl) (hs : PlainIx b' := by exact fun _ _ => rfl) : EE X σ H (.Subscript a b' pos) d :=
  ee_ix ix_list ha hb (fun x y H1 Q _ dx dy k => by
    obtain ⟨q, xs, rfl, hq, hx⟩ := dp_lst dx
    obtain ⟨v, hv, dv⟩ := atI_of hx hj hd
    exact ⟨q, xs, i, v, rfl, dp_int dy, hq, hv, k _ H1 (Same.refl H1) dv⟩) hs
theorem ee_ixS {z : Str} {i : Nat} {c : Nat} (ha : EE X σ H a (.str z)) (hb : EE X σ H b' (.int (i : Nat))) (hc : z.cps[i]? = some c) (hz : z.length ≤ 1000000) (hs : PlainIx b' := by exact fun _ _ => rfl) : EE X σ H (.Subscript a b' pos) (.str ⟨#[c]⟩) :=
  ee_ix ix_str ha hb (fun x y H1 Q _ dx dy k => ⟨z, (i : Nat), c, dp_str dx, dp_int dy, by rw [sizeLine_eq]; omega, atI_nat (by rw [Array.getElem?_toList]; exact hc), k _ H1 (Same.refl H1) (.str _)⟩) hs
/-! ### lists that grow, at the statement's place -/
variable {rest : List Stmt} {D : Ends}
/-- xs.append(e), xs in a slot -/
theorem wss_append {x : Str} {l : Addr} {xs : List V} {p1 : Pos} (i : Nat) (hl : σ[i]? = some (some (.ref l))) (hx : H l = some (.lst xs)) (hz : xs.length < 100000) (h : EE X σ H e d) (k : ∀ v H1, Same H H1 → Dp X.K H1 v d → WSs X rest D σ (upd H1 l (.lst (xs ++ [v]))))
    (hN : X.N[i]? = some x := by rfl) (hv : Vis X.env.scope x := by first | exact Or.inl rfl | exact Or.inr (Or.inl rfl) | exact Or.inr (Or.inr rfl)) (hd1 : (x == ("__debug__" : Str)) = false := by decide) (hd2 : (x == ("__classdict__" : Str)) = false := by decide)
    (hs : swapsWith (.Call (.Attribute (.Name x p1) "append" apos) [e] [] p2) none pos.line X.env = pure false := by rfl) (he : starEach [e] X.env = (false, eval e X.env) :: starEach [] X.env := by exact star_cons (by rfl)) (hpl : (backTo p2 (starEach [] X.env)).any (·.1) = false := by exact star_any (by rfl))
    (hb : attributeBase (.Name x p1) "append" X.env (eval (.Name x p1) X.env) = eval (.Name x p1) X.env := by rfl) (hline : (apos.endLine == p2.line) = true := by rfl)
    (hfew : ((backTo p2 (starEach [e] X.env)).all (fun x => !x.1) && (backToKw p2 (keywordEach [] X.env)).all (fun x => x.1.isSome) && decide (([e] : List Expr).length + ([] : List Keyword).length + (if ([] : List Keyword).isEmpty then 0 else 1) < 30)) = true := by rfl) :
    WSs X (.Expr (.Call (.Attribute (.Name x p1) "append" apos) [e] [] p2) pos :: rest) D σ H := by
  refine wss_cons (ws_of (ps_expr (pe_bm PySem.F.plainAttrs_list PySem.F.slot_list_append PySem.F.type_list_append mt_append (pe_var hN hv hd1 hd2) (pa_cons (pw e) pa_nil he) hb hfew hline he hpl) hs) ?_)
  exact ⟨.ref l, hl, .inl ⟨rfl, _, .of hx⟩, h.run fun v H1 s1 dv => ⟨l, xs, v, rfl, rfl, s1 _ _ hx, Nat.lt_of_lt_of_le hz (by decide), k v H1 s1 dv⟩⟩
end
end K10
set_option maxHeartbeats 4000000
/-! The data layer, 4: slices, tuples that grow, items set, lists' truth, wide ints. -/
namespace K10
open PySem PySem.Spec PyProof.Rows L2
open C8 (Cal pe_c)
section
variable {X : Cx} {σ : L2.St} {H H' : Hp} {e a b' : Expr} {d da db : PyData} {ds es ls : List PyData} {pos p p2 apos : Pos}
/-! ### slices -/
def EO (X : Cx) (σ : L2.St) (H : Hp) : Option Expr → Option Int → Prop
  | none, none => True
  | some e, some i => EE X σ H e (.int i)
  | _, _ => False
theorem eo_run : ∀ {oe : Option Expr} {o : Option Int}, EO X σ H oe o → ∃ tl, PO X oe tl ∧ ∀ H1, Same H H1 → ∀ R : Option Int → Hp → Prop, (∀ H2, Same H1 H2 → R o H2) → tl σ H1 R
  | none, none, _ => ⟨_, po_none, fun H1 _ R k => k H1 (Same.refl H1)⟩
  | some e, some i, h => ⟨_, po_some (pw e), fun H1 s1 R k => (h H1 s1).mono fun v H2 ⟨s2, dv⟩ => ⟨i, dp_int dv, k H2 s2⟩⟩
  | none, some _, h => h.elim
  | some _, none, h => h.elim
def cutD (ds : List PyData) (lo hi : Option Int) : List PyData := (ds.drop (HT.sIx ds.length 0 lo)).take (HT.sIx ds.length ds.length hi - HT.sIx ds.length 0 lo)
theorem dpAll_cut {K : PySem.W.Frag} {xs : List V} {lo hi : Option Int} (h : DpAll K H xs ds) : DpAll K H (cutV xs lo hi) (cutD ds lo hi) := by
  unfold cutV cutD
  rw [dpAll_len h]
  exact dpAll_take _ (dpAll_drop _ h)
variable {le ue : Option Expr} {lo hi : Option Int}
theorem en_slL (ha : EE X σ H a (.list ds)) (hl : EO X σ H le lo) (hu : EO X σ H ue hi) : EN X σ H (.Subscript a (.Slice le ue none p2) pos) (cutD ds lo hi) := by
  obtain ⟨tl, pl, ql⟩ := eo_run hl
  obtain ⟨tu, pu, qu⟩ := eo_run hu
  exact fun H1 s1 => we_of (pe_slice sl_list (pw a) pl pu) ((ha H1 s1).mono fun v H2 ⟨s2, dv⟩ => ql H2 (s1.trans s2) _ fun H3 s3 => qu H3 ((s1.trans s2).trans s3) _ fun H4 s4 => by
    obtain ⟨q, xs, rfl, hs, hx⟩ := dp_lst (dv.same (s3.trans s4))
    exact ⟨q, xs, rfl, hs, fun p hp => ⟨(s2.trans (s3.trans s4)).trans (same_new hp), p, _, rfl, (s2.trans (s3.trans s4)).free hp, upd_same, (dpAll_cut hx).same (same_new hp)⟩⟩)
theorem cutV_whole {xs : List V} (h : HT.sIx xs.length 0 lo = 0 ∧ HT.sIx xs.length xs.length hi = xs.length) : cutV xs lo hi = xs := by
  unfold cutV
  rw [h.1, h.2]
  simp
theorem ee_slT (ha : EE X σ H a (.tuple ds)) (hl : EO X σ H le lo) (hu : EO X σ H ue hi) : EE X σ H (.Subscript a (.Slice le ue none p2) pos) (.tuple (cutD ds lo hi)) := by
  obtain ⟨tl, pl, ql⟩ := eo_run hl
  obtain ⟨tu, pu, qu⟩ := eo_run hu
  exact fun H1 s1 => we_of (pe_slice sl_tupA (pw a) pl pu) ((ha H1 s1).mono fun v H2 ⟨s2, dv⟩ => ql H2 (s1.trans s2) _ fun H3 s3 => qu H3 ((s1.trans s2).trans s3) _ fun H4 s4 => by
    obtain ⟨q, xs, rfl, hs, hx⟩ := dp_tup (dv.same (s3.trans s4))
    have hc := dpAll_cut (lo := lo) (hi := hi) hx
    exact ⟨q, xs, rfl, hs, fun hw => ⟨s2.trans (s3.trans s4), .tup hs (by rw [cutV_whole hw] at hc; exact hc)⟩, fun _ p hp => ⟨(s2.trans (s3.trans s4)).trans (same_new hp), .tup (.of upd_same) (hc.same (same_new hp))⟩⟩)
theorem ee_slS {z : Str} (ha : EE X σ H a (.str z)) (hl : EO X σ H le lo) (hu : EO X σ H ue hi) (hz : z.length ≤ 1000000) : EE X σ H (.Subscript a (.Slice le ue none p2) pos) (.str (cutS z lo hi)) := by
  obtain ⟨tl, pl, ql⟩ := eo_run hl
  obtain ⟨tu, pu, qu⟩ := eo_run hu
  exact fun H1 s1 => we_of (pe_slice sl_str (pw a) pl pu) ((ha H1 s1).mono fun v H2 ⟨s2, dv⟩ => ql H2 (s1.trans s2) _ fun H3 s3 => qu H3 ((s1.trans s2).trans s3) _ fun H4 s4 =>
    ⟨z, dp_str dv, by rw [sizeLine_eq]; omega, s2.trans (s3.trans s4), .str _⟩)
/-! ### tuples -/
theorem ee_catT (ha : EE X σ H a (.tuple ds)) (hb : EE X σ H b' (.tuple es)) (hz : ds.length + es.length ≤ 1000000) : EE X σ H (.BinOp a .Add b' pos) (.tuple (ds ++ es)) :=
  ee_op op_catA ha hb fun x y H1 Q _ dx dy k => by
    obtain ⟨q, xs, rfl, hs, hx⟩ := dp_tup dx
    obtain ⟨r, ys, rfl, ht, hy⟩ := dp_tup dy
    have hc := dpAll_app hx hy
    refine ⟨q, r, xs, ys, rfl, rfl, hs, ht, by rw [dpAll_len hx, dpAll_len hy, sizeLine_eq]; omega, fun e => k _ H1 (Same.refl H1) ?_, fun _ e => k _ H1 (Same.refl H1) ?_, fun _ _ p hp => k _ _ (same_new hp) (.tup (.of upd_same) (hc.same (same_new hp)))⟩
    · subst e
      cases hx
      exact .tup ht hy
    · subst e
      cases hy
      rw [List.append_nil]
      exact .tup hs hx
theorem dpAll_rep {K : PySem.W.Frag} {xs : List V} (h : DpAll K H xs ds) : ∀ n : Nat, DpAll K H (List.replicate n xs).flatten (List.replicate n ds).flatten
  | 0 => .nil
  | n + 1 => by
    rw [List.replicate_succ, List.replicate_succ, List.flatten_cons, List.flatten_cons]
    exact dpAll_app h (dpAll_rep h n)
theorem ee_repT {n : Nat} (ha : EE X σ H a (.tuple ds)) (hb : EE X σ H b' (.int (n : Nat))) (hn : ds ≠ []) (h1 : 2 ≤ n) (h2 : n ≤ 1000) (hz : ds.length ≤ 1000) : EE X σ H (.BinOp a .Mult b' pos) (.tuple (List.replicate n ds).flatten) :=
  ee_op op_repT ha hb fun x y H1 Q _ dx dy k => by
    obtain ⟨q, xs, rfl, hs, hx⟩ := dp_tup dx
    have hl := dpAll_len hx
    refine ⟨q, (n : Nat), xs, rfl, dp_int dy, hs, fun e => ?_, by omega, by omega, by omega, fun p hp => k _ _ (same_new hp) (.tup (.of upd_same) ?_)⟩
    · subst e
      cases hx
      exact hn rfl
    · have := (dpAll_rep hx n).same (same_new (o := .tup (List.replicate ((n : Int)).toNat xs).flatten) hp)
      rw [Int.toNat_natCast] at this ⊢
      exact this
/-! ### ints -/
def CPowW (i j : Int) : Prop := 0 ≤ j ∧ (Builtin.Int.intBits i : Int) * j ≤ 2 ^ 27
theorem op_powW : OpR X (binaryOp .Pow) (rI CPowW fun i j => .int (i ^ j.toNat)) := opI fun _ _ _ _ _ _ _ hc q => pow_int hc.1 hc.2 q
theorem ee_pow {i : Int} {n : Nat} (ha : EE X σ H a (.int i)) (hb : EE X σ H b' (.int (n : Nat))) (hc : (Builtin.Int.intBits i : Int) * (n : Int) ≤ 2 ^ 27) : EE X σ H (.BinOp a .Pow b' pos) (.int (i ^ n)) :=
  ee_op op_powW ha hb (rb_I (C := CPowW) ⟨by omega, hc⟩ fun _ => by rw [Int.toNat_natCast]; exact .int _)
/-! ### truth of what holds items -/
theorem et_seqE (h : EE X σ H e (.list ds)) (he : ∀ whole, isTrue e X.env whole = (do let v ← whole; standAt e.pos; holding [v] (truthy v)) := by intro _; rfl) : ET X σ H e (!ds.isEmpty) := fun H1 s1 =>
  wt_of (pt_truth (pw e) he) ((h H1 s1).mono fun v H2 ⟨s2, dv⟩ => by
    obtain ⟨q, xs, rfl, hs, hx⟩ := dp_lst dv
    refine ⟨!xs.isEmpty, .inl ⟨xs, hs, rfl⟩, s2, ?_⟩
    cases hx <;> rfl)
theorem et_seqN (h : EN X σ H e ds) (he : ∀ whole, isTrue e X.env whole = (do let v ← whole; standAt e.pos; holding [v] (truthy v)) := by intro _; rfl) : ET X σ H e (!ds.isEmpty) := et_seqE h.ee he
theorem ev_notL (h : EE X σ H e (.list ds)) : EE X σ H (.UnaryOp .Not e pos) (.bool ds.isEmpty) := fun H1 s1 => we_of (pe_notT (pw e)) ((h H1 s1).mono fun v H2 ⟨s2, dv⟩ => by
  obtain ⟨q, xs, rfl, hs, hx⟩ := dp_lst dv
  refine ⟨!xs.isEmpty, .inl ⟨xs, hs, rfl⟩, s2, ?_⟩
  have : (!!xs.isEmpty) = ds.isEmpty := by cases hx <;> rfl
  rw [this]
  exact .bl _)
/-! ### items set, lists that grow -/
variable {rest : List Stmt} {D : Ends} {b1 c1 : Expr}
theorem ixN_nat {n j : Nat} (h : j < n) : ixN n (j : Int) = some j := by
  unfold ixN
  rw [if_pos (by omega), if_pos (by omega), Int.toNat_natCast]
/-- xs[i] = e, xs in a slot -/
theorem wss_seti {x : Str} {l : Addr} {xs : List V} {p1 p3 : Pos} {j : Nat} (i : Nat) (hl : σ[i]? = some (some (.ref l))) (hx : H l = some (.lst xs)) (hj : j < xs.length) (h : EE X σ H e d) (hi : EE X σ H c1 (.int (j : Nat))) (k : ∀ v H1, Same H H1 → Dp X.K H1 v d → WSs X rest D σ (upd H1 l (.lst (xs.set j v))))
    (hN : X.N[i]? = some x := by rfl) (hv : Vis X.env.scope x := by first | exact Or.inl rfl | exact Or.inr (Or.inl rfl) | exact Or.inr (Or.inr rfl)) (hd1 : (x == ("__debug__" : Str)) = false := by decide) (hd2 : (x == ("__classdict__" : Str)) = false := by decide)
    (hs : swapsWithSole [.Subscript (.Name x p1) c1 p3] e pos.line X.env = pure false := by rfl) (hw : swappedStores [.Subscript (.Name x p1) c1 p3] e X.env = pure none := by rfl) (h1 : (assignEach [.Subscript (.Name x p1) c1 p3] X.env).map (·.2) = [assign (.Subscript (.Name x p1) c1 p3) X.env] := by rfl)
    (ha : ∀ v, assign (.Subscript (.Name x p1) c1 p3) X.env v = (do
      let ov ← holding [v] (eval (.Name x p1) X.env)
      let iv ← holding [v, ov] (eval c1 X.env)
      standAt p3
      holding [v, ov, iv] (setItem ov iv v)
      release [v, ov, iv] []) := by intro _; rfl) : WSs X (.Assign [.Subscript (.Name x p1) c1 p3] e pos :: rest) D σ H := by
  refine wss_cons (ws_of (ps_asg (pw e) (pg_sub (pe_var hN hv hd1 hd2) (pw c1) set_list ha) hs hw h1) ?_)
  exact h.run fun v H1 s1 dv => ⟨.ref l, hl, (hi H1 s1).mono fun y H2 ⟨s2, dy⟩ => ⟨l, xs, (j : Nat), j, rfl, dp_int dy, s2 _ _ (s1 _ _ hx), ixN_nat hj, k v H2 (s1.trans s2) (dv.same s2)⟩⟩
/-- xs.extend(e), xs in a slot, e a new list -/
theorem wss_extend {x : Str} {l : Addr} {xs : List V} {p1 : Pos} (i : Nat) (hl : σ[i]? = some (some (.ref l))) (hx : H l = some (.lst xs)) (hz : xs.length + ds.length ≤ 1000000) (h : EN X σ H e ds) (k : ∀ zs H1, Same H H1 → DpAll X.K H1 zs ds → WSs X rest D σ (upd H1 l (.lst (xs ++ zs))))
    (hN : X.N[i]? = some x := by rfl) (hv : Vis X.env.scope x := by first | exact Or.inl rfl | exact Or.inr (Or.inl rfl) | exact Or.inr (Or.inr rfl)) (hd1 : (x == ("__debug__" : Str)) = false := by decide) (hd2 : (x == ("__classdict__" : Str)) = false := by decide)
    (hs : swapsWith (.Call (.Attribute (.Name x p1) "extend" apos) [e] [] p2) none pos.line X.env = pure false := by rfl) (he : starEach [e] X.env = (false, eval e X.env) :: starEach [] X.env := by exact star_cons (by rfl)) (hpl : (backTo p2 (starEach [] X.env)).any (·.1) = false := by exact star_any (by rfl))
    (hb : attributeBase (.Name x p1) "extend" X.env (eval (.Name x p1) X.env) = eval (.Name x p1) X.env := by rfl) (hline : (apos.endLine == p2.line) = true := by rfl)
    (hfew : ((backTo p2 (starEach [e] X.env)).all (fun x => !x.1) && (backToKw p2 (keywordEach [] X.env)).all (fun x => x.1.isSome) && decide (([e] : List Expr).length + ([] : List Keyword).length + (if ([] : List Keyword).isEmpty then 0 else 1) < 30)) = true := by rfl) :
    WSs X (.Expr (.Call (.Attribute (.Name x p1) "extend" apos) [e] [] p2) pos :: rest) D σ H := by
  refine wss_cons (ws_of (ps_expr (pe_bm PySem.F.plainAttrs_list PySem.F.slot_list_extend PySem.F.type_list_extend mt_extend (pe_var hN hv hd1 hd2) (pa_cons (pw e) pa_nil he) hb hfew hline he hpl) hs) ?_)
  refine ⟨.ref l, hl, .inl ⟨rfl, _, .of hx⟩, h.run fun p zs H1 s1 hp hq ha => ⟨l, p, xs, zs, rfl, rfl, s1 _ _ hx, hq, by rw [dpAll_len ha, sizeLine_eq]; omega, k zs H1 s1 ha⟩⟩
/-! ### lists' count, flat items -/
def rCntF (K : PySem.W.Frag) : V → List V → Hp → VK → Prop := fun x xs H Q => ∃ (p : Addr) (zs : List V) (y : V), x = .ref p ∧ xs = [y] ∧ SqL K H p zs ∧ flatV y = true ∧ zs.all flatV = true ∧ Q (.int ((zs.countP fun z => eqV z y : Nat) : Int)) H
theorem countP_eqU {x : V} : ∀ {xs : List V} {us : List Value}, Vals xs us → xs.all flatV = true → us.countP (eqU x) = xs.countP fun y => eqV y x
  | _, _, .nil, _ => rfl
  | y :: xs, u :: us, .cons r t, f => by
    rw [List.all_cons, Bool.and_eq_true] at f
    rw [List.countP_cons, List.countP_cons, eqU_of r f.1, countP_eqU t f.2]
theorem mt_countF : MtR X "list.count" (rCntF X.K) := by
  intro pins s σ H x xs v us Q I rx rxs h
  obtain ⟨p, zs, y, rfl, rfl, hs, fy, fz, q⟩ := h
  cases rx
  obtain ⟨u, rfl, ru⟩ := rxs.one
  obtain ⟨its, rv, ⟨⟨cls, dd, data, sl⟩, n, ho, hc, hdn, hd⟩, hlen⟩ := I.list hs
  simp only at hc hd
  subst hc hd
  refine call_meets PySem.F.slot_list_count ⟨_, ho, rfl⟩ PySem.F.entry_list_count (PySem.F.args_list_count_2 _ _)
    (SeqAt.list_countAt p its.toArray n dd sl u (eqU y)) ⟨ho, fun z hz => mem_eqAt ru fy rv fz z (by simpa using hz), ?_⟩
  refine ⟨.int ((zs.countP fun z => eqV z y : Nat) : Int), H, I.tok _, ⟨s.toks, ?_⟩, q⟩
  show Value.int ((its.toArray.toList.countP (eqU y) : Nat) : Int) s.toks = _
  rw [show its.toArray.toList = its from rfl, countP_eqU rv fz]
end
end K10
set_option maxHeartbeats 4000000
/-! Texts as lists of codes. -/
namespace K10
open PySem PySem.Spec PyProof.Rows L2 SX
/-- the text of these codes -/
abbrev tx (l : List Nat) : PyData := .str (S l)
theorem S_eta (z : Str) : ∃ l, z = S l := ⟨z.cps.toList, (S_tl z).symm⟩
theorem signs_S (l : List Nat) : K10.signs (S l) = l.map fun c => tx [c] := rfl
theorem S_list (l : List Nat) : (S l).cps.toList = l := rfl
theorem occ_at (x y : Str) (hi : Nat) : ∀ (l : List Nat) (a f : Nat), StrLaws.ChainTo x y hi a l f → ∀ i ∈ l, StrLaws.At x y hi i
  | [], _, _, _, i, hi' => by cases hi'
  | c :: r, a, f, h, i, hi' => by
    rcases List.mem_cons.mp hi' with rfl | hm
    · exact h.2.1
    · exact occ_at x y hi r _ _ h.2.2 i hm
theorem index_S {l : List Nat} {c : Nat} (h : c ∈ l) : ∃ i rest, Builtin.Str.occurrences (S l) (S [c]) 0 (S l).length 1 = i :: rest ∧ l[i]? = some c := by
  have h1 : (!(Builtin.Str.occurrences (S l) (S [c]) 0 (S l).length 1).isEmpty) = true := by rw [in_one]; simpa using h
  obtain ⟨f, hc⟩ := StrLaws.occ_chain (S l) (S [c]) 1
  cases e : Builtin.Str.occurrences (S l) (S [c]) 0 (S l).length 1 with
  | nil => rw [e] at h1; simp at h1
  | cons i rest =>
    rw [e] at hc
    refine ⟨i, rest, rfl, ?_⟩
    have h2 := hc.2.1
    exact (StrLaws.subAt_one (S l) c i).mp h2
theorem inS_S (l : List Nat) (c : Nat) : inS (S [c]) (S l) = decide (c ∈ l) := in_one l c
theorem cnt_count (c : Nat) : ∀ l : List Nat, cnt c l = (l.count c : Nat)
  | [] => rfl
  | n :: r => by
    rw [cnt_cons, cnt_count c r, List.count_cons]
    by_cases h : n = c
    · simp [h]; omega
    · simp [h]
theorem count_S (l : List Nat) (c : Nat) : (Txt.count (S l) (S [c]) : Int) = (l.count c : Nat) := by
  rw [count_cnt, cnt_count]
theorem replace_S (l : List Nat) (c : Nat) : Txt.replace (S l) (S [c]) (S []) = S (l.filter (· != c)) := by
  have h := replace_strikes (S l) c
  rw [← S_tl (Txt.replace (S l) (S [c]) (S []))]
  exact congrArg S h
theorem foldl_one (c : Nat) : ∀ (n : Nat) (acc : Array Nat), (List.replicate n #[c]).foldl (· ++ ·) acc = acc ++ (List.replicate n c).toArray
  | 0, acc => by simp
  | n + 1, acc => by
    rw [List.replicate_succ, List.foldl_cons, foldl_one c n, List.replicate_succ]
    apply Array.toList_inj.mp
    simp
theorem mul_S (c : Nat) (n : Int) : Txt.mul (S [c]) n = S (List.replicate n.toNat c) := by
  unfold Txt.mul
  by_cases h : n < 1
  · rw [if_pos h]
    have : n.toNat = 0 := by omega
    rw [this]
    rfl
  · rw [if_neg h]
    by_cases h1 : n = 1
    · subst h1
      rfl
    · rw [if_neg (by simp [h1, S_len])]
      show (⟨_⟩ : Str) = ⟨_⟩
      congr 1
      show (List.replicate n.toNat #[c]).foldl (· ++ ·) #[] = _
      rw [foldl_one]
      simp
theorem joinL_nil : ∀ ls : List (List Nat), TL.joinL [] ls = ls.flatten
  | [] => rfl
  | [p] => by simp [TL.joinL]
  | p :: q :: r => by
    show p ++ ([] ++ TL.joinL [] (q :: r)) = _
    rw [joinL_nil (q :: r)]
    simp
theorem join0 (ls : List (List Nat)) : Txt.join (S []) (ls.map S) = S ls.flatten := by rw [join_S, joinL_nil]
/-- sorted codes -/
def srt (l : List Nat) : List Nat := l.mergeSort (· ≤ ·)
theorem srt_perm (l : List Nat) : (srt l).Perm l := List.mergeSort_perm ..
theorem srt_len (l : List Nat) : (srt l).length = l.length := List.length_mergeSort ..
theorem srt_sorted (l : List Nat) : (srt l).Pairwise (· ≤ ·) := by
  have := List.pairwise_mergeSort (le := fun a b : Nat => decide (a ≤ b)) (fun a b c h1 h2 => by simp at *; omega) (fun a b => by simp; omega) l
  exact this.imp fun h => by simpa using h
theorem sorted_eq {a b : List Nat} (ha : a.Pairwise (· ≤ ·)) (hb : b.Pairwise (· ≤ ·)) (h : a.Perm b) : a = b := h.eq_of_pairwise (fun x y _ _ h1 h2 => Nat.le_antisymm h1 h2) ha hb
theorem srt_of {a b : List Nat} (hb : b.Pairwise (· ≤ ·)) (h : a.Perm b) : srt a = b := sorted_eq (srt_sorted a) hb ((srt_perm a).trans h)
theorem sortD_signs (l : List Nat) : sortD (K10.signs (S l)) = (srt l).map fun c => tx [c] := by
  rw [signs_S]
  unfold sortD srt
  symm
  refine PySem.W.sort_maps (fun c => tx [c]) fun a _ b _ => ?_
  show decide (a ≤ b) = PySem.W.dataLe false id (.str (S [a])) (.str (S [b]))
  rw [PySem.W.dataLe_eq]
  show decide (a ≤ b) = !PySem.W.dataLt (.str (S [b])) (.str (S [a]))
  rw [PySem.W.dataLt_str]
  show decide (a ≤ b) = !decide ([b] < [a])
  have : ([b] < [a]) ↔ b < a := by simp [List.cons_lt_cons_iff]
  rw [Bool.eq_iff_iff]
  simp [this]
theorem alike_ones : ∀ l : List Nat, PySem.W.AllAlike (l.map fun c => tx [c]) := fun l a ha b hb => by
  obtain ⟨c, _, rfl⟩ := List.mem_map.mp ha
  obtain ⟨d, _, rfl⟩ := List.mem_map.mp hb
  rfl
theorem sortable_ones (l : List Nat) : PySem.W.Sortable (l.map fun c => tx [c]) := .inr fun a ha => by
  obtain ⟨c, _, rfl⟩ := List.mem_map.mp ha
  exact ⟨(fun e => nomatch e), (fun xs e => nomatch e)⟩
theorem cutS_lo (l : List Nat) (i : Nat) : cutS (S l) none (some (i : Int)) = S (l.take i) := by
  unfold cutS
  rw [HT.sIx_none, HT.sIx_nat, S_len]
  show S _ = S _
  congr 1
  simp [List.take_eq_take_iff]
theorem cutS_hi (l : List Nat) (i : Nat) : cutS (S l) (some (i : Int)) none = S (l.drop i) := by
  unfold cutS
  rw [HT.sIx_none, HT.sIx_nat, S_len]
  show S _ = S _
  congr 1
  show ((l.drop (min i l.length)).take (l.length - min i l.length)) = _
  by_cases h : i ≤ l.length
  · rw [Nat.min_eq_left h]
    exact List.take_of_length_le (by simp)
  · rw [Nat.min_eq_right (by omega)]
    simp
    omega
theorem cutD_lo (ds : List PyData) (i : Nat) : cutD ds none (some (i : Int)) = ds.take i := by
  unfold cutD
  rw [HT.sIx_none, HT.sIx_nat]
  simp [List.take_eq_take_iff]
theorem cutD_hi (ds : List PyData) (i : Nat) : cutD ds (some (i : Int)) none = ds.drop i := by
  unfold cutD
  rw [HT.sIx_none, HT.sIx_nat]
  by_cases h : i ≤ ds.length
  · rw [Nat.min_eq_left h]
    exact List.take_of_length_le (by simp)
  · rw [Nat.min_eq_right (by omega)]
    simp
    omega
/-! ### expressions -/
section
variable {X : Cx} {σ : L2.St} {H : Hp} {e a b' : Expr} {pos p p2 apos : Pos} {l m : List Nat}
theorem ee_addS (ha : EE X σ H a (tx l)) (hb : EE X σ H b' (tx m)) (hz : l.length + m.length ≤ 1000000) : EE X σ H (.BinOp a .Add b' pos) (tx (l ++ m)) := by
  have := ee_adds (pos := pos) ha hb (by rw [S_len, S_len]; exact hz)
  rw [S_cat] at this
  exact this
theorem ee_joinS {ls : List (List Nat)} (ho : EE X σ H a (tx [])) (h : EE X σ H e (.list (ls.map tx))) (hz : (ls.map (·.length)).sum ≤ 1000000) (hs : starEach [e] X.env = [(false, eval e X.env)] := by exact star_one (by rfl)) (hbase : attributeBase a "join" X.env (eval a X.env) = eval a X.env := by rfl) (hline : (apos.endLine == pos.line) = true := by rfl) :
    EE X σ H (.Call (.Attribute a "join" apos) [e] [] pos) (tx ls.flatten) := by
  have := ee_join (xs := ls.map S) (z := S []) (apos := apos) (pos := pos) ho (h.is (by rw [List.map_map]; rfl)) (by rw [lens, S_len]; simpa using hz) hs hbase hline
  rw [join0] at this
  exact this
theorem flat_ones : ∀ l : List Nat, (l.map fun c => [c]).flatten = l
  | [] => rfl
  | c :: l => by simp [flat_ones l]
theorem en_sortS (h : EE X σ H e (tx l)) (hl : l.length ≤ 100000) (hm : X.mg "sorted" = none) (hu : X.A.units + 200 < cLine) (hcal : X.calm = true := by rfl) (hg : Gl X "sorted" := by rfl) (he : starEach [e] X.env = (false, eval e X.env) :: starEach [] X.env := by exact star_cons (by rfl)) (hpl : (backTo pos (starEach [] X.env)).any (·.1) = false := by exact star_any (by rfl)) :
    EN X σ H (.Call (.Name "sorted" p) [e] [] pos) ((srt l).map fun c => tx [c]) := by
  have := en_sorted (p := p) (pos := pos) h rfl (by rw [signs_S]; exact alike_ones l) (by rw [signs_S]; exact sortable_ones l) (by rw [signs_len]; simpa using hl) (fun d hd => by
    rw [signs_S] at hd
    obtain ⟨c, _, rfl⟩ := List.mem_map.mp hd
    show PyData.depth _ ≤ 100
    simp [PyData.depth]) hm hu hcal hg he hpl
  rw [sortD_signs] at this
  exact this
/-- ''.join(sorted(e)) -/
theorem ee_js {pp : Pos} (ho : EE X σ H a (tx [])) (h : EE X σ H e (tx l)) (hl : l.length ≤ 100000) (hm : X.mg "sorted" = none) (hu : X.A.units + 200 < cLine) (hcal : X.calm = true := by rfl) (hg : Gl X "sorted" := by rfl) (he : starEach [e] X.env = (false, eval e X.env) :: starEach [] X.env := by exact star_cons (by rfl)) (hpl : (backTo pp (starEach [] X.env)).any (·.1) = false := by exact star_any (by rfl))
    (hs : starEach [.Call (.Name "sorted" p) [e] [] pp] X.env = [(false, eval (.Call (.Name "sorted" p) [e] [] pp) X.env)] := by exact star_one (by rfl)) (hbase : attributeBase a "join" X.env (eval a X.env) = eval a X.env := by rfl) (hline : (apos.endLine == pos.line) = true := by rfl) :
    EE X σ H (.Call (.Attribute a "join" apos) [.Call (.Name "sorted" p) [e] [] pp] [] pos) (tx (srt l)) := by
  have h1 := (en_sortS (p := p) (pos := pp) h hl hm hu hcal hg he hpl).ee
  have := ee_joinS (ls := (srt l).map fun c => [c]) (apos := apos) (pos := pos) ho (h1.is (by rw [List.map_map]; rfl)) (by
    rw [List.map_map]
    have : ((srt l).map (List.length ∘ fun c => [c])).sum = (srt l).length := by
      induction srt l with
      | nil => rfl
      | cons c r ih => simp [ih]; omega
    rw [this, srt_len]
    omega) hs hbase hline
  rw [flat_ones] at this
  exact this
theorem ee_countS {c : Nat} (ho : EE X σ H a (tx l)) (h : EE X σ H e (tx [c])) (hs : starEach [e] X.env = [(false, eval e X.env)] := by exact star_one (by rfl)) (hbase : attributeBase a "count" X.env (eval a X.env) = eval a X.env := by rfl) (hline : (apos.endLine == pos.line) = true := by rfl) :
    EE X σ H (.Call (.Attribute a "count" apos) [e] [] pos) (.int (l.count c : Nat)) := by
  have := ee_count (apos := apos) (pos := pos) ho h hs hbase hline
  rw [count_S] at this
  exact this
theorem ee_mulS {c : Nat} {n : Int} (ha : EE X σ H a (tx [c])) (hb : EE X σ H b' (.int n)) (h1 : n ≤ 1000) (h2 : -1000 ≤ n) : EE X σ H (.BinOp a .Mult b' pos) (tx (List.replicate n.toNat c)) := by
  have := ee_muls (pos := pos) ha hb h1 h2 (by simp [S_len])
  rw [mul_S] at this
  exact this
theorem et_in1 {c : Nat} (ha : EE X σ H a (tx [c])) (hb : EE X σ H b' (tx l)) (hm : behindInMarks .In b' = false := by rfl) : ET X σ H (.Compare a [.In] [b'] pos) (decide (c ∈ l)) := by
  have := et_inS (pos := pos) ha hb hm
  rw [inS_S] at this
  exact this
theorem ee_in1 {c : Nat} (ha : EE X σ H a (tx [c])) (hb : EE X σ H b' (tx l)) (hm : behindInMarks .In b' = false := by rfl) : EE X σ H (.Compare a [.In] [b'] pos) (.bool (decide (c ∈ l))) := by
  have := ee_inS (pos := pos) ha hb hm
  rw [inS_S] at this
  exact this
theorem et_nin1 {c : Nat} (ha : EE X σ H a (tx [c])) (hb : EE X σ H b' (tx l)) (hm : behindInMarks .NotIn b' = false := by rfl) : ET X σ H (.Compare a [.NotIn] [b'] pos) (!decide (c ∈ l)) := by
  have := et_ninS (pos := pos) ha hb hm
  rw [inS_S] at this
  exact this
theorem ee_ix1 {i : Nat} {c : Nat} (ha : EE X σ H a (tx l)) (hb : EE X σ H b' (.int (i : Nat))) (hc : l[i]? = some c) (hz : l.length ≤ 1000000) (hs : PlainIx b' := by exact fun _ _ => rfl) : EE X σ H (.Subscript a b' pos) (tx [c]) :=
  ee_ixS ha hb (by simpa using hc) (by rw [S_len]; exact hz) hs
/-! ### slices by numbers -/
variable {ds : List PyData} {i : Nat}
theorem ee_takeT (ha : EE X σ H a (.tuple ds)) (hb : EE X σ H b' (.int (i : Nat))) : EE X σ H (.Subscript a (.Slice none (some b') none p2) pos) (.tuple (ds.take i)) := by
  have := ee_slT (p2 := p2) (pos := pos) (le := none) (ue := some b') (lo := none) (hi := some (i : Int)) ha trivial hb
  rw [cutD_lo] at this
  exact this
theorem ee_dropT (ha : EE X σ H a (.tuple ds)) (hb : EE X σ H b' (.int (i : Nat))) : EE X σ H (.Subscript a (.Slice (some b') none none p2) pos) (.tuple (ds.drop i)) := by
  have := ee_slT (p2 := p2) (pos := pos) (le := some b') (ue := none) (lo := some (i : Int)) (hi := none) ha hb trivial
  rw [cutD_hi] at this
  exact this
theorem en_dropL (ha : EE X σ H a (.list ds)) (hb : EE X σ H b' (.int (i : Nat))) : EN X σ H (.Subscript a (.Slice (some b') none none p2) pos) (ds.drop i) := by
  have := en_slL (p2 := p2) (pos := pos) (le := some b') (ue := none) (lo := some (i : Int)) (hi := none) ha hb trivial
  rw [cutD_hi] at this
  exact this
theorem ee_takeS (ha : EE X σ H a (tx l)) (hb : EE X σ H b' (.int (i : Nat))) (hz : l.length ≤ 1000000) : EE X σ H (.Subscript a (.Slice none (some b') none p2) pos) (tx (l.take i)) := by
  have := ee_slS (p2 := p2) (pos := pos) (le := none) (ue := some b') (lo := none) (hi := some (i : Int)) ha trivial hb (by rw [S_len]; exact hz)
  rw [cutS_lo] at this
  exact this
theorem ee_dropS (ha : EE X σ H a (tx l)) (hb : EE X σ H b' (.int (i : Nat))) (hz : l.length ≤ 1000000) : EE X σ H (.Subscript a (.Slice (some b') none none p2) pos) (tx (l.drop i)) := by
  have := ee_slS (p2 := p2) (pos := pos) (le := some b') (ue := none) (lo := some (i : Int)) (hi := none) ha hb trivial (by rw [S_len]; exact hz)
  rw [cutS_hi] at this
  exact this
theorem ee_addN {i j : Nat} (ha : EE X σ H a (.int (i : Nat))) (hb : EE X σ H b' (.int (j : Nat))) : EE X σ H (.BinOp a .Add b' pos) (.int (i + j : Nat)) := (ee_add ha hb).is (by rw [Int.natCast_add])
theorem ee_succ {i j : Nat} {q : Pos} (ha : EE X σ H a (.int (i : Nat))) : EE X σ H (.BinOp a .Add (.Constant (.int 1) j q) pos) (.int (i + 1 : Nat)) := (ee_add ha ee_int).is (by rw [Int.natCast_add]; rfl)
theorem S_dec (l m : List Nat) : decide (S l = S m) = decide (l = m) := by
  rw [Bool.eq_iff_iff, decide_eq_true_eq, decide_eq_true_eq]
  exact ⟨S_inj, fun e => by rw [e]⟩
theorem ee_eqS (ha : EE X σ H a (tx l)) (hb : EE X σ H b' (tx m)) : EE X σ H (.Compare a [.Eq] [b'] pos) (.bool (decide (l = m))) := (ee_eq ha hb).is (by rw [S_dec])
theorem ee_neS (ha : EE X σ H a (tx l)) (hb : EE X σ H b' (tx m)) : EE X σ H (.Compare a [.NotEq] [b'] pos) (.bool (!decide (l = m))) := (ee_ne ha hb).is (by rw [S_dec])
theorem et_eqS (ha : EE X σ H a (tx l)) (hb : EE X σ H b' (tx m)) : ET X σ H (.Compare a [.Eq] [b'] pos) (decide (l = m)) := (et_eq ha hb).is (by rw [S_dec])
theorem et_neS (ha : EE X σ H a (tx l)) (hb : EE X σ H b' (tx m)) : ET X σ H (.Compare a [.NotEq] [b'] pos) (!decide (l = m)) := (et_ne ha hb).is (by rw [S_dec])
theorem et_eqI {i j : Int} (ha : EE X σ H a (.int i)) (hb : EE X σ H b' (.int j)) : ET X σ H (.Compare a [.Eq] [b'] pos) (decide (i = j)) := et_eq ha hb
theorem et_neI {i j : Int} (ha : EE X σ H a (.int i)) (hb : EE X σ H b' (.int j)) : ET X σ H (.Compare a [.NotEq] [b'] pos) (!decide (i = j)) := et_ne ha hb
theorem ee_eqI {i j : Int} (ha : EE X σ H a (.int i)) (hb : EE X σ H b' (.int j)) : EE X σ H (.Compare a [.Eq] [b'] pos) (.bool (decide (i = j))) := ee_eq ha hb
theorem ee_neI {i j : Int} (ha : EE X σ H a (.int i)) (hb : EE X σ H b' (.int j)) : EE X σ H (.Compare a [.NotEq] [b'] pos) (.bool (!decide (i = j))) := ee_ne ha hb
/-- x in a tuple, a list of ints -/
theorem inV_ints (i : Int) (ns : List Int) : inV (.int i) (ns.map .int) = decide (i ∈ ns) := by
  unfold inV
  rw [List.any_map, Bool.eq_iff_iff, List.any_eq_true, decide_eq_true_eq]
  constructor
  · rintro ⟨x, hx, h⟩
    have : x = i := by simpa [eqV] using h
    exact this ▸ hx
  · intro h
    exact ⟨i, h, by simp [eqV]⟩
theorem rb_inI {i : Int} {ns : List Int} {neg : Bool} {d : PyData} (hd : d = .tuple (ns.map .int) ∨ d = .list (ns.map .int)) : RB X (rIn X.K neg) H (.int i) d (.bool (if neg then !decide (i ∈ ns) else decide (i ∈ ns))) :=
  rb_in (ds := ns.map .int) (y := .non) (hd.symm) rfl (fun d hd => by obtain ⟨n, _, rfl⟩ := List.mem_map.mp hd; rfl) fun x xs H1 dx da => by rw [dp_int dx, dpAll_ints da, inV_ints]
theorem ee_inI {i : Int} {ns : List Int} {d : PyData} (ha : EE X σ H a (.int i)) (hb : EE X σ H b' d) (hd : d = .tuple (ns.map .int) ∨ d = .list (ns.map .int)) (hm : behindInMarks .In b' = false := by rfl) : EE X σ H (.Compare a [.In] [b'] pos) (.bool (decide (i ∈ ns))) :=
  ee_cmp op_in_seq ha hb (rb_inI (neg := false) hd) hm
theorem et_inI {i : Int} {ns : List Int} {d : PyData} (ha : EE X σ H a (.int i)) (hb : EE X σ H b' d) (hd : d = .tuple (ns.map .int) ∨ d = .list (ns.map .int)) (hm : behindInMarks .In b' = false := by rfl) : ET X σ H (.Compare a [.In] [b'] pos) (decide (i ∈ ns)) :=
  et_cmp op_in_seq ha hb (rb_inI (neg := false) hd) hm
theorem mem_natCast {n : Nat} {l : List Nat} : ((n : Int) ∈ l.map fun (k : Nat) => (k : Int)) ↔ n ∈ l := by
  constructor
  · intro h
    obtain ⟨k, hk, e⟩ := List.mem_map.mp h
    have : k = n := by omega
    exact this ▸ hk
  · exact fun h => List.mem_map.mpr ⟨n, h, rfl⟩
/-- x in a list of texts -/
theorem inV_strs (z : Str) (zs : List Str) : inV (.str z) (zs.map .str) = decide (z ∈ zs) := by
  unfold inV
  rw [List.any_map, Bool.eq_iff_iff, List.any_eq_true, decide_eq_true_eq]
  constructor
  · rintro ⟨x, hx, h⟩
    have : x = z := by simpa [eqV] using h
    exact this ▸ hx
  · intro h
    exact ⟨z, h, by simp [eqV]⟩
theorem rb_inTx {ms : List (List Nat)} {neg : Bool} {d : PyData} (hd : d = .tuple (ms.map tx) ∨ d = .list (ms.map tx)) : RB X (rIn X.K neg) H (tx l) d (.bool (if neg then !decide (l ∈ ms) else decide (l ∈ ms))) :=
  rb_in (ds := ms.map tx) (y := .non) (hd.symm) rfl (fun d hd => by obtain ⟨n, _, rfl⟩ := List.mem_map.mp hd; rfl) fun x xs H1 dx da => by
    have e : ms.map tx = (ms.map S).map .str := by rw [List.map_map]; rfl
    rw [e] at da
    rw [dp_str dx, dpAll_strs da, inV_strs, Bool.eq_iff_iff, decide_eq_true_eq, decide_eq_true_eq]
    constructor
    · intro h
      obtain ⟨m, hm, e⟩ := List.mem_map.mp h
      exact S_inj e ▸ hm
    · exact fun h => List.mem_map.mpr ⟨l, h, rfl⟩
end
end K10
set_option maxHeartbeats 4000000
/-! The data layer, 5: tuples compared; enumerate of a tuple. -/
namespace K10
open PySem PySem.Spec PyProof.Rows L2 SX
section
variable {X : Cx} {σ : L2.St} {H : Hp} {e a b' : Expr} {pos p p2 apos : Pos} {da db d : PyData} {ds : List PyData}
def rGeD (K : PySem.W.Frag) : R2 := fun x y H Q => ∃ d e, Dp K H x d ∧ Dp K H y e ∧ PySem.W.alike d e = true ∧ d ≠ .none ∧ d.depth ≤ 100 ∧ Q (.bl (!PySem.W.dataLt d e)) H
theorem op_geD (hu : X.A.units + 200 < cLine) : OpR X (compareOp .GtE) (rGeD X.K) := by
  intro pins s σ H x y v u Q I rx ry h
  obtain ⟨d, e, hd, he, hal, hn, hz, q⟩ := h
  obtain ⟨as, r1⟩ := Dp.reads I d x v hd rx
  obtain ⟨bs, r2⟩ := Dp.reads I e y u he ry
  exact PySem.W.ge_data r1 r2 hal hn (by omega) ⟨.bl _, H, I, rfl, q⟩
theorem et_geD (hu : X.A.units + 200 < cLine) (ha : EE X σ H a da) (hb : EE X σ H b' db) (hal : PySem.W.alike da db = true) (hn : da ≠ .none) (hz : da.depth ≤ 100) : ET X σ H (.Compare a [.GtE] [b'] pos) (!PySem.W.dataLt da db) :=
  et_cmp (op_geD hu) ha hb fun x y H1 Q s1 dx dy k => ⟨da, db, dx, dy, hal, hn, hz, k _ H1 (Same.refl H1) (.bl _)⟩
/-- == and != of any data -/
theorem et_neD (hu : X.A.units + 200 < cLine) (ha : EE X σ H a da) (hb : EE X σ H b' db) (h1 : SeqAt.shaped da = true) (h2 : SeqAt.shaped db = true) : ET X σ H (.Compare a [.NotEq] [b'] pos) (!PyData.eqv da db) := et_cmp (op_neD (by omega)) ha hb (rb_neD h1 h2)
theorem ee_eqD (hu : X.A.units + 200 < cLine) (ha : EE X σ H a da) (hb : EE X σ H b' db) (h1 : SeqAt.shaped da = true) (h2 : SeqAt.shaped db = true) : EE X σ H (.Compare a [.Eq] [b'] pos) (.bool (PyData.eqv da db)) := ee_cmp (op_eqD (by omega)) ha hb (rb_eqD h1 h2)
/-- no item passes -/
theorem lcr_none {α : Type} {as : List α} {enc : α → PyData} {x : Str} {px : Pos} {iter elt c : Expr} {scope : Scope} (j : Nat) (hs : SRC X σ H (.Name x px) iter (as.map enc)) (hN : X.N.Nodup)
    (ht : ∀ d ∈ as, ∀ v H', Same H H' → Dp X.K H' v (enc d) → TBk X scope ((wipe σ [j]).set j (some v)) H' c false) (hz : as.length ≤ 100000)
    (ok : BlkOk X.N X.env.scope scope [(x, j)] := by exact blkOk_by rfl) (hg : ∀ (s : Shared) (H : Hp) (C : Addr) (cl : List (Str × Addr)) (fp : List Addr), PG (X.blk s H scope (compEnvC scope cl C X.env) fp) (.Name x px) (gName j) := by exact fun _ _ _ _ _ => pg_name (by assumption) rfl (.inl rfl)) :
    LcR X σ H elt (.Name x px) iter [c] scope [] :=
  (lcr_filt j hs hN (fun _ => false) (fun _ => .none) (fun _ _ h => absurd h Bool.false_ne_true) ht (fun _ _ h => absurd h Bool.false_ne_true) hz ok hg).is (by simp)
/-- a call with the defaults -/
theorem ee_callD {k j : Nat} {x : Str} {P : List PyData → PyData → Prop} {p : Pos} {ds : List PyData} {es : List Expr} {us : List V} {fs : List PyData} {d : PyData} (c : C8.Cal X.prog X.w X.K X.mg X.base k x (spF X.K P) us) (hr : Room j X.A) (ha : EA X σ H (e :: es) ds) (hu : ∀ H, DpAll X.K H us fs) (hP : P (ds ++ fs) d) (hk : k ≤ j := by decide) (hg : Gl X x := by rfl)
    (hdb : (x == ("__debug__" : Str)) = false := by decide) (he : starEach (e :: es) X.env = (false, eval e X.env) :: starEach es X.env := by exact star_cons (by rfl)) (hpl : (backTo pos (starEach es X.env)).any (·.1) = false := by exact star_any (by rfl)) :
    EE X σ H (.Call (.Name x p) (e :: es) [] pos) d := fun H1 s1 => we_of (C8.pe_c c hr hk hg (paw _) hdb he hpl) ((ha H1 s1).mono fun vs H2 ⟨s2, dvs⟩ =>
  ⟨ds ++ fs, d, dpAll_app dvs (hu H2), hP, fun v H3 s3 dv => ⟨s2.trans s3, dv⟩⟩)
theorem pg3 {x y z : Str} {p1 p2 p3 p4 : Pos} {kk : Nat} (i j k : Nat) (hN : X.N.Nodup) (hi : X.N[i]? = some x := by rfl) (hj : X.N[j]? = some y := by rfl) (hk : X.N[k]? = some z := by rfl) (lx : Loc X.env.scope x := by first | exact .inl rfl | exact .inr rfl) (ly : Loc X.env.scope y := by first | exact .inl rfl | exact .inr rfl) (lz : Loc X.env.scope z := by first | exact .inl rfl | exact .inr rfl)
    (fx : X.fn x = true ∨ X.env.scope.names.lookup x = some .local := by first | exact .inl rfl | exact .inr rfl) (fy : X.fn y = true ∨ X.env.scope.names.lookup y = some .local := by first | exact .inl rfl | exact .inr rfl) (fz : X.fn z = true ∨ X.env.scope.names.lookup z = some .local := by first | exact .inl rfl | exact .inr rfl) (hc : X.calm = true := by rfl) :
    PG X (.Tuple [.Name x p1, .Name y p2, .Name z p3] kk p4) (gTup X.K 3 (gCons (gName i) (gCons (gName j) (gCons (gName k) gNil)))) :=
  pg_tup hc (pgs_cons (pg_name hN hi lx fx) (pgs_cons (pg_name hN hj ly fy) (pgs_cons (pg_name hN hk lz fz) pgs_nil)))
theorem pg2 {x y : Str} {p1 p2 p4 : Pos} {kk : Nat} (i j : Nat) (hN : X.N.Nodup) (hi : X.N[i]? = some x := by rfl) (hj : X.N[j]? = some y := by rfl) (lx : Loc X.env.scope x := by first | exact .inl rfl | exact .inr rfl) (ly : Loc X.env.scope y := by first | exact .inl rfl | exact .inr rfl)
    (fx : X.fn x = true ∨ X.env.scope.names.lookup x = some .local := by first | exact .inl rfl | exact .inr rfl) (fy : X.fn y = true ∨ X.env.scope.names.lookup y = some .local := by first | exact .inl rfl | exact .inr rfl) (hc : X.calm = true := by rfl) :
    PG X (.Tuple [.Name x p1, .Name y p2] kk p4) (gTup X.K 2 (gCons (gName i) (gCons (gName j) gNil))) :=
  pg_tup hc (pgs_cons (pg_name hN hi lx fx) (pgs_cons (pg_name hN hj ly fy) pgs_nil))
theorem pgn {x : Str} {p1 : Pos} (i : Nat) (hN : X.N.Nodup) (hi : X.N[i]? = some x := by rfl) (lx : Loc X.env.scope x := by first | exact .inl rfl | exact .inr rfl) (fx : X.fn x = true ∨ X.env.scope.names.lookup x = some .local := by first | exact .inl rfl | exact .inr rfl) : PG X (.Name x p1) (gName i) := pg_name hN hi lx fx
theorem EA.at {H3 : Hp} {es : List Expr} {Q : List V → Hp → Prop} (h : EA X σ H es ds) (s : Same H H3) (k : ∀ vs H4, Same H3 H4 → DpAll X.K H4 vs ds → Q vs H4) : WA X es σ H3 Q := (h H3 s).mono fun vs H4 ⟨s4, dvs⟩ => k vs H4 s4 dvs
theorem EE.at {H3 : Hp} {Q : VK} (h : EE X σ H e d) (s : Same H H3) (k : ∀ v H4, Same H3 H4 → Dp X.K H4 v d → Q v H4) : WE X e σ H3 Q := (h H3 s).mono fun vs H4 ⟨s4, dvs⟩ => k vs H4 s4 dvs
end
end K10
set_option maxHeartbeats 4000000
/-! The defs, A: the small ones. -/
namespace K10
open PySem PySem.Spec PyProof.Rows L2
open C8 (Cal pe_c)
/-- built-ins are free in the module -/
structure Ev (mg : Str → Option Value) : Prop where
  isi : mg "isinstance" = none
  int : mg "int" = none
  bool : mg "bool" = none
  str : mg "str" = none
  list : mg "list" = none
  tuple : mg "tuple" = none
  len : mg "len" = none
  all : mg "all" = none
  any : mg "any" = none
  range : mg "range" = none
  sorted : mg "sorted" = none
  max : mg "max" = none
  min : mg "min" = none
  sum : mg "sum" = none
  abs : mg "abs" = none
  enum : mg "enumerate" = none
  ve : mg "ValueError" = none
  letters : ∃ t, mg "LETTERS" = some (.str "abcdefghijklmnopqrstuvwxyz" t)
  all' : ∃ t, mg "ALL" = some (.str "*" t)
  exch : ∃ t, mg "EXCHANGE" = some (.str "~" t)
/-- the def is known -/
structure Gd (K : PySem.W.Frag) (mg : Str → Option Value) (x : Str) (st : Stmt) : Prop where
  ex : ∃ (f : Addr) (fd : FuncData), FunD K x x (defArgs st) (defBody st) (defScope st) [] [] f fd ∧ mg x = some (.ref f)
section
variable {P : Program} {w : World} {K : PySem.W.Frag} {mg : Str → Option Value} {base : Heap}
theorem cal_data {x : Str} {st : Stmt} {N ps : List Str} {k : Nat} {Pd : List PyData → PyData → Prop} (G : Gd K mg x st) (S : FnScope N ps (defScope st))
    (hb : ∀ (kV doc pm : Value) (an : Option Addr) (cdv ct : Value) (us : List Value), us.length = ps.length → bindArgs (PySem.W.fnOf x x (defArgs st) (defBody st) (defScope st) .none kV doc pm an cdv ct) ⟨us, []⟩ = pure (ps.zip us)) (hl : ∀ ds r, Pd ds r → ds.length = ps.length)
    (hbody : ∀ (f : Addr) (cdv : Value) (A : Around) (outer : List Env) (s : Shared) (H H0 : Hp) (vs : List V) (ds : List PyData) (r : PyData) (D : Ends) (E : XK), Room k (A.deeper (envOfC x (defScope st) s.heap.objs.size f cdv)) → DpAll K H vs ds → Pd ds r → (∀ v H', Same H H' → Dp K H' v r → D.rt v H') → (r = .none → ∀ σ' H', Same H H' → D.nx σ' H') →
      WSs (cxOf CX0 P w K mg base N x (defScope st) f cdv A outer s H E).nox (defBody st) D (start N vs) H) : Cal P w K mg base (k + 1) x (spF K Pd) [] := by
  obtain ⟨f, fd, F, g⟩ := G.ex
  exact ⟨f, fd, ps, [], fn_data F S hl (hbody f), g, F.kp, F.bindsN hb, .nil⟩
/-! ### is_integer, _law_is_int -/
def isIntD : PyData → Bool
  | .int _ => true
  | _ => false
def isIntegerD (lo hi : Int) : PyData → Bool
  | .int i => decide (lo ≤ i) && decide (i ≤ hi)
  | _ => false
def P_is_int : List PyData → PyData → Prop := fun ds r => ∃ d, ds = [d] ∧ r = .bool (isIntD d)
theorem isInt_eq (d : PyData) : (isTy "int" d && !isTy "bool" d) = isIntD d := by cases d <;> rfl
theorem c_is_int (V : Ev mg) (G : Gd K mg "_law_is_int" s_L_is_int) : Cal P w K mg base 1 "_law_is_int" (spF K P_is_int) [] := by
  refine cal_data G sc_L_is_int (fun _ _ _ _ _ _ us hl => match us, hl with | [_], _ => rfl) (fun ds r ⟨d, h, _⟩ => by rw [h]; rfl) fun f cdv A outer s H H0 vs ds r D E hr hv hP hk _ => ?_
  obtain ⟨d, rfl, rfl⟩ := hP
  obtain ⟨v, rfl, dv⟩ := dpAll_1 hv
  refine wss_ret (d := .bool (isIntD d)) ?_ hk
  rw [← isInt_eq d]
  exact ev_and (ee_isi (ee_var 0 rfl dv) V.isi V.int rfl) fun _ => ev_one (ev_not (ee_isi (ee_var 0 rfl dv) V.isi V.bool rfl))
def P_is_integer : List PyData → PyData → Prop := fun ds r => ∃ d lo hi, ds = [d, .int lo, .int hi] ∧ r = .bool (isIntegerD lo hi d)
theorem c_is_integer (V : Ev mg) (G : Gd K mg "is_integer" s_is_integer) : Cal P w K mg base 1 "is_integer" (spF K P_is_integer) [] := by
  refine cal_data G sc_is_integer (fun _ _ _ _ _ _ us hl => match us, hl with | [_, _, _], _ => rfl) (fun ds r ⟨d, _, _, h, _⟩ => by rw [h]; rfl) fun f cdv A outer s H H0 vs ds r D E hr hv hP hk _ => ?_
  obtain ⟨d, lo, hi, rfl, rfl⟩ := hP
  obtain ⟨v, v1, v2, rfl, dv, d1, d2⟩ := dpAll_3 hv
  refine wss_ret (d := .bool (isIntegerD lo hi d)) ?_ hk
  have key : ∀ i, d = .int i → isIntegerD lo hi d = (isTy "int" d && (!isTy "bool" d && (decide (lo ≤ i) && decide (i ≤ hi)))) := fun i e => by subst e; simp [isIntegerD, isTy]
  by_cases hd : ∃ i, d = .int i
  · obtain ⟨i, rfl⟩ := hd
    rw [key i rfl]
    exact ev_and (ee_isi (ee_var 0 rfl dv) V.isi V.int rfl) fun _ => ev_and (ev_not (ee_isi (ee_var 0 rfl dv) V.isi V.bool rfl)) fun _ => ev_and (ee_le (ee_var 1 rfl d1) (ee_var 0 rfl dv)) fun _ => ev_one (ee_le (ee_var 0 rfl dv) (ee_var 2 rfl d2))
  · have e : isIntegerD lo hi d = (isTy "int" d && (!isTy "bool" d && false)) := by cases d <;> simp [isIntegerD] ; exact absurd ⟨_, rfl⟩ hd
    rw [e]
    refine ev_and (ee_isi (ee_var 0 rfl dv) V.isi V.int rfl) fun h1 => ev_and (ev_not (ee_isi (ee_var 0 rfl dv) V.isi V.bool rfl)) fun h2 => ?_
    cases d <;> simp [isTy] at h1 h2
    exact absurd ⟨_, rfl⟩ hd
end
end K10
set_option maxHeartbeats 4000000
/-! The defs, B: letters, worlds put together, needs met. -/
namespace K10
open PySem PySem.Spec PyProof.Rows L2 SX
open C8 (Cal pe_c)
abbrev iN (n : Nat) : PyData := .int (n : Int)
/-- a world -/
abbrev wD (w : List (List Nat)) : PyData := .tuple (w.map tx)
abbrev nD (ns : List Nat) : PyData := .tuple (ns.map iN)
/-- a need: lot, kind, number -/
abbrev needD (x : List Nat × Nat × Nat) : PyData := .tuple [nD x.1, tx [x.2.1], iN x.2.2]
/-- a net: place, kind, number -/
abbrev netD (x : Nat × Nat × Int) : PyData := .tuple [iN x.1, tx [x.2.1], .int x.2.2]
section
variable {P : Program} {w : World} {K : PySem.W.Frag} {mg : Str → Option Value} {base : Heap}
theorem room_u {k : Nat} {A : Around} (r : Room k A) : A.units + 200 < cLine := by have := r.un; omega
/-! ### _law_put -/
def putW (w : List (List Nat)) (i : Nat) (l : List Nat) : List (List Nat) := w.take i ++ ([srt (w[i]?.getD [] ++ l)] ++ w.drop (i + 1))
def smallW (w : List (List Nat)) : Prop := w.length ≤ 1000 ∧ ∀ r ∈ w, r.length ≤ 1000
def P_put : List PyData → PyData → Prop := fun ds r => ∃ (u : List (List Nat)) (i : Nat) (l : List Nat), ds = [wD u, iN i, tx l] ∧ smallW u ∧ i < u.length ∧ l.length ≤ 1000 ∧ r = wD (putW u i l)
theorem c_put (V : Ev mg) (G : Gd K mg "_law_put" s_L_put) : Cal P w K mg base 1 "_law_put" (spF K P_put) [] := by
  refine cal_data G sc_L_put (fun _ _ _ _ _ _ us hl => match us, hl with | [_, _, _], _ => rfl) (fun ds r ⟨_, _, _, h, _⟩ => by rw [h]; rfl) fun f cdv A outer s H H0 vs ds r D E hr hv hP hk _ => ?_
  obtain ⟨u, i, l, rfl, ⟨hu1, hu2⟩, hi, hl, rfl⟩ := hP
  obtain ⟨v0, v1, v2, rfl, d0, d1, d2⟩ := dpAll_3 hv
  have hrow : u[i]? = some u[i] := List.getElem?_eq_getElem hi
  have hrl : (u[i]).length ≤ 1000 := hu2 _ (List.getElem_mem hi)
  refine wss_ret (EE.is (ee_catT (ee_catT (ee_takeT (ee_var 0 rfl d0) (ee_var 1 rfl d1))
    (ee_tup (ea_1 (ee_js (l := u[i] ++ l) ee_str (ee_addS (ee_ixT (j := i) (d := tx u[i]) (ee_var 0 rfl d0) (ee_var 1 rfl d1) (by rw [List.getElem?_map, hrow]; rfl)) (ee_var 2 rfl d2) (by omega)) (by rw [List.length_append]; omega) V.sorted (room_u hr)))) ?_)
    (ee_dropT (ee_var 0 rfl d0) (ee_succ (ee_var 1 rfl d1))) ?_) ?_) hk
  · simp; omega
  · simp; omega
  · simp [putW, hrow]
/-! ### _law_joined -/
def joinW (u v : List (List Nat)) : List (List Nat) := List.zipWith (fun a b => srt (a ++ b)) u v
def P_joined : List PyData → PyData → Prop := fun ds r => ∃ (u v : List (List Nat)), ds = [wD u, wD v] ∧ smallW u ∧ smallW v ∧ u.length = v.length ∧ r = wD (joinW u v)
theorem c_joined (V : Ev mg) (G : Gd K mg "_law_joined" s_L_joined) : Cal P w K mg base 1 "_law_joined" (spF K P_joined) [] := by
  refine cal_data G sc_L_joined (fun _ _ _ _ _ _ us hl => match us, hl with | [_, _], _ => rfl) (fun ds r ⟨_, _, h, _⟩ => by rw [h]; rfl) fun f cdv A outer s H H0 vs ds r D E hr hv hP hk _ => ?_
  obtain ⟨u, v, rfl, ⟨hu1, hu2⟩, ⟨hv1, hv2⟩, hl, rfl⟩ := hP
  obtain ⟨v0, v1, rfl, d0, d1⟩ := dpAll_2 hv
  have hN := sc_L_joined.nd
  refine wss_ret (ee_tuple (ds := (joinW u v).map tx) (en_lc hN (LcR.is (lcr_map 2 (srv_rangeN (EE.is (ee_lenS (ee_var 0 rfl d0) rfl (by simp; omega) V.len) (by simp; rfl)) V.range (by omega)).src hN
    (fun i => tx (srt (u[i]?.getD [] ++ v[i]?.getD []))) (fun d hd => rfl) (fun i hi x H' s' dx s0 H0' C cl fp => ?_) (by rw [List.length_range]; omega)) ?_)).ee (.inl rfl) V.tuple) hk
  · have hi' : i < u.length := List.mem_range.mp hi
    have hj : i < v.length := hl ▸ hi'
    have h1 := hu2 _ (List.getElem_mem hi')
    have h2 := hv2 _ (List.getElem_mem hj)
    refine EE.is (ee_js (l := u[i] ++ v[i]) ee_str (ee_addS (ee_ixT (j := i) (ee_var 0 rfl (d0.same s')) (ee_var 2 rfl dx) (by rw [List.getElem?_map, List.getElem?_eq_getElem hi']; rfl)) (ee_ixT (j := i) (ee_var 1 rfl (d1.same s')) (ee_var 2 rfl dx) (by rw [List.getElem?_map, List.getElem?_eq_getElem hj]; rfl)) (by omega)) (by rw [List.length_append]; omega) V.sorted (room_u hr)) (by simp [hi', hj])
  · apply List.ext_getElem?
    intro i
    by_cases hi : i < u.length
    · have hv : i < v.length := hl ▸ hi
      rw [List.getElem?_map, List.getElem?_range hi, List.getElem?_map, joinW, List.getElem?_zipWith]
      simp [hi, hv]
    · have hv : ¬ i < v.length := hl ▸ hi
      rw [List.getElem?_eq_none (by simp; omega), List.getElem?_eq_none (by simp [joinW]; omega)]
/-! ### _law_is_met -/
def sumAt (u : List (List Nat)) (c : Nat) (lot : List Nat) : Nat := (lot.map fun p => (u[p]?.getD []).count c).sum
def metW (u : List (List Nat)) (x : List Nat × Nat × Nat) : Bool := decide (x.2.2 ≤ sumAt u x.2.1 x.1)
def P_is_met : List PyData → PyData → Prop := fun ds r => ∃ (u : List (List Nat)) (x : List Nat × Nat × Nat), ds = [wD u, needD x] ∧ x.1.length ≤ 1000 ∧ (∀ p ∈ x.1, p < u.length) ∧ r = .bool (metW u x)
theorem sum_natCast (ns : List Nat) : (ns.map fun (n : Nat) => (n : Int)).sum = (ns.sum : Nat) := by
  induction ns with
  | nil => rfl
  | cons n ns ih => rw [List.map_cons, List.sum_cons, List.sum_cons, ih, Int.natCast_add]
theorem c_is_met (V : Ev mg) (G : Gd K mg "_law_is_met" s_L_is_met) : Cal P w K mg base 1 "_law_is_met" (spF K P_is_met) [] := by
  refine cal_data G sc_L_is_met (fun _ _ _ _ _ _ us hl => match us, hl with | [_, _], _ => rfl) (fun ds r ⟨_, _, h, _⟩ => by rw [h]; rfl) fun f cdv A outer s H H0 vs ds r D E hr hv hP hk _ => ?_
  obtain ⟨u, ⟨lot, c, n⟩, rfl, hz, hp, rfl⟩ := hP
  obtain ⟨v0, v1, rfl, d0, d1⟩ := dpAll_2 hv
  have hN := sc_L_is_met.nd
  refine wss_ret (EE.is (ee_ge (i := (sumAt u c lot : Nat)) (ee_sum (ns := (lot.map fun p => ((u[p]?.getD []).count c : Nat)).map fun (n : Nat) => (n : Int)) (en_lc hN (LcR.is (lcr_map 2 (src_tup (ee_ixT (j := 0) (ee_var 1 rfl d1) ee_int rfl)) hN
    (fun p => iN ((u[p]?.getD []).count c)) (fun d hd => rfl) (fun p hi x H' s' dx s0 H0' C cl fp => ?_) (by omega)) ?_)).ee V.sum |>.is ?_) (ee_ixT (j := 2) (d := iN n) (ee_var 1 rfl d1) ee_int rfl)) ?_) hk
  · have hp' : p < u.length := hp p hi
    refine EE.is (ee_countS (l := u[p]) (c := c) (ee_ixT (j := p) (ee_var 0 rfl (d0.same s')) (ee_var 2 rfl dx) (by rw [List.getElem?_map, List.getElem?_eq_getElem hp']; rfl)) (ee_ixT (j := 1) (ee_var 1 rfl (d1.same s')) ee_int rfl)) (by simp [hp'])
  · simp
  · rw [sum_natCast]; rfl
  · unfold metW
    simp
/-! ### _law_met -/
def metStep (letter : Nat) (u : List (List Nat)) (x : List Nat × Nat × Nat) : List (List Nat) := if x.2.1 = letter then u else putW u (x.1.headD 0) (List.replicate x.2.2 x.2.1)
def metAll (n : Nat) (needs : List (List Nat × Nat × Nat)) (letter : Nat) : List (List Nat) := needs.foldl (metStep letter) (List.replicate n [])
def P_met : List PyData → PyData → Prop := fun ds r => ∃ (n : Nat) (needs : List (List Nat × Nat × Nat)) (c : Nat), ds = [iN n, .tuple (needs.map needD), tx [c]] ∧ 2 ≤ n ∧ n ≤ 100 ∧ needs.length ≤ 10 ∧ (∀ x ∈ needs, x.1 ≠ [] ∧ (∀ p ∈ x.1, p < n) ∧ x.2.2 ≤ 50) ∧ r = wD (metAll n needs c)
theorem putW_len {u : List (List Nat)} {i : Nat} {l : List Nat} (h : i < u.length) : (putW u i l).length = u.length := by
  unfold putW
  simp
  omega
theorem putW_row {u : List (List Nat)} {i : Nat} {l : List Nat} {B : Nat} (hu : ∀ r ∈ u, r.length ≤ B) (hi : i < u.length) : ∀ r ∈ putW u i l, r.length ≤ B + l.length := fun r hr => by
  unfold putW at hr
  rcases List.mem_append.mp hr with h | h
  · have := hu r (List.mem_of_mem_take h); omega
  · rcases List.mem_append.mp h with h | h
    · rw [List.mem_singleton.mp h, srt_len, List.length_append, List.getElem?_eq_getElem hi]
      have := hu _ (List.getElem_mem hi)
      simp; omega
    · have := hu r (List.mem_of_mem_drop h); omega
theorem metAll_ok {n : Nat} {c : Nat} : ∀ (needs : List (List Nat × Nat × Nat)) (u : List (List Nat)) (B : Nat), u.length = n → (∀ r ∈ u, r.length ≤ B) → (∀ x ∈ needs, x.1 ≠ [] ∧ (∀ p ∈ x.1, p < n) ∧ x.2.2 ≤ 50) →
    (needs.foldl (metStep c) u).length = n ∧ ∀ r ∈ needs.foldl (metStep c) u, r.length ≤ B + 50 * needs.length
  | [], u, B, h1, h2, _ => ⟨h1, by simpa using h2⟩
  | x :: needs, u, B, h1, h2, h3 => by
    obtain ⟨hx1, hx2, hx3⟩ := h3 x (List.mem_cons_self ..)
    have h4 : (metStep c u x).length = n ∧ ∀ r ∈ metStep c u x, r.length ≤ B + 50 := by
      unfold metStep
      split
      · exact ⟨h1, fun r hr => by have := h2 r hr; omega⟩
      · have hi : x.1.headD 0 < u.length := by
          rw [h1]
          cases e : x.1 with
          | nil => exact absurd e hx1
          | cons p l => exact hx2 p (by rw [e]; exact List.mem_cons_self ..)
        refine ⟨(putW_len hi).trans h1, fun r hr => ?_⟩
        have := putW_row h2 hi r hr
        rw [List.length_replicate] at this
        omega
    have := metAll_ok (c := c) needs _ (B + 50) h4.1 h4.2 fun y hy => h3 y (List.mem_cons_of_mem _ hy)
    rw [List.foldl_cons, List.length_cons]
    exact ⟨this.1, fun r hr => by have := this.2 r hr; omega⟩
theorem c_met (V : Ev mg) (G : Gd K mg "_law_met" s_L_met) (Cp : Cal P w K mg base 1 "_law_put" (spF K P_put) []) : Cal P w K mg base 2 "_law_met" (spF K P_met) [] := by
  refine cal_data G sc_L_met (fun _ _ _ _ _ _ us hl => match us, hl with | [_, _, _], _ => rfl) (fun ds r ⟨_, _, _, h, _⟩ => by rw [h]; rfl) fun f cdv A outer s H H0 vs ds r D E hr hv hP hk _ => ?_
  obtain ⟨n, needs, c, rfl, hn, hn2, hz, hx, rfl⟩ := hP
  obtain ⟨v0, v1, v2, rfl, d0, d1, d2⟩ := dpAll_3 hv
  have hN := sc_L_met.nd
  refine wss_set 3 hN (ee_repT (n := n) (ee_tup (ea_1 (ee_str (x := S [])))) (ee_var 0 rfl d0) (by simp) hn (by omega) (by simp)) fun v3 H1 s1 d3 => ?_
  refine wss_forV (H0 := H) (g := gName 4) PassesOwn.never s1 (srv_tup 1 rfl d1) (pg_name hN rfl (.inl rfl)) (fun i σ' H' => Same H H' ∧ ∃ v x4, σ' = [some v0, some v1, some v2, some v, x4] ∧ Dp K H' v (wD ((needs.take i).foldl (metStep c) (List.replicate n [])))) ?_ ?_ ?_ ?_
  · intro H2 s2
    refine ⟨s1.trans s2, v3, none, rfl, ?_⟩
    have e : (List.replicate n [tx []]).flatten = (List.replicate n []).map tx := by simp
    rw [e] at d3
    exact d3.same s2
  · exact fun i σ' H' p => p.1
  · rintro i d x σ' H' H'' hd ⟨s2, v, x4, rfl, dv⟩ s3 dx
    rw [List.getElem?_map] at hd
    obtain ⟨y, hy, rfl⟩ := Option.map_eq_some_iff.mp hd
    have hyn : y ∈ needs := List.mem_of_getElem? hy
    obtain ⟨hy1, hy2, hy3⟩ := hx y hyn
    have hst : needs.take (i + 1) = needs.take i ++ [y] := by rw [List.take_add_one, hy]; rfl
    obtain ⟨o1, o2⟩ := metAll_ok (c := c) (needs.take i) (List.replicate n []) 0 (by simp) (fun r hr => by rw [List.eq_of_mem_replicate hr]; simp) fun z hz => hx z (List.mem_of_mem_take hz)
    have o3 : (needs.take i).length ≤ 10 := by rw [List.length_take]; omega
    have hhd : y.1[0]? = some (y.1.headD 0) := by
      cases e : y.1 with
      | nil => exact absurd e hy1
      | cons p l => rfl
    have hlt : y.1.headD 0 < n := hy2 _ (List.mem_of_getElem? hhd)
    refine wss_if (et_neS (l := [y.2.1]) (m := [c]) (ee_ixT (j := 1) (ee_var 4 rfl dx) ee_int rfl) (ee_var 2 rfl (d2.same (s2.trans s3)))) (fun hb H5 s5 => ?_) fun hb H5 s5 => ?_
    · have hne : ¬ y.2.1 = c := by simpa using hb
      have s05 := (s2.trans s3).trans s5
      refine wss_set 3 hN (ee_call Cp hr (ea_cons (ee_var 3 rfl (dv.same (s3.trans s5))) (ea_cons (ee_ixT (j := 0) (d := iN (y.1.headD 0)) (ee_ixT (j := 0) (d := nD y.1) (ee_var 4 rfl (dx.same s5)) ee_int rfl) ee_int (by rw [List.getElem?_map, hhd]; rfl)) (ea_1 (ee_mulS (c := y.2.1) (n := (y.2.2 : Nat)) (ee_ixT (j := 1) (ee_var 4 rfl (dx.same s5)) ee_int rfl) (ee_ixT (j := 2) (ee_var 4 rfl (dx.same s5)) ee_int rfl) (by omega) (by omega))))) ⟨_, _, _, rfl, ⟨by omega, fun r hr => by have := o2 r hr; omega⟩, by omega, by simp; omega, rfl⟩) fun v' H6 s6 dv' => wss_nil (wss_nil ?_)
      refine ⟨s05.trans s6, v', some x, rfl, ?_⟩
      rw [hst, List.foldl_append]
      have e : metStep c (List.foldl (metStep c) (List.replicate n []) (List.take i needs)) y = putW (List.foldl (metStep c) (List.replicate n []) (List.take i needs)) (y.1.headD 0) (List.replicate (y.2.2 : Int).toNat y.2.1) := by
        unfold metStep
        rw [if_neg hne, Int.toNat_natCast]
      show Dp K H6 v' (wD (metStep c _ y))
      rw [e]
      exact dv'
    · have heq : y.2.1 = c := by simpa using hb
      refine wss_nil (wss_nil ⟨(s2.trans s3).trans s5, v, some x, rfl, ?_⟩)
      rw [hst, List.foldl_append]
      show Dp K H5 v (wD (metStep c _ y))
      unfold metStep
      rw [if_pos heq]
      exact dv.same (s3.trans s5)
  · rintro σ' H' ⟨s2, v, x4, rfl, dv⟩
    rw [List.length_map, List.take_length] at dv
    exact wss_ret (ee_var 3 rfl dv) fun v' H1 s' d' => hk v' H1 (s2.trans s') d'
end
end K10
set_option maxHeartbeats 4000000
/-! The defs, C: forms. -/
namespace K10
open PySem PySem.Spec PyProof.Rows L2 SX
open C8 (Cal pe_c)
/-- the letters -/
def LET : List Nat := (List.range 26).map (97 + ·)
theorem LET_S : (PySem.Str.ofString "abcdefghijklmnopqrstuvwxyz") = S LET := by decide +kernel
theorem mem_LET {c : Nat} : c ∈ LET ↔ 97 ≤ c ∧ c ≤ 122 := by
  unfold LET
  rw [List.mem_map]
  constructor
  · rintro ⟨i, hi, rfl⟩
    have := List.mem_range.mp hi
    omega
  · intro h
    exact ⟨c - 97, List.mem_range.mpr (by omega), by omega⟩
section
variable {P : Program} {w : World} {K : PySem.W.Frag} {mg : Str → Option Value} {base : Heap}
/-! ### is_part -/
def P_is_part : List PyData → PyData → Prop := fun ds r => ∃ (a b : List Nat), ds = [nD a, nD b] ∧ a.length ≤ 1000 ∧ r = .bool (a.all fun p => decide (p ∈ b))
theorem nD_ints (b : List Nat) : nD b = .tuple ((b.map fun (k : Nat) => (k : Int)).map .int) := by rw [List.map_map]; rfl
theorem c_is_part (V : Ev mg) (G : Gd K mg "is_part" s_is_part) : Cal P w K mg base 1 "is_part" (spF K P_is_part) [] := by
  refine cal_data G sc_is_part (fun _ _ _ _ _ _ us hl => match us, hl with | [_, _], _ => rfl) (fun ds r ⟨_, _, h, _⟩ => by rw [h]; rfl) fun f cdv A outer s H H0 vs ds r D E hr hv hP hk _ => ?_
  obtain ⟨a, b, rfl, hz, rfl⟩ := hP
  obtain ⟨v0, v1, rfl, d0, d1⟩ := dpAll_2 hv
  have hN := sc_is_part.nd
  refine wss_ret (EE.is (ee_all (bs := a.map fun p => decide (p ∈ b)) (en_lc hN (LcR.is (lcr_map 2 (srv_tup 0 rfl d0).src hN (fun p => .bool (decide (p ∈ b))) (fun d hd => rfl) (fun p hi x H' s' dx s0 H0' C cl fp => ?_) (by omega)) (by rw [List.map_map]; rfl))).ee V.all) (by simp [List.all_map, Function.comp_def])) hk
  refine EE.is (ee_inI (i := (p : Nat)) (ns := b.map fun (k : Nat) => (k : Int)) (ee_var 2 rfl dx) (ee_var 1 rfl (d1.same s')) (.inl (nD_ints b))) ?_
  congr 1
  rw [Bool.eq_iff_iff, decide_eq_true_eq, decide_eq_true_eq, mem_natCast]
/-! ### is_letter -/
def isLetD : PyData → Bool
  | .str z => decide (z.length = 1) && inS z (S LET)
  | _ => false
def P_is_letter : List PyData → PyData → Prop := fun ds r => ∃ d, ds = [d] ∧ (∀ z, d = .str z → z.length ≤ 1000000) ∧ r = .bool (isLetD d)
theorem c_is_letter (V : Ev mg) (G : Gd K mg "is_letter" s_is_letter) : Cal P w K mg base 1 "is_letter" (spF K P_is_letter) [] := by
  refine cal_data G sc_is_letter (fun _ _ _ _ _ _ us hl => match us, hl with | [_], _ => rfl) (fun ds r ⟨_, h, _⟩ => by rw [h]; rfl) fun f cdv A outer s H H0 vs ds r D E hr hv hP hk _ => ?_
  obtain ⟨d, rfl, hzz, rfl⟩ := hP
  obtain ⟨v0, rfl, d0⟩ := dpAll_1 hv
  refine wss_ret ?_ hk
  by_cases h : ∃ z, d = .str z
  · obtain ⟨z, rfl⟩ := h
    have e : isLetD (.str z) = (true && (decide ((z.length : Int) = 1) && inS z (S LET))) := by
      have : decide (z.length = 1) = decide ((z.length : Int) = 1) := by
        rw [Bool.eq_iff_iff, decide_eq_true_eq, decide_eq_true_eq]; omega
      simp [isLetD, this]
    rw [e]
    refine ev_and (ee_isi (ee_var 0 rfl d0) V.isi V.str rfl) fun _ => ?_
    have hz := hzz z rfl
    refine ev_and (ee_eqI (EE.is (ee_lenS (ds := K10.signs z) (ee_var 0 rfl d0) rfl (by rw [signs_len]; exact hz) V.len) (by rw [signs_len]; rfl)) ee_int) fun _ => ev_one (ee_inS (ee_var 0 rfl d0) ?_)
    have := V.letters
    rw [LET_S] at this
    exact ee_gstr this
  · have e : isLetD d = (isTy "str" d && false) := by cases d <;> simp [isLetD]; exact absurd ⟨_, rfl⟩ h
    rw [e]
    refine ev_and (ee_isi (ee_var 0 rfl d0) V.isi V.str rfl) fun h1 => ?_
    cases d <;> simp [isTy] at h1
    exact absurd ⟨_, rfl⟩ h
/-! ### is_step -/
def neqI : PyData → PyData → Bool
  | .int i, .int j => !decide (i = j)
  | _, _ => false
/-- a place's number, two of them -/
def stepInts (n : Nat) (b c : PyData) : Bool := isIntegerD 0 ((n : Int) - 1) b && (isIntegerD 0 ((n : Int) - 1) c && neqI b c)
def whatD (a : PyData) : Bool := match a with
  | .str z => decide (z = S [42]) || decide (z = S [126]) || isLetD (.str z)
  | _ => false
def isStepD (n : Nat) (d : PyData) : Bool := match d with
  | .tuple [a, b, c] => whatD a && stepInts n b c
  | _ => false
/-- a deed's step may be asked -/
def askD (d : PyData) : Prop := ∀ ds, d = .tuple ds → ds.length ≤ 1000 ∧ ∀ a b c, ds = [a, b, c] → a = .none ∨ ∃ z, a = .str z ∧ z.length ≤ 1000000
def P_is_step : List PyData → PyData → Prop := fun ds r => ∃ d n, ds = [d, iN n] ∧ askD d ∧ r = .bool (isStepD n d)
theorem star_S : (PySem.Str.ofString "*") = S [42] := by decide +kernel
theorem tilde_S : (PySem.Str.ofString "~") = S [126] := by decide +kernel
theorem c_is_step (V : Ev mg) (G : Gd K mg "is_step" s_is_step) (Cl : Cal P w K mg base 1 "is_letter" (spF K P_is_letter) []) (Ci : Cal P w K mg base 1 "is_integer" (spF K P_is_integer) []) : Cal P w K mg base 2 "is_step" (spF K P_is_step) [] := by
  refine cal_data G sc_is_step (fun _ _ _ _ _ _ us hl => match us, hl with | [_, _], _ => rfl) (fun ds r ⟨_, _, h, _⟩ => by rw [h]; rfl) fun f cdv A outer s H H0 vs ds r D E hr hv hP hk _ => ?_
  obtain ⟨d, n, rfl, ha, rfl⟩ := hP
  obtain ⟨v0, v1, rfl, d0, d1⟩ := dpAll_2 hv
  have hN := sc_is_step.nd
  by_cases ht : ∃ ds, d = .tuple ds
  · obtain ⟨ds, rfl⟩ := ht
    obtain ⟨hz, hw⟩ := ha ds rfl
    refine wss_when (EW.et (ew_or (et_not (et_val (ee_isi (ee_var 0 rfl d0) V.isi V.tuple rfl))) fun _ => ew_or1 (et_neI (ee_lenS (ee_var 0 rfl d0) rfl (by omega) V.len) ee_int))) (fun hb H1 s1 => wss_ret (ee_bool (i := false)) fun v' H2 s2 d' => hk v' H2 (s1.trans s2) (by
      have hne : ds.length ≠ 3 := by
        intro e
        rw [e] at hb
        simp [isTy] at hb
      have e : isStepD n (.tuple ds) = false := by
        match ds, hne with
        | [], _ => rfl
        | [_], _ => rfl
        | [_, _], _ => rfl
        | [_, _, _], h => exact absurd rfl h
        | _ :: _ :: _ :: _ :: _, _ => rfl
      rw [e]
      exact d')) fun hb H1 s1 => ?_
    have h3 : ds.length = 3 := by
      have : isTy "tuple" (.tuple ds) = true := rfl
      simp [this] at hb
      omega
    obtain ⟨a, b, c, rfl⟩ : ∃ a b c, ds = [a, b, c] := by
      match ds, h3 with
      | [a, b, c], _ => exact ⟨a, b, c, rfl⟩
    refine wss_asg (ee_var 0 rfl (d0.same s1)) (pg3 2 3 4 hN) fun v H2 s2 dv => g3 dv fun w1 w2 w3 e1 e2 e3 => ?_
    have s02 := s1.trans s2
    have hall := V.all'
    have hexc := V.exch
    rw [star_S] at hall
    rw [tilde_S] at hexc
    have hwa := hw a b c rfl
    have hT : ∀ H3, Same H H3 → Dp K H3 w1 a → True := fun _ _ _ => trivial
    refine wss_when (b := !whatD a) ?_ (fun hb H3 s3 => wss_ret (ee_bool (i := false)) fun v' H4 s4 d' => hk v' H4 ((s02.trans s3).trans s4) (by
      have e : isStepD n (.tuple [a, b, c]) = false := by
        have : whatD a = false := by simpa using hb
        simp [isStepD, this]
      rw [e]
      exact d')) fun hb H3 s3 => ?_
    · rcases hwa with rfl | ⟨z, rfl, hz2⟩
      · refine ET.is (EW.et (ew_and (et_ne (ee_var 2 rfl e1) (ee_gstr hall)) fun _ => ew_and (et_ne (ee_var 2 rfl e1) (ee_gstr hexc)) fun _ => ew_and1 (et_not (et_val (ee_call Cl hr (ea_1 (ee_var 2 rfl e1)) ⟨.none, rfl, (fun z e => nomatch e), rfl⟩))))) rfl
      · refine ET.is (EW.et (ew_and (et_ne (ee_var 2 rfl e1) (ee_gstr hall)) fun _ => ew_and (et_ne (ee_var 2 rfl e1) (ee_gstr hexc)) fun _ => ew_and1 (et_not (et_val (ee_call Cl hr (ea_1 (ee_var 2 rfl e1)) ⟨.str z, rfl, (fun z' e => by cases e; exact hz2), rfl⟩))))) ?_
        simp [whatD, Bool.not_or, Bool.and_assoc]
    have hwd : whatD a = true := by simpa using hb
    refine wss_ret (d := .bool (isStepD n (.tuple [a, b, c]))) ?_ fun v' H4 s4 d' => hk v' H4 ((s02.trans s3).trans s4) d'
    have e : isStepD n (.tuple [a, b, c]) = (isIntegerD 0 ((n : Int) - 1) b && (isIntegerD 0 ((n : Int) - 1) c && neqI b c)) := by
      show (whatD a && stepInts n b c) = _
      rw [hwd]
      rfl
    rw [e]
    refine ev_and (ee_call Ci hr (ea_cons (ee_var 3 rfl (e2.same s3)) (ea_cons ee_int (ea_1 (ee_sub (ee_var 1 rfl (d1.same (s02.trans s3))) ee_int)))) ⟨b, 0, (n : Int) - 1, rfl, rfl⟩) fun h1 => ?_
    refine ev_and (ee_call Ci hr (ea_cons (ee_var 4 rfl (e3.same s3)) (ea_cons ee_int (ea_1 (ee_sub (ee_var 1 rfl (d1.same (s02.trans s3))) ee_int)))) ⟨c, 0, (n : Int) - 1, rfl, rfl⟩) fun h2 => ?_
    cases b <;> simp [isIntegerD] at h1
    cases c <;> simp [isIntegerD] at h2
    exact ev_one (ee_neI (ee_var 3 rfl (e2.same s3)) (ee_var 4 rfl (e3.same s3)))
  · have e0 : isTy "tuple" d = false := by cases d <;> first | rfl | exact absurd ⟨_, rfl⟩ ht
    have e : isStepD n d = false := by cases d <;> first | rfl | exact absurd ⟨_, rfl⟩ ht
    rw [e] at hk
    refine wss_when (b := true) (ET.is (EW.et (ew_or (c := false) (et_not (et_val (ee_isi (ee_var 0 rfl d0) V.isi V.tuple rfl))) fun h => absurd h (by rw [e0]; simp))) (by rw [e0]; rfl)) (fun hb H1 s1 => wss_ret (ee_bool (i := false)) fun v' H2 s2 d' => hk v' H2 (s1.trans s2) d') fun hb => absurd hb (by simp)
end
end K10
set_option maxHeartbeats 4000000
/-! The defs, D: deeds, rows, lots, the told sense's form. -/
namespace K10
open PySem PySem.Spec PyProof.Rows L2 SX
open C8 (Cal pe_c)
mutual
/-- lists turned to tuples -/
def tupD : PyData → PyData
  | .list ds => .tuple (tupAll ds)
  | .tuple ds => .tuple (tupAll ds)
  | d => d
def tupAll : List PyData → List PyData
  | [] => []
  | d :: ds => tupD d :: tupAll ds
end
theorem tupAll_map : ∀ ds : List PyData, tupAll ds = ds.map tupD
  | [] => rfl
  | d :: ds => by rw [tupAll, tupAll_map ds, List.map_cons]
mutual
/-- no dict, no long list, at most this deep -/
def okD : Nat → PyData → Bool
  | n + 1, .list ds => decide (ds.length ≤ 1000) && okAll n ds
  | n + 1, .tuple ds => decide (ds.length ≤ 1000) && okAll n ds
  | 0, .list _ => false
  | 0, .tuple _ => false
  | _, .dict _ => false
  | _, _ => true
def okAll : Nat → List PyData → Bool
  | _, [] => true
  | n, d :: ds => okD n d && okAll n ds
end
theorem okAll_iff {n : Nat} : ∀ {ds : List PyData}, okAll n ds = true ↔ ∀ d ∈ ds, okD n d = true
  | [] => by simp [okAll]
  | d :: ds => by simp [okAll, okAll_iff (ds := ds)]
/-- deep -/
def P_deep (m : Nat) : List PyData → PyData → Prop := fun ds r => ∃ (d : PyData) (n : Int), ds = [d, .int n] ∧ (m : Int) ≤ n ∧ okD m d = true ∧ r = tupD d
/-- a deed -/
def isDeedD (n : Nat) (d : PyData) : Bool := match d with
  | .tuple ds => decide (ds.length ≤ 3) && ds.all (isStepD n)
  | _ => false
section
variable {P : Program} {w : World} {K : PySem.W.Frag} {mg : Str → Option Value} {base : Heap}
def P_is_deed : List PyData → PyData → Prop := fun ds r => ∃ d n, ds = [d, iN n] ∧ okD 4 d = true ∧ (∀ es, tupD d = .tuple es → ∀ e ∈ es, askD e) ∧ r = .bool (isDeedD n (tupD d))
theorem tupD_len {d : PyData} {es : List PyData} (h : okD 4 d = true) (e : tupD d = .tuple es) : es.length ≤ 1000 := by
  cases d <;> simp [tupD] at e
  · subst e
    simp [okD] at h
    rw [tupAll_map, List.length_map]
    exact h.1
  · subst e
    simp [okD] at h
    rw [tupAll_map, List.length_map]
    exact h.1
theorem c_is_deed (V : Ev mg) (G : Gd K mg "is_deed" s_is_deed) (Cd : Cal P w K mg base 6 "deep" (spF K (P_deep 4)) [.int 40]) (Cs : Cal P w K mg base 2 "is_step" (spF K P_is_step) []) : Cal P w K mg base 7 "is_deed" (spF K P_is_deed) [] := by
  refine cal_data G sc_is_deed (fun _ _ _ _ _ _ us hl => match us, hl with | [_, _], _ => rfl) (fun ds r ⟨_, _, h, _⟩ => by rw [h]; rfl) fun f cdv A outer s H H0 vs ds r D E hr hv hP hk _ => ?_
  obtain ⟨d, n, rfl, hok, ha, rfl⟩ := hP
  obtain ⟨v0, v1, rfl, d0, d1⟩ := dpAll_2 hv
  have hN := sc_is_deed.nd
  refine wss_set 2 hN (ee_callD Cd hr (ea_1 (ee_var 0 rfl d0)) (fs := [.int 40]) (fun H => .cons (.int 40) .nil) ⟨d, 40, rfl, by decide, hok, rfl⟩) fun v2 H1 s1 d2 => ?_
  by_cases ht : ∃ es, tupD d = .tuple es
  · obtain ⟨es, he⟩ := ht
    rw [he] at d2 hk
    have hel := tupD_len hok he
    have hae := ha es he
    refine wss_when (b := !decide (es.length ≤ 3)) (ET.is (EW.et (ew_or (et_not (et_val (ee_isi (ee_var 2 rfl d2) V.isi V.tuple rfl))) fun _ => ew_or1 (et_gt (ee_lenS (ee_var 2 rfl d2) rfl (by omega) V.len) ee_int))) ?_) (fun hb H2 s2 => wss_ret (ee_bool (i := false)) fun v' H3 s3 d' => hk v' H3 ((s1.trans s2).trans s3) (by
      have : isDeedD n (.tuple es) = false := by
        have : ¬ es.length ≤ 3 := by simpa using hb
        simp [isDeedD, this]
      rw [this]
      exact d')) fun hb H2 s2 => ?_
    · rw [Bool.eq_iff_iff]
      simp [isTy]
      omega
    · have h3 : es.length ≤ 3 := by simpa using hb
      refine wss_ret (EE.is (ee_all (bs := es.map (isStepD n)) (en_lc hN (LcR.is (lcr_map 3 (as := es) (enc := id) (by rw [List.map_id]; exact (srv_tup 2 rfl (d2.same s2)).src) hN (fun e => .bool (isStepD n e)) (fun _ _ => rfl) (fun e hi x H' s' dx s0 H0' C cl fp => ?_) (by omega)) (by rw [List.map_map]; rfl))).ee V.all) (by simp [isDeedD, h3, List.all_map, Function.comp_def])) fun v' H3 s3 d' => hk v' H3 ((s1.trans s2).trans s3) d'
      exact ee_call Cs hr (ea_cons (ee_var 3 rfl dx) (ea_1 (ee_var 1 rfl (d1.same ((s1.trans s2).trans s'))))) ⟨e, n, rfl, hae e hi, rfl⟩
  · have e0 : isTy "tuple" (tupD d) = false := by
      cases e : tupD d <;> first | rfl | exact absurd ⟨_, e⟩ ht
    have e : isDeedD n (tupD d) = false := by
      cases e : tupD d <;> first | rfl | exact absurd ⟨_, e⟩ ht
    rw [e] at hk
    refine wss_when (b := true) (ET.is (EW.et (ew_or (c := false) (et_not (et_val (ee_isi (ee_var 2 rfl d2) V.isi V.tuple rfl))) fun h => absurd h (by rw [e0]; simp))) (by rw [e0]; rfl)) (fun hb H2 s2 => wss_ret (ee_bool (i := false)) fun v' H3 s3 d' => hk v' H3 ((s1.trans s2).trans s3) d') fun hb => absurd hb (by simp)
/-! ### _law_is_letter, _law_is_triple, _law_is_lot -/
def P_Lletter : List PyData → PyData → Prop := fun ds r => ∃ c, ds = [tx [c]] ∧ r = .bool (decide (c ∈ LET))
theorem c_Lletter (V : Ev mg) (G : Gd K mg "_law_is_letter" s_L_is_letter) : Cal P w K mg base 1 "_law_is_letter" (spF K P_Lletter) [] := by
  refine cal_data G sc_L_is_letter (fun _ _ _ _ _ _ us hl => match us, hl with | [_], _ => rfl) (fun ds r ⟨_, h, _⟩ => by rw [h]; rfl) fun f cdv A outer s H H0 vs ds r D E hr hv hP hk _ => ?_
  obtain ⟨c, rfl, rfl⟩ := hP
  obtain ⟨v0, rfl, d0⟩ := dpAll_1 hv
  refine wss_ret (EE.is (ev_and (b := true) (c := decide (c ∈ LET)) (EE.is (ee_eqI (i := 1) (EE.is (ee_lenS (ds := K10.signs (S [c])) (ee_var 0 rfl d0) rfl (by simp [signs_S]) V.len) (by simp [signs_S])) ee_int) rfl) fun _ => ev_one (ee_in1 (l := LET) (ee_var 0 rfl d0) (EE.is ee_str (by rw [LET_S])))) rfl) hk
def P_triple : List PyData → PyData → Prop := fun ds r => ∃ a l n, ds = [.tuple [a, tx l, .int n]] ∧ r = .bool true
theorem c_triple (V : Ev mg) (G : Gd K mg "_law_is_triple" s_L_is_triple) (Ci : Cal P w K mg base 1 "_law_is_int" (spF K P_is_int) []) : Cal P w K mg base 2 "_law_is_triple" (spF K P_triple) [] := by
  refine cal_data G sc_L_is_triple (fun _ _ _ _ _ _ us hl => match us, hl with | [_], _ => rfl) (fun ds r ⟨_, _, _, h, _⟩ => by rw [h]; rfl) fun f cdv A outer s H H0 vs ds r D E hr hv hP hk _ => ?_
  obtain ⟨a, l, n, rfl, rfl⟩ := hP
  obtain ⟨v0, rfl, d0⟩ := dpAll_1 hv
  refine wss_ret (EE.is (ev_and (b := true) (c := true) (ee_isi (ee_var 0 rfl d0) V.isi V.tuple rfl) fun _ => EE.is (ev_and (b := true) (c := true) (EE.is (ee_eqI (i := 3) (EE.is (ee_lenS (ds := [a, tx l, .int n]) (ee_var 0 rfl d0) rfl (by simp) V.len) rfl) ee_int) rfl) fun _ =>
    EE.is (ev_and (b := true) (c := true) (ee_isi (ee_ixT (j := 1) (ee_var 0 rfl d0) ee_int rfl) V.isi V.str rfl) fun _ => ev_one (ee_call Ci hr (ea_1 (ee_ixT (j := 2) (d := .int n) (ee_var 0 rfl d0) ee_int rfl)) ⟨.int n, rfl, rfl⟩)) rfl) rfl) rfl) hk
/-- strictly ascending -/
def ascN : List Nat → Bool
  | a :: b :: r => decide (a < b) && ascN (b :: r)
  | _ => true
theorem ascN_at : ∀ {l : List Nat} {i : Nat} {a b : Nat}, ascN l = true → l[i]? = some a → l[i + 1]? = some b → a < b
  | [], _, _, _, _, h, _ => by simp at h
  | [_], _, _, _, _, _, h => by simp at h
  | a :: b :: r, 0, x, y, h, e1, e2 => by
    simp at e1 e2
    subst e1 e2
    simp [ascN] at h
    exact h.1
  | a :: b :: r, i + 1, x, y, h, e1, e2 => by
    simp [ascN] at h
    exact ascN_at (l := b :: r) (i := i) h.2 (by simpa using e1) (by simpa using e2)
def P_lot : List PyData → PyData → Prop := fun ds r => ∃ (lot : List Nat) (n : Nat), ds = [nD lot, iN n] ∧ lot ≠ [] ∧ lot.length ≤ 1000 ∧ (∀ p ∈ lot, p < n) ∧ ascN lot = true ∧ r = .bool true
theorem c_lot (V : Ev mg) (G : Gd K mg "_law_is_lot" s_L_is_lot) (Ci : Cal P w K mg base 1 "_law_is_int" (spF K P_is_int) []) : Cal P w K mg base 2 "_law_is_lot" (spF K P_lot) [] := by
  refine cal_data G sc_L_is_lot (fun _ _ _ _ _ _ us hl => match us, hl with | [_, _], _ => rfl) (fun ds r ⟨_, _, h, _⟩ => by rw [h]; rfl) fun f cdv A outer s H H0 vs ds r D E hr hv hP hk _ => ?_
  obtain ⟨lot, n, rfl, hne, hz, hp, hasc, rfl⟩ := hP
  obtain ⟨v0, v1, rfl, d0, d1⟩ := dpAll_2 hv
  have hN := sc_L_is_lot.nd
  have hlen : 0 < lot.length := List.length_pos_iff.mpr hne
  refine wss_when (b := false) (ET.is (EW.et (ew_or (b := false) (c := false) (ET.is (et_not (et_val (ee_isi (ee_var 0 rfl d0) V.isi V.tuple rfl))) rfl) fun _ => ew_or1 (ET.is (et_eqI (ee_lenS (ee_var 0 rfl d0) rfl (by simp; omega) V.len) ee_int) (by simp; exact hne)))) rfl) (fun h => absurd h (by simp)) fun _ H1 s1 => ?_
  refine wss_when (b := false) (ET.is (et_seqN (en_lc hN (lcr_none 2 (srv_tup 0 rfl (d0.same s1)).src hN (fun p hi x H' s' dx s0 H0' C cl fp => ?_) (by omega)))) rfl) (fun h => absurd h (by simp)) fun _ H2 s2 => ?_
  · refine ET.is (EW.et (ew_or (b := false) (c := false) (ET.is (et_not (et_val (ee_call Ci hr (ea_1 (ee_var 2 rfl dx)) ⟨iN p, rfl, rfl⟩))) rfl) fun _ => ew_or (b := false) (c := false) (ET.is (et_lt (ee_var 2 rfl dx) ee_int) (by simp)) fun _ => ew_or1 (ET.is (et_ge (ee_var 2 rfl dx) (ee_var 1 rfl (d1.same (s1.trans s')))) (by have := hp p hi; simp; omega)))) rfl
  have s12 := s1.trans s2
  refine wss_ret (EE.is (ev_notL (en_lc hN (lcr_none 3 (srv_rangeN (n := lot.length - 1) (EE.is (ee_sub (ee_lenS (ee_var 0 rfl (d0.same s12)) rfl (by simp; omega) V.len) ee_int) (by simp; omega)) V.range (by omega)).src hN (fun i hi x H' s' dx s0 H0' C cl fp => ?_) (by rw [List.length_range]; omega))).ee) rfl) fun v' H3 s3 d' => hk v' H3 (s12.trans s3) d'
  have hi' : i < lot.length - 1 := List.mem_range.mp hi
  have e1 : lot[i]? = some lot[i] := List.getElem?_eq_getElem (by omega)
  have e2 : lot[i + 1]? = some lot[i + 1] := List.getElem?_eq_getElem (by omega)
  have hlt := ascN_at hasc e1 e2
  have s3 := s12.trans s'
  exact ET.is (et_ge (ee_ixT (j := i) (d := iN lot[i]) (ee_var 0 rfl (d0.same s3)) (ee_var 3 rfl dx) (by rw [List.getElem?_map, e1]; rfl)) (ee_ixT (j := i + 1) (d := iN lot[i + 1]) (ee_var 0 rfl (d0.same s3)) (ee_succ (ee_var 3 rfl dx)) (by rw [List.getElem?_map, e2]; rfl))) (by simp; omega)
end
end K10
set_option maxHeartbeats 4000000
/-! The defs, E: the told sense's form. -/
namespace K10
open PySem PySem.Spec PyProof.Rows L2 SX
open C8 (Cal pe_c)
/-- a told sense -/
abbrev toldD (wh : List Nat) (nets : List (Nat × Nat × Int)) (needs : List (List Nat × Nat × Nat)) : PyData := .tuple [nD wh, .tuple (nets.map netD), .tuple (needs.map needD)]
structure FormOk (n : Nat) (wh : List Nat) (nets : List (Nat × Nat × Int)) (needs : List (List Nat × Nat × Nat)) : Prop where
  n2 : 2 ≤ n
  n6 : n ≤ 6
  whl : wh.length = n
  whp : ∀ p ∈ wh, p < n
  netl : nets.length ≤ 100
  net : ∀ x ∈ nets, x.1 < n ∧ x.2.1 ∈ LET ∧ x.2.2 ≠ 0
  neta : ∀ (i : Nat) (a b : Nat × Nat × Int), nets[i]? = some a → nets[i + 1]? = some b → PySem.W.dataLt (.tuple [iN a.1, tx [a.2.1]]) (.tuple [iN b.1, tx [b.2.1]]) = true
  needl : needs.length ≤ 10
  need : ∀ x ∈ needs, x.1 ≠ [] ∧ x.1.length ≤ 100 ∧ (∀ p ∈ x.1, p < n) ∧ ascN x.1 = true ∧ x.2.1 ∈ LET ∧ 1 ≤ x.2.2 ∧ x.2.2 ≤ 50
  needa : ∀ (i : Nat) (a b : List Nat × Nat × Nat), needs[i]? = some a → needs[i + 1]? = some b → PySem.W.dataLt (needD a) (needD b) = true
section
variable {P : Program} {w : World} {K : PySem.W.Frag} {mg : Str → Option Value} {base : Heap}
def P_form : List PyData → PyData → Prop := fun ds r => ∃ n wh nets needs, ds = [iN n, toldD wh nets needs] ∧ FormOk n wh nets needs ∧ r = .bool true
theorem alikeAll_nD : ∀ a b : List Nat, PySem.W.alikeAll (a.map iN) (b.map iN) = true
  | [], _ => by simp [PySem.W.alikeAll]
  | _ :: _, [] => by simp [PySem.W.alikeAll]
  | x :: a, y :: b => by
    rw [List.map_cons, List.map_cons, PySem.W.alikeAll, alikeAll_nD a b]
    rfl
theorem alike_need (a b : List Nat × Nat × Nat) : PySem.W.alike (needD a) (needD b) = true := by
  have h := alikeAll_nD a.1 b.1
  simp [PySem.W.alike, PySem.W.alikeAll, h]
theorem depthAll_nD : ∀ a : List Nat, PyData.depthAll (a.map iN) ≤ 1
  | [] => by simp [PyData.depthAll]
  | x :: a => by
    have := depthAll_nD a
    simp [PyData.depthAll, PyData.depth] at *
    omega
theorem depth_need (a : List Nat × Nat × Nat) : (needD a).depth ≤ 100 := by
  have := depthAll_nD a.1
  simp [PyData.depth, PyData.depthAll] at *
  omega
theorem c_form (V : Ev mg) (G : Gd K mg "_law_has_form" s_L_has_form) (Ci : Cal P w K mg base 1 "_law_is_int" (spF K P_is_int) []) (Ct : Cal P w K mg base 2 "_law_is_triple" (spF K P_triple) []) (Cl : Cal P w K mg base 2 "_law_is_lot" (spF K P_lot) []) (Ce : Cal P w K mg base 1 "_law_is_letter" (spF K P_Lletter) []) :
    Cal P w K mg base 3 "_law_has_form" (spF K P_form) [] := by
  refine cal_data G sc_L_has_form (fun _ _ _ _ _ _ us hl => match us, hl with | [_, _], _ => rfl) (fun ds r ⟨_, _, _, _, h, _⟩ => by rw [h]; rfl) fun f cdv A outer s H H0 vs ds r D E hr hv hP hk _ => ?_
  obtain ⟨n, wh, nets, needs, rfl, F, rfl⟩ := hP
  obtain ⟨v0, v1, rfl, d0, d1⟩ := dpAll_2 hv
  have hN := sc_L_has_form.nd
  have f1 := F.n2
  have f2 := F.n6
  have f3 := F.netl
  have f4 := F.needl
  have f5 := F.whl
  refine wss_when (b := false) (ET.is (EW.et (ew_or (b := false) (c := false) (ET.is (et_not (et_val (ee_isi (ee_var 1 rfl d1) V.isi V.tuple rfl))) rfl) fun _ => ew_or (b := false) (c := false) (ET.is (et_neI (EE.is (ee_lenS (ds := [nD wh, .tuple (nets.map netD), .tuple (needs.map needD)]) (ee_var 1 rfl d1) rfl (by simp) V.len) rfl) ee_int) rfl) fun _ =>
    ew_or (b := false) (c := false) (ET.is (et_not (et_val (ee_isi (ee_ixT (j := 0) (ee_var 1 rfl d1) ee_int rfl) V.isi V.tuple rfl))) rfl) fun _ => ew_or1 (ET.is (et_neI (ee_lenS (ee_ixT (j := 0) (d := nD wh) (ee_var 1 rfl d1) ee_int rfl) rfl (by simp; omega) V.len) (ee_var 0 rfl d0)) (by simp; omega)))) rfl) (fun h => absurd h (by simp)) fun _ H1 s1 => ?_
  refine wss_asg (ee_var 1 rfl (d1.same s1)) (pg3 2 3 4 hN) fun v H2 s2 dv => g3 dv fun w1 w2 w3 e1 e2 e3 => ?_
  have s02 := s1.trans s2
  refine wss_when (b := false) (ET.is (et_seqN (en_lc hN (lcr_none 6 (srv_tup 2 rfl e1).src hN (fun p hi x H' s' dx s0 H0' C cl fp => ?_) (by omega)))) rfl) (fun h => absurd h (by simp)) fun _ H3 s3 => ?_
  · exact ET.is (EW.et (ew_or (b := false) (c := false) (ET.is (et_not (et_val (ee_call Ci hr (ea_1 (ee_var 6 rfl dx)) ⟨iN p, rfl, rfl⟩))) rfl) fun _ => ew_or (b := false) (c := false) (ET.is (et_lt (ee_var 6 rfl dx) ee_int) (by simp)) fun _ => ew_or1 (ET.is (et_ge (ee_var 6 rfl dx) (ee_var 0 rfl (d0.same (s02.trans s')))) (by have := F.whp p hi; simp; omega)))) rfl
  refine wss_when (b := false) (ET.is (EW.et (ew_or (b := false) (c := false) (ET.is (et_not (et_val (ee_isi (ee_var 3 rfl (e2.same s3)) V.isi V.tuple rfl))) rfl) fun _ => ew_or1 (ET.is (et_not (et_val (ee_isi (ee_var 4 rfl (e3.same s3)) V.isi V.tuple rfl))) rfl))) rfl) (fun h => absurd h (by simp)) fun _ H4 s4 => ?_
  have s04 := (s02.trans s3).trans s4
  have s24 := s3.trans s4
  refine wss_forV (H0 := H2) (g := gName 5) PassesOwn.never s24 (srv_tup 3 rfl e2) (pg_name hN rfl (.inl rfl)) (fun i σ' H' => Same H2 H' ∧ ∃ x5, σ' = [some v0, some v1, some w1, some w2, some w3, x5, none, none]) ?_ ?_ ?_ ?_
  · exact fun H5 s5 => ⟨s24.trans s5, none, rfl⟩
  · exact fun i σ' H' p => p.1
  · rintro i d x σ' H' H'' hd ⟨s5, x5, rfl⟩ s6 dx
    rw [List.getElem?_map] at hd
    obtain ⟨y, hy, rfl⟩ := Option.map_eq_some_iff.mp hd
    obtain ⟨h1, h2, h3⟩ := F.net y (List.mem_of_getElem? hy)
    refine wss_when (b := false) (ET.is (EW.et (ew_or (b := false) (c := false) (ET.is (et_not (et_val (ee_call Ct hr (ea_1 (ee_var 5 rfl dx)) ⟨_, _, _, rfl, rfl⟩))) rfl) fun _ => ew_or (b := false) (c := false) (ET.is (et_not (et_val (ee_call Ci hr (ea_1 (ee_ixT (j := 0) (ee_var 5 rfl dx) ee_int rfl)) ⟨iN y.1, rfl, rfl⟩))) rfl) fun _ =>
      ew_or (b := false) (c := false) (ET.is (et_lt (ee_ixT (j := 0) (d := iN y.1) (ee_var 5 rfl dx) ee_int rfl) ee_int) (by simp)) fun _ => ew_or (b := false) (c := false) (ET.is (et_ge (ee_ixT (j := 0) (d := iN y.1) (ee_var 5 rfl dx) ee_int rfl) (ee_var 0 rfl (d0.same (s02.trans (s5.trans s6))))) (by simp; omega)) fun _ =>
      ew_or1 (ET.is (et_eqI (ee_ixT (j := 2) (d := .int y.2.2) (ee_var 5 rfl dx) ee_int rfl) ee_int) (by simp; exact h3)))) rfl) (fun h => absurd h (by simp)) fun _ H7 s7 => wss_nil ⟨s5.trans (s6.trans s7), some x, rfl⟩
  rintro σ' H5 ⟨s5, x5, rfl⟩
  refine wss_forV (H0 := H2) (g := gName 5) PassesOwn.never s5 (srv_tup 4 rfl e3) (pg_name hN rfl (.inl rfl)) (fun i σ' H' => Same H2 H' ∧ ∃ x5, σ' = [some v0, some v1, some w1, some w2, some w3, x5, none, none]) ?_ ?_ ?_ ?_
  · exact fun H6 s6 => ⟨s5.trans s6, x5, rfl⟩
  · exact fun i σ' H' p => p.1
  · rintro i d x σ' H' H'' hd ⟨s5, x5, rfl⟩ s6 dx
    rw [List.getElem?_map] at hd
    obtain ⟨y, hy, rfl⟩ := Option.map_eq_some_iff.mp hd
    obtain ⟨h1, h2, h3, h4, h5, h6, h7⟩ := F.need y (List.mem_of_getElem? hy)
    refine wss_when (b := false) (ET.is (EW.et (ew_or (b := false) (c := false) (ET.is (et_not (et_val (ee_call Ct hr (ea_1 (ee_var 5 rfl dx)) ⟨_, _, _, rfl, rfl⟩))) rfl) fun _ => ew_or (b := false) (c := false) (ET.is (et_not (et_val (ee_call Cl hr (ea_cons (ee_ixT (j := 0) (d := nD y.1) (ee_var 5 rfl dx) ee_int rfl) (ea_1 (ee_var 0 rfl (d0.same (s02.trans (s5.trans s6)))))) ⟨y.1, n, rfl, h1, by omega, h3, h4, rfl⟩))) rfl) fun _ =>
      ew_or1 (ET.is (et_lt (ee_ixT (j := 2) (d := iN y.2.2) (ee_var 5 rfl dx) ee_int rfl) ee_int) (by simp; omega)))) rfl) (fun h => absurd h (by simp)) fun _ H7 s7 => wss_nil ⟨s5.trans (s6.trans s7), some x, rfl⟩
  rintro σ' H6 ⟨s6, x6, rfl⟩
  have s06 := s02.trans s6
  let kinds : List (PyData × Nat) := nets.map (fun x => (netD x, x.2.1)) ++ needs.map (fun x => (needD x, x.2.1))
  have hkl : kinds.length = nets.length + needs.length := by simp [kinds]
  have hkd : kinds.map (·.1) = nets.map netD ++ needs.map needD := by
    show (nets.map (fun x => (netD x, x.2.1)) ++ needs.map (fun x => (needD x, x.2.1))).map (·.1) = _
    rw [List.map_append, List.map_map, List.map_map]
    rfl
  have hk1 : ∀ q ∈ kinds, q.2 ∈ LET ∧ ∃ a b, q.1 = .tuple [a, tx [q.2], b] := fun q hq => by
    rcases List.mem_append.mp hq with h | h
    · obtain ⟨x, hx, rfl⟩ := List.mem_map.mp h
      exact ⟨(F.net x hx).2.1, _, _, rfl⟩
    · obtain ⟨x, hx, rfl⟩ := List.mem_map.mp h
      exact ⟨(F.need x hx).2.2.2.2.1, _, _, rfl⟩
  refine wss_when (b := false) (ET.is (et_seqN (en_lc hN (lcr_none 5 (as := kinds) (enc := (·.1)) (by rw [hkd]; exact src_tup (ee_catT (ee_var 3 rfl (e2.same s6)) (ee_var 4 rfl (e3.same s6)) (by simp; omega))) hN (fun q hi x H' s' dx s0 H0' C cl fp => ?_) (by omega)))) rfl) (fun h => absurd h (by simp)) fun _ H7 s7 => ?_
  · obtain ⟨a1, a, b, a2⟩ := hk1 q hi
    rw [a2] at dx
    exact ET.is (et_not (et_val (ee_call Ce hr (ea_1 (ee_ixT (j := 1) (ee_var 5 rfl dx) ee_int rfl)) ⟨q.2, rfl, rfl⟩))) (by simp [a1])
  have s27 := s6.trans s7
  refine wss_when (b := false) (ET.is (et_seqN (en_lc hN (lcr_none 7 (srv_rangeP (n := nets.length) (EE.is (ee_sub (ee_lenS (ee_var 3 rfl (e2.same s27)) rfl (by simp; omega) V.len) ee_int) (by simp)) V.range (by omega)).src hN (fun i hi x H' s' dx s0 H0' C cl fp => ?_) (by rw [List.length_range]; omega)))) rfl) (fun h => absurd h (by simp)) fun _ H8 s8 => ?_
  · have hi' : i < nets.length - 1 := List.mem_range.mp hi
    have g1 : nets[i]? = some nets[i] := List.getElem?_eq_getElem (by omega)
    have g2 : nets[i + 1]? = some nets[i + 1] := List.getElem?_eq_getElem (by omega)
    have hlt := F.neta i _ _ g1 g2
    have s9 := s27.trans s'
    refine ET.is (et_geD (room_u hr) (ee_takeT (i := 2) (ee_ixT (j := i) (d := netD nets[i]) (ee_var 3 rfl (e2.same s9)) (ee_var 7 rfl dx) (by rw [List.getElem?_map, g1]; rfl)) ee_int) (ee_takeT (i := 2) (ee_ixT (j := i + 1) (d := netD nets[i + 1]) (ee_var 3 rfl (e2.same s9)) (ee_succ (ee_var 7 rfl dx)) (by rw [List.getElem?_map, g2]; rfl)) ee_int) rfl (fun e => nomatch e) ?_) ?_
    · simp [PyData.depth, PyData.depthAll]
    · show (!PySem.W.dataLt (.tuple [iN nets[i].1, tx [nets[i].2.1]]) (.tuple [iN nets[i + 1].1, tx [nets[i + 1].2.1]])) = false
      rw [hlt]
      rfl
  have s28 := s27.trans s8
  refine wss_ret (EE.is (ev_notL (en_lc hN (lcr_none 7 (srv_rangeP (n := needs.length) (EE.is (ee_sub (ee_lenS (ee_var 4 rfl (e3.same s28)) rfl (by simp; omega) V.len) ee_int) (by simp)) V.range (by omega)).src hN (fun i hi x H' s' dx s0 H0' C cl fp => ?_) (by rw [List.length_range]; omega))).ee) rfl) fun v' H9 s9 d' => hk v' H9 (s02.trans (s28.trans s9)) d'
  have hi' : i < needs.length - 1 := List.mem_range.mp hi
  have g1 : needs[i]? = some needs[i] := List.getElem?_eq_getElem (by omega)
  have g2 : needs[i + 1]? = some needs[i + 1] := List.getElem?_eq_getElem (by omega)
  have hlt := F.needa i _ _ g1 g2
  have s9 := s28.trans s'
  refine ET.is (et_geD (room_u hr) (ee_ixT (j := i) (d := needD needs[i]) (ee_var 4 rfl (e3.same s9)) (ee_var 7 rfl dx) (by rw [List.getElem?_map, g1]; rfl)) (ee_ixT (j := i + 1) (d := needD needs[i + 1]) (ee_var 4 rfl (e3.same s9)) (ee_succ (ee_var 7 rfl dx)) (by rw [List.getElem?_map, g2]; rfl)) (alike_need _ _) (fun e => nomatch e) (depth_need _)) (by rw [hlt]; rfl)
end
end K10
set_option maxHeartbeats 4000000
/-! The defs, F: a deed done to a world. -/
namespace K10
open PySem PySem.Spec PyProof.Rows L2 SX
open C8 (Cal pe_c)
/-- a step: what, from, to -/
abbrev stepD (x : Nat × Nat × Nat) : PyData := .tuple [tx [x.1], iN x.2.1, iN x.2.2]
def rowAt (w : List (List Nat)) (i : Nat) : List Nat := w[i]?.getD []
def stepW (w : List (List Nat)) (x : Nat × Nat × Nat) : Option (List (List Nat)) :=
  if x.1 = 42 then some ((w.set x.2.2 (srt (rowAt w x.2.2 ++ rowAt w x.2.1))).set x.2.1 [])
  else if x.1 = 126 then some ((w.set x.2.1 (rowAt w x.2.2)).set x.2.2 (rowAt w x.2.1))
  else if x.1 ∈ rowAt w x.2.1 then some ((w.set x.2.1 ((rowAt w x.2.1).erase x.1)).set x.2.2 (srt (rowAt w x.2.2 ++ [x.1])))
  else none
def doneW : List (List Nat) → List (Nat × Nat × Nat) → Option (List (List Nat))
  | w, [] => some w
  | w, x :: r => (stepW w x).bind fun w' => doneW w' r
def optW : Option (List (List Nat)) → PyData
  | some w => wD w
  | none => .none
def SortW (w : List (List Nat)) : Prop := ∀ r ∈ w, r.Pairwise (· ≤ ·)
def BndW (B : Nat) (w : List (List Nat)) : Prop := ∀ r ∈ w, r.length + 1 ≤ B
def stepOk (n : Nat) (x : Nat × Nat × Nat) : Prop := x.2.1 < n ∧ x.2.2 < n ∧ x.2.1 ≠ x.2.2
theorem rowAt_mem {w : List (List Nat)} {i : Nat} (h : i < w.length) : rowAt w i ∈ w ∧ w[i]? = some (rowAt w i) := by
  unfold rowAt
  rw [List.getElem?_eq_getElem h]
  exact ⟨List.getElem_mem h, rfl⟩
theorem erase_at {l : List Nat} {i c : Nat} (hs : l.Pairwise (· ≤ ·)) (h : l[i]? = some c) : l.take i ++ l.drop (i + 1) = l.erase c := by
  obtain ⟨hi, hc⟩ := List.getElem?_eq_some_iff.mp h
  have h0 : l = l.take i ++ c :: l.drop (i + 1) := by
    have := (List.take_append_drop i l).symm
    rw [List.drop_eq_getElem_cons hi, hc] at this
    exact this
  have hsub : (l.take i ++ l.drop (i + 1)).Sublist l := by
    conv => rhs; rw [h0]
    exact (List.sublist_cons_self _ _).append_left _
  refine sorted_eq (hs.sublist hsub) (hs.sublist List.erase_sublist) ?_
  have h1 : l.Perm (c :: (l.take i ++ l.drop (i + 1))) := by
    conv => lhs; rw [h0]
    exact List.perm_middle
  have h2 : l.Perm (c :: l.erase c) := List.perm_cons_erase (by rw [← hc]; exact List.getElem_mem hi)
  exact (h1.symm.trans h2).cons_inv
theorem set_mem {w : List (List Nat)} {i : Nat} {l r : List Nat} (h : r ∈ w.set i l) : r = l ∨ r ∈ w := by
  rcases List.mem_or_eq_of_mem_set h with h | h
  · exact .inr h
  · exact .inl h
theorem stepW_ok {w w' : List (List Nat)} {x : Nat × Nat × Nat} {B : Nat} (hs : SortW w) (hb : BndW B w) (h1 : x.2.1 < w.length) (h2 : x.2.2 < w.length) (h : stepW w x = some w') : w'.length = w.length ∧ SortW w' ∧ BndW (2 * B) w' := by
  have ha := (rowAt_mem h1).1
  have hc := (rowAt_mem h2).1
  have ba := hb _ ha
  have bc := hb _ hc
  unfold stepW at h
  split at h
  · cases h
    refine ⟨by simp, fun r hr => ?_, fun r hr => ?_⟩
    · rcases set_mem hr with rfl | hr
      · exact .nil
      · rcases set_mem hr with rfl | hr
        · exact srt_sorted _
        · exact hs r hr
    · rcases set_mem hr with rfl | hr
      · simp; omega
      · rcases set_mem hr with rfl | hr
        · rw [srt_len, List.length_append]; omega
        · have := hb r hr; omega
  · split at h
    · cases h
      refine ⟨by simp, fun r hr => ?_, fun r hr => ?_⟩
      · rcases set_mem hr with rfl | hr
        · exact hs _ ha
        · rcases set_mem hr with rfl | hr
          · exact hs _ hc
          · exact hs r hr
      · rcases set_mem hr with rfl | hr
        · omega
        · rcases set_mem hr with rfl | hr
          · omega
          · have := hb r hr; omega
    · split at h
      · cases h
        refine ⟨by simp, fun r hr => ?_, fun r hr => ?_⟩
        · rcases set_mem hr with rfl | hr
          · exact srt_sorted _
          · rcases set_mem hr with rfl | hr
            · exact (hs _ ha).sublist List.erase_sublist
            · exact hs r hr
        · rcases set_mem hr with rfl | hr
          · rw [srt_len, List.length_append]; simp; omega
          · rcases set_mem hr with rfl | hr
            · have := List.length_erase_le (a := x.1) (l := rowAt w x.2.1); omega
            · have := hb r hr; omega
      · cases h
section
variable {P : Program} {w : World} {K : PySem.W.Frag} {mg : Str → Option Value} {base : Heap}
def P_done : List PyData → PyData → Prop := fun ds r => ∃ (u : List (List Nat)) (deed : List (Nat × Nat × Nat)), ds = [wD u, .tuple (deed.map stepD)] ∧ u.length ≤ 100 ∧ SortW u ∧ BndW 1000 u ∧ deed.length ≤ 3 ∧ (∀ x ∈ deed, stepOk u.length x) ∧ r = optW (doneW u deed)
abbrev vS (l : List Nat) : V := .str (S l)
theorem dp_rows {H : Hp} {p : Addr} {u : List (List Nat)} (h : H p = some (.lst (u.map vS))) : Dp K H (.ref p) (.list (u.map tx)) := by
  refine .lst (.of h) ?_
  have := dpAll_ofStrs (K := K) (H := H) (u.map S)
  rw [List.map_map, List.map_map] at this
  exact this
theorem rows_of {H : Hp} {xs : List V} {u : List (List Nat)} (h : DpAll K H xs (u.map tx)) : xs = u.map vS := by
  have e : u.map tx = (u.map S).map .str := by rw [List.map_map]; rfl
  rw [e] at h
  rw [dpAll_strs h, List.map_map]
  rfl
theorem set_rows {u : List (List Nat)} {j : Nat} {l : List Nat} : (u.map vS).set j (vS l) = (u.set j l).map vS := by rw [List.map_set]
theorem c_done (V : Ev mg) (G : Gd K mg "_law_done" s_L_done) : Cal P w K mg base 1 "_law_done" (spF K P_done) [] := by
  refine cal_data G sc_L_done (fun _ _ _ _ _ _ us hl => match us, hl with | [_, _], _ => rfl) (fun ds r ⟨_, _, h, _⟩ => by rw [h]; rfl) fun f cdv A outer s H H0 vs ds r D E hr hv hP hk hnx => ?_
  obtain ⟨u, deed, rfl, hul, hus, hub, hdl, hdk, rfl⟩ := hP
  obtain ⟨v0, v1, rfl, d0, d1⟩ := dpAll_2 hv
  have hN := sc_L_done.nd
  refine wss_setLc 2 hN (lcr_map (as := u) (enc := tx) 8 (srv_tup 0 rfl d0).src hN tx (fun _ _ => rfl) (fun e hi x H' s' dx s0 H0' C cl fp => ee_var 8 rfl dx) (by omega)) fun p xs H1 s1 hp hx hxs => ?_
  rw [rows_of hxs] at hx
  refine wss_forV (H0 := H) (g := gTup K 3 (gCons (gName 3) (gCons (gName 4) (gCons (gName 5) gNil)))) PassesOwn.never s1 (srv_tup 1 rfl d1) (pg3 3 4 5 hN)
    (fun i σ' H' => Same H H' ∧ ∃ (c : List (List Nat)) (x3 x4 x5 x6 x7 x8 : Option L2.V), σ' = [some v0, some v1, some (.ref p), x3, x4, x5, x6, x7, x8] ∧ H' p = some (.lst (c.map vS)) ∧ c.length = u.length ∧ SortW c ∧ BndW (1000 * 2 ^ i) c ∧ doneW u deed = doneW c (deed.drop i)) ?_ ?_ ?_ ?_
  · exact fun H2 s2 => ⟨s1.trans s2, u, none, none, none, none, none, none, rfl, s2 _ _ hx, rfl, hus, by simpa using hub, by simp⟩
  · exact fun i σ' H' p => p.1
  · rintro i d x σ' H' H'' hd ⟨s2, c, x3, x4, x5, x6, x7, x8, rfl, hc, hcl, hcs, hcb, hrun⟩ s3 dx
    rw [List.getElem?_map] at hd
    obtain ⟨y, hy, rfl⟩ := Option.map_eq_some_iff.mp hd
    obtain ⟨k1, k2, k3⟩ := hdk y (List.mem_of_getElem? hy)
    have hil : i < deed.length := (List.getElem?_eq_some_iff.mp hy).1
    have hdrop : deed.drop i = y :: deed.drop (i + 1) := by
      rw [List.drop_eq_getElem_cons hil]
      obtain ⟨_, e⟩ := List.getElem?_eq_some_iff.mp hy
      rw [e]
    have hB : 1000 * 2 ^ i ≤ 8000 := by
      have : (2 : Nat) ^ i ≤ 2 ^ 3 := Nat.pow_le_pow_right (by decide) (by omega)
      omega
    have hrun' : doneW u deed = (stepW c y).bind fun w' => doneW w' (deed.drop (i + 1)) := by rw [hrun, hdrop]; rfl
    rw [← hcl] at k1 k2
    obtain ⟨ma, ga⟩ := rowAt_mem k1
    obtain ⟨mb, gb⟩ := rowAt_mem k2
    have la := hcb _ ma
    have lb := hcb _ mb
    refine g3 dx fun w3 w4 w5 e3 e4 e5 => ?_
    have hc' : H'' p = some (.lst (c.map vS)) := s3 _ _ hc
    have gA : (c.map tx)[y.2.1]? = some (tx (rowAt c y.2.1)) := by rw [List.getElem?_map, ga]; rfl
    have gB : (c.map tx)[y.2.2]? = some (tx (rowAt c y.2.2)) := by rw [List.getElem?_map, gb]; rfl
    have s03 := s2.trans s3
    have fin : ∀ (H2 : Hp) (c' : List (List Nat)) (x6 x7 x8 : Option L2.V), Same H H2 → H2 p = some (.lst (c'.map vS)) → stepW c y = some c' → Same H H2 ∧ ∃ (c : List (List Nat)) (x3 x4 x5 x6' x7' x8' : Option L2.V), [some v0, some v1, some (.ref p), some w3, some w4, some w5, x6, x7, x8] = [some v0, some v1, some (.ref p), x3, x4, x5, x6', x7', x8'] ∧ H2 p = some (.lst (c.map vS)) ∧ c.length = u.length ∧ SortW c ∧ BndW (1000 * 2 ^ (i + 1)) c ∧ doneW u deed = doneW c (deed.drop (i + 1)) := fun H2 c' x6 x7 x8 s h1 h2 => by
      obtain ⟨o1, o2, o3⟩ := stepW_ok hcs hcb k1 k2 h2
      refine ⟨s, c', _, _, _, _, _, _, rfl, h1, o1.trans hcl, o2, ?_, by rw [hrun', h2]; rfl⟩
      rw [Nat.pow_succ, Nat.mul_comm (2 ^ i) 2, ← Nat.mul_assoc, Nat.mul_comm 1000 2, Nat.mul_assoc]
      exact o3
    have eRow : ∀ {H2 : Hp} {c2 : List (List Nat)} {j : Nat}, H2 p = some (.lst (c2.map vS)) → j < c2.length → (c2.map tx)[j]? = some (tx (rowAt c2 j)) := fun _ hj => by rw [List.getElem?_map, (rowAt_mem hj).2]; rfl
    refine wss_if (et_eqS (l := [y.1]) (m := [42]) (ee_var 3 rfl e3) (EE.is ee_str (by rw [star_S]))) (fun hb H5 s5 => ?_) fun hb H5 s5 => ?_
    · have h42 : y.1 = 42 := by simpa using hb
      have hc5 := s5 _ _ hc'
      refine wss_seti (j := y.2.2) 2 rfl hc5 (by rw [List.length_map]; exact k2) (ee_js (l := rowAt c y.2.2 ++ rowAt c y.2.1) ee_str (ee_addS (ee_ixL (j := y.2.2) (ee_var 2 rfl (dp_rows hc5)) (ee_var 5 rfl (e5.same s5)) gB) (ee_ixL (j := y.2.1) (ee_var 2 rfl (dp_rows hc5)) (ee_var 4 rfl (e4.same s5)) gA) (by omega)) (by rw [List.length_append]; omega) V.sorted (room_u hr)) (ee_var 5 rfl (e5.same s5)) fun v6 H6 s6 d6 => ?_
      rw [dp_str d6, set_rows]
      have s0 := same_mut (p := p) (o := .lst ((c.set y.2.2 (srt (rowAt c y.2.2 ++ rowAt c y.2.1))).map vS)) ((s03.trans s5).trans s6) hp
      have e4' : Dp K (upd H6 p (.lst ((c.set y.2.2 (srt (rowAt c y.2.2 ++ rowAt c y.2.1))).map vS))) w4 (iN y.2.1) := by rw [dp_int e4]; exact .int _
      refine wss_seti (j := y.2.1) 2 rfl upd_same (by rw [List.length_map, List.length_set]; exact k1) (ee_str (x := S [])) (ee_var 4 rfl e4') fun v7 H7 s7 d7 => ?_
      rw [dp_str d7, set_rows]
      refine wss_nil (wss_nil (fin _ _ _ _ _ (same_mut (s0.trans s7) hp) upd_same ?_))
      unfold stepW
      rw [if_pos h42]
    refine wss_if (et_eqS (l := [y.1]) (m := [126]) (ee_var 3 rfl (e3.same s5)) (EE.is ee_str (by rw [tilde_S]))) (fun hb2 H6 s6 => ?_) fun hb2 H6 s6 => ?_
    · have h42 : ¬ y.1 = 42 := by simpa using hb
      have h126 : y.1 = 126 := by simpa using hb2
      have s56 := s5.trans s6
      have hc6 := s56 _ _ hc'
      refine wss_set 6 hN (ee_ixL (j := y.2.1) (ee_var 2 rfl (dp_rows hc6)) (ee_var 4 rfl (e4.same s56)) gA) fun v6 H7 s7 d6 => ?_
      have s57 := s56.trans s7
      have hc7 := s57 _ _ hc'
      refine wss_seti (j := y.2.1) 2 rfl hc7 (by rw [List.length_map]; exact k1) (ee_ixL (j := y.2.2) (ee_var 2 rfl (dp_rows hc7)) (ee_var 5 rfl (e5.same s57)) gB) (ee_var 4 rfl (e4.same s57)) fun v7 H8 s8 d7 => ?_
      rw [dp_str d7, set_rows]
      have s0 := same_mut (p := p) (o := .lst ((c.set y.2.1 (rowAt c y.2.2)).map vS)) ((s03.trans s57).trans s8) hp
      have e5' : Dp K (upd H8 p (.lst ((c.set y.2.1 (rowAt c y.2.2)).map vS))) w5 (iN y.2.2) := by rw [dp_int e5]; exact .int _
      have d6' : Dp K (upd H8 p (.lst ((c.set y.2.1 (rowAt c y.2.2)).map vS))) v6 (tx (rowAt c y.2.1)) := by rw [dp_str d6]; exact .str _
      refine wss_seti (j := y.2.2) 2 rfl upd_same (by rw [List.length_map, List.length_set]; exact k2) (ee_var 6 rfl d6') (ee_var 5 rfl e5') fun v9 H9 s9 d9 => ?_
      rw [dp_str d9, set_rows]
      refine wss_nil (wss_nil (wss_nil (fin _ _ _ _ _ (same_mut (s0.trans s9) hp) upd_same ?_)))
      unfold stepW
      rw [if_neg h42, if_pos h126]
    · have h42 : ¬ y.1 = 42 := by simpa using hb
      have h126 : ¬ y.1 = 126 := by simpa using hb2
      have s56 := s5.trans s6
      have hc6 := s56 _ _ hc'
      refine wss_if (et_nin1 (l := rowAt c y.2.1) (ee_var 3 rfl (e3.same s56)) (ee_ixL (j := y.2.1) (ee_var 2 rfl (dp_rows hc6)) (ee_var 4 rfl (e4.same s56)) gA)) (fun hb3 H7 s7 => ?_) fun hb3 H7 s7 => ?_
      · have hni : ¬ y.1 ∈ rowAt c y.2.1 := by simpa using hb3
        have hst : stepW c y = none := by
          unfold stepW
          rw [if_neg h42, if_neg h126, if_neg hni]
        rw [hrun', hst] at hk
        exact wss_ret ee_none fun v' H8 s8 d' => hk v' H8 (s03.trans (s56.trans (s7.trans s8))) d'
      · have hin : y.1 ∈ rowAt c y.2.1 := by simpa using hb3
        have s57 := s56.trans s7
        have hc7 := s57 _ _ hc'
        obtain ⟨at', rest, hocc, hat⟩ := index_S hin
        have hsr := hcs _ ma
        refine wss_set 7 hN (ee_sindex (z := S (rowAt c y.2.1)) (x := S [y.1]) (ee_ixL (j := y.2.1) (ee_var 2 rfl (dp_rows hc7)) (ee_var 4 rfl (e4.same s57)) gA) (ee_var 3 rfl (e3.same s57)) hocc) fun v7 H8 s8 d7 => ?_
        have s58 := s57.trans s8
        have hc8 := s58 _ _ hc'
        have hrow : EE (cxOf CX0 P w K mg base n_L_done "_law_done" (defScope s_L_done) f cdv A outer s H E).nox [some v0, some v1, some (.ref p), some w3, some w4, some w5, x6, some v7, x8] H8 (.Constant .none 0 ⟨0, 0, 0, 0⟩) .none := ee_none
        refine wss_seti (j := y.2.1) 2 rfl hc8 (by rw [List.length_map]; exact k1) (EE.is (ee_addS (l := (rowAt c y.2.1).take at') (m := (rowAt c y.2.1).drop (at' + 1)) (ee_takeS (ee_ixL (j := y.2.1) (ee_var 2 rfl (dp_rows hc8)) (ee_var 4 rfl (e4.same s58)) gA) (ee_var 7 rfl d7) (by omega)) (ee_dropS (ee_ixL (j := y.2.1) (ee_var 2 rfl (dp_rows hc8)) (ee_var 4 rfl (e4.same s58)) gA) (ee_succ (ee_var 7 rfl d7)) (by omega)) (by simp; omega)) (by rw [erase_at hsr hat])) (ee_var 4 rfl (e4.same s58)) fun v8 H9 s9 d8 => ?_
        rw [dp_str d8, set_rows]
        have s0 := same_mut (p := p) (o := .lst ((c.set y.2.1 ((rowAt c y.2.1).erase y.1)).map vS)) ((s03.trans s58).trans s9) hp
        have hh : (upd H9 p (.lst ((c.set y.2.1 ((rowAt c y.2.1).erase y.1)).map vS))) p = some (.lst ((c.set y.2.1 ((rowAt c y.2.1).erase y.1)).map vS)) := upd_same
        have e5' : Dp K (upd H9 p (.lst ((c.set y.2.1 ((rowAt c y.2.1).erase y.1)).map vS))) w5 (iN y.2.2) := by rw [dp_int e5]; exact .int _
        have e3' : Dp K (upd H9 p (.lst ((c.set y.2.1 ((rowAt c y.2.1).erase y.1)).map vS))) w3 (tx [y.1]) := by rw [dp_str e3]; exact .str _
        have hrB : rowAt (c.set y.2.1 ((rowAt c y.2.1).erase y.1)) y.2.2 = rowAt c y.2.2 := by
          unfold rowAt
          rw [List.getElem?_set_ne k3]
        have gB' := eRow hh (j := y.2.2) (by rw [List.length_set]; exact k2)
        rw [hrB] at gB'
        refine wss_seti (j := y.2.2) 2 rfl hh (by rw [List.length_map, List.length_set]; exact k2) (ee_js (l := rowAt c y.2.2 ++ [y.1]) ee_str (ee_addS (ee_ixL (j := y.2.2) (ee_var 2 rfl (dp_rows hh)) (ee_var 5 rfl e5') gB') (ee_var 3 rfl e3') (by simp; omega)) (by simp; omega) V.sorted (room_u hr)) (ee_var 5 rfl e5') fun v9 H10 s10 d9 => ?_
        rw [dp_str d9, set_rows]
        refine wss_nil (wss_nil (wss_nil (wss_nil (fin _ _ _ _ _ (same_mut (s0.trans s10) hp) upd_same ?_))))
        unfold stepW
        rw [if_neg h42, if_neg h126, if_pos hin]
  · rintro σ' H' ⟨s2, c, x3, x4, x5, x6, x7, x8, rfl, hc, hcl, hcs, hcb, hrun⟩
    rw [List.length_map, List.drop_length] at hrun
    rw [hrun] at hk
    exact wss_ret (ee_tuple (ds := c.map tx) (ee_var 2 rfl (dp_rows hc)) (.inl rfl) V.tuple) fun v' H1 s' d' => hk v' H1 (s2.trans s') d'
end
end K10
set_option maxHeartbeats 4000000
/-! The defs, G: worlds listed. -/
namespace K10
open PySem PySem.Spec PyProof.Rows L2 SX
open C8 (Cal pe_c)
/-- a list of ours that reads so -/
def Lst (K : PySem.W.Frag) (H : Hp) (p : Addr) (ds : List PyData) : Prop := ∃ xs, H p = some (.lst xs) ∧ DpAll K H xs ds
theorem Lst.same {K : PySem.W.Frag} {H H' : Hp} {p : Addr} {ds : List PyData} (h : Lst K H p ds) (s : Same H H') : Lst K H' p ds := by
  obtain ⟨xs, h1, h2⟩ := h
  exact ⟨xs, s _ _ h1, h2.same s⟩
theorem Lst.dp {K : PySem.W.Frag} {H : Hp} {p : Addr} {ds : List PyData} (h : Lst K H p ds) : Dp K H (.ref p) (.list ds) := by
  obtain ⟨xs, h1, h2⟩ := h
  exact .lst (.of h1) h2
theorem Lst.app {K : PySem.W.Frag} {H : Hp} {p : Addr} {xs zs : List V} {ds es : List PyData} (h1 : H p = some (.lst xs)) (h2 : DpAll K H xs ds) (h3 : DpAll K H zs es) (i : immAll ds = true) (j : immAll es = true) : Lst K (upd H p (.lst (xs ++ zs))) p (ds ++ es) :=
  ⟨_, upd_same, dpAll_app (h2.tx (tx_mut (Tx.refl _) h1 trivial) i) (h3.tx (tx_mut (Tx.refl _) h1 trivial) j)⟩
theorem imm_wD (w : List (List Nat)) : imm (wD w) = true := immAll_iff.mpr fun d hd => by
  obtain ⟨l, _, rfl⟩ := List.mem_map.mp hd
  rfl
theorem immAll_wD (ws : List (List (List Nat))) : immAll (ws.map wD) = true := immAll_iff.mpr fun d hd => by
  obtain ⟨l, _, rfl⟩ := List.mem_map.mp hd
  exact imm_wD l
theorem dp_repT {K : PySem.W.Frag} {H : Hp} {v : V} {n : Nat} (h : Dp K H v (.tuple (List.replicate n [tx []]).flatten)) : Dp K H v (wD (List.replicate n [])) := by
  have e : (List.replicate n [tx []]).flatten = (List.replicate n []).map tx := by simp
  rwa [e] at h
/-! what is listed -/
def freeUp (n : Nat) (w : List (List Nat)) (s : Nat) : Bool := ((List.range (n - (s + 1))).filter fun i => !decide (rowAt w (s + 1 + i) = [])).isEmpty
def aloneStep (n c : Nat) (ws : List (List (List Nat))) : List (List (List Nat)) := ws.flatMap fun w => ((List.range n).filter (freeUp n w)).map fun s => putW w s [c]
def aloneW (n c : Nat) : Nat → List (List (List Nat))
  | 0 => [List.replicate n []]
  | m + 1 => aloneStep n c (aloneW n c m)
/-- worlds of n places, rows of at most B -/
def GoodW (n B : Nat) (w : List (List Nat)) : Prop := w.length = n ∧ SortW w ∧ ∀ r ∈ w, r.length ≤ B
theorem good_rep (n : Nat) : GoodW n 0 (List.replicate n []) := ⟨by simp, fun r hr => by rw [List.eq_of_mem_replicate hr]; exact .nil, fun r hr => by rw [List.eq_of_mem_replicate hr]; simp⟩
theorem good_put {n B : Nat} {w : List (List Nat)} {i : Nat} {l : List Nat} (h : GoodW n B w) (hi : i < n) : GoodW n (B + l.length) (putW w i l) := by
  obtain ⟨h1, h2, h3⟩ := h
  refine ⟨(putW_len (by omega)).trans h1, fun r hr => ?_, putW_row h3 (by omega)⟩
  unfold putW at hr
  rcases List.mem_append.mp hr with h | h
  · exact h2 r (List.mem_of_mem_take h)
  · rcases List.mem_append.mp h with h | h
    · rw [List.mem_singleton.mp h]; exact srt_sorted _
    · exact h2 r (List.mem_of_mem_drop h)
theorem good_alone {n c : Nat} : ∀ (m : Nat), ∀ w ∈ aloneW n c m, GoodW n m w
  | 0, w, h => by rw [List.mem_singleton.mp h]; exact good_rep n
  | m + 1, w, h => by
    obtain ⟨u, hu, hw⟩ := List.mem_flatMap.mp h
    obtain ⟨s, hs, rfl⟩ := List.mem_map.mp hw
    have := good_put (l := [c]) (good_alone m u hu) (List.mem_range.mp (List.mem_filter.mp hs).1)
    simpa using this
theorem GoodW.small {n B : Nat} {w : List (List Nat)} (h : GoodW n B w) (hn : n ≤ 1000) (hB : B ≤ 1000) : smallW w := ⟨by rw [h.1]; exact hn, fun r hr => by have := h.2.2 r hr; omega⟩
section
variable {P : Program} {w : World} {K : PySem.W.Frag} {mg : Str → Option Value} {base : Heap}
def P_alone : List PyData → PyData → Prop := fun ds r => ∃ n c m, ds = [iN n, tx [c], iN m] ∧ 2 ≤ n ∧ n ≤ 6 ∧ m ≤ 3 ∧ r = .list ((aloneW n c m).map wD)
theorem flatMap_len {α : Type} {f : List (List Nat) → List α} {n : Nat} (hf : ∀ w, (f w).length ≤ n) : ∀ ws : List (List (List Nat)), (ws.flatMap f).length ≤ ws.length * n
  | [] => by simp
  | w :: ws => by
    rw [List.flatMap_cons, List.length_append, List.length_cons, Nat.succ_mul]
    have := flatMap_len hf ws
    have := hf w
    omega
theorem alone_len {n c : Nat} : ∀ m, (aloneW n c m).length ≤ n ^ m
  | 0 => by simp [aloneW]
  | m + 1 => by
    have h1 := flatMap_len (f := fun w => ((List.range n).filter (freeUp n w)).map fun s => putW w s [c]) (n := n) (fun w => by
      rw [List.length_map]
      have := List.length_filter_le (freeUp n w) (List.range n)
      rwa [List.length_range] at this) (aloneW n c m)
    have h2 := alone_len (n := n) (c := c) m
    show (aloneStep n c (aloneW n c m)).length ≤ _
    rw [Nat.pow_succ]
    exact Nat.le_trans h1 (Nat.mul_le_mul_right _ h2)
theorem c_alone (V : Ev mg) (G : Gd K mg "_law_alone" s_L_alone) (Cp : Cal P w K mg base 1 "_law_put" (spF K P_put) []) : Cal P w K mg base 2 "_law_alone" (spF K P_alone) [] := by
  refine cal_data G sc_L_alone (fun _ _ _ _ _ _ us hl => match us, hl with | [_, _, _], _ => rfl) (fun ds r ⟨_, _, _, h, _⟩ => by rw [h]; rfl) fun f cdv A outer s H H0 vs ds r D E hr hv hP hk _ => ?_
  obtain ⟨n, c, m, rfl, hn, hn6, hm, rfl⟩ := hP
  obtain ⟨v0, v1, v2, rfl, d0, d1, d2⟩ := dpAll_3 hv
  have hN := sc_L_alone.nd
  refine wss_setN 3 hN (en_lst (ea_1 (ee_repT (n := n) (ee_tup (ea_1 (ee_str (x := S [])))) (ee_var 0 rfl d0) (by simp) hn (by omega) (by simp)))) fun q xs H1 s1 hq hx hxs => ?_
  refine wss_forV (H0 := H) (g := gName 4) PassesOwn.never s1 (srv_rangeN (ee_var 2 rfl d2) V.range (by omega)) (pgn 4 hN)
    (fun i σ' H' => Same H H' ∧ ∃ (q : Addr) (x4 x5 x6 x7 x8 : Option L2.V), σ' = [some v0, some v1, some v2, some (.ref q), x4, x5, x6, x7, x8] ∧ Dp K H' (.ref q) (.list ((aloneW n c i).map wD))) ?_ ?_ ?_ ?_
  · refine fun H2 s2 => ⟨s1.trans s2, q, none, none, none, none, none, rfl, ?_⟩
    have : Dp K H1 (.ref q) (.list [wD (List.replicate n [])]) := by
      obtain ⟨x, rfl, dx⟩ := dpAll_1 hxs
      exact .lst (.of hx) (.cons (dp_repT dx) .nil)
    exact this.same s2
  · exact fun i σ' H' p => p.1
  · rintro i d x σ' H' H'' hd ⟨s2, q, x4, x5, x6, x7, x8, rfl, dq⟩ s3 dx
    have him : i < m := by
      have := (List.getElem?_eq_some_iff.mp hd).1
      simpa using this
    have hlen : (aloneW n c i).length ≤ 216 := by
      have h1 := alone_len (n := n) (c := c) i
      have h2 : n ^ i ≤ 6 ^ 3 := Nat.le_trans (Nat.pow_le_pow_left hn6 i) (Nat.pow_le_pow_right (by decide) (by omega))
      omega
    refine wss_setN 5 hN (en_lst ea_nil) fun p ys H2 s4 hp hy hys => ?_
    have dq2 := dq.same s3
    have s02 := (s2.trans s3)
    refine wss_forV (H0 := H'') (g := gName 6) PassesOwn.never s4 (srv_lst 3 rfl dq2) (pgn 6 hN)
      (fun j σ' H3 => Same H'' H3 ∧ ∃ (x6 x7 x8 : Option L2.V), σ' = [some v0, some v1, some v2, some (.ref q), some x, some (.ref p), x6, x7, x8] ∧ Lst K H3 p ((aloneStep n c ((aloneW n c i).take j)).map wD)) ?_ ?_ ?_ ?_
    · refine fun H3 s5 => ⟨s4.trans s5, x6, x7, x8, rfl, ?_⟩
      have : Lst K H2 p [] := ⟨_, hy, hys⟩
      exact this.same s5
    · exact fun i σ' H' p => p.1
    · rintro j d2 y σ' H3 H4 hd2 ⟨s5, x6, x7, x8, rfl, hl⟩ s6 dy
      rw [List.getElem?_map] at hd2
      obtain ⟨u, hu, rfl⟩ := Option.map_eq_some_iff.mp hd2
      have gu := good_alone i u (List.mem_of_getElem? hu)
      have hst : (aloneW n c i).take (j + 1) = (aloneW n c i).take j ++ [u] := by rw [List.take_add_one, hu]; rfl
      have hacc : aloneStep n c ((aloneW n c i).take (j + 1)) = aloneStep n c ((aloneW n c i).take j) ++ ((List.range n).filter (freeUp n u)).map fun s => putW u s [c] := by
        rw [hst]
        unfold aloneStep
        rw [List.flatMap_append, List.flatMap_singleton]
      have s56 := s5.trans s6
      have d0' := d0.same (s02.trans s56)
      have d1' := d1.same (s02.trans s56)
      refine wss_forV (H0 := H'') (g := gName 7) PassesOwn.never s56 (srv_rangeN (n := n) (ee_var 0 rfl (d0.same s02)) V.range (by omega)) (pgn 7 hN)
        (fun k σ' H5 => Same H'' H5 ∧ Dp K H5 y (wD u) ∧ ∃ (x7 x8 : Option L2.V), σ' = [some v0, some v1, some v2, some (.ref q), some x, some (.ref p), some y, x7, x8] ∧ Lst K H5 p (((aloneStep n c ((aloneW n c i).take j)) ++ ((List.range k).filter (freeUp n u)).map fun s => putW u s [c]).map wD)) ?_ ?_ ?_ ?_
      · exact fun H5 s7 => ⟨s56.trans s7, dy.same s7, x7, x8, rfl, by simpa using (hl.same s6).same s7⟩
      · exact fun i σ' H' p => p.1
      · rintro k d3 z σ' H5 H6 hd3 ⟨s7, dy', x7, x8, rfl, hl'⟩ s8 dz
        rw [List.getElem?_map] at hd3
        obtain ⟨k', hk', rfl⟩ := Option.map_eq_some_iff.mp hd3
        have hkn : k < n := by
          have := (List.getElem?_eq_some_iff.mp hk').1
          simpa using this
        rw [List.getElem?_range hkn] at hk'
        cases hk'
        have s78 := s7.trans s8
        have dy6 := dy'.same s8
        have hl6 := hl'.same s8
        have d0'' := d0.same (s02.trans s78)
        refine wss_when (b := freeUp n u k) (ET.is (et_not (et_seqN (en_lc hN (lcr_filt 8 (srv_rangeN2 (lo := k + 1) (n := n) (ee_succ (ee_var 7 rfl dz)) (ee_var 0 rfl d0'') V.range (by omega) (by omega)).src hN (fun a => !decide (rowAt u (k + 1 + a) = [])) (fun a => iN (k + 1 + a)) (fun _ _ _ => rfl)
          (fun a ha x' H7 s9 dx' s0 H0' C cl fp => ?_) (fun a ha _ x' H7 s9 dx' s0 H0' C cl fp => ee_var 8 rfl dx') (by rw [List.length_range]; omega))))) ?_) (fun hb H7 s9 => ?_) fun hb H7 s9 => ?_
        · have ha' : k + 1 + a < n := by have := List.mem_range.mp ha; omega
          refine et_neS (l := rowAt u (k + 1 + a)) (m := []) (ee_ixT (j := k + 1 + a) (ee_var 6 rfl (dy6.same s9)) (ee_var 8 rfl dx') ?_) ee_str
          rw [List.getElem?_map, (rowAt_mem (by rw [gu.1]; exact ha')).2]
          rfl
        · unfold freeUp
          rw [Bool.not_not]
          cases (List.filter (fun a => !decide (rowAt u (k + 1 + a) = [])) (List.range (n - (k + 1)))) <;> rfl
        · obtain ⟨zs, hz1, hz2⟩ := hl6.same s9
          refine wss_append 5 rfl hz1 ?_ (ee_call Cp hr (ea_cons (ee_var 6 rfl (dy6.same s9)) (ea_cons (ee_var 7 rfl (dz.same s9)) (ea_1 (ee_var 1 rfl (d1.same (s02.trans (s78.trans s9))))))) ⟨u, k, [c], rfl, gu.small (by omega) (by omega), by rw [gu.1]; exact hkn, by simp, rfl⟩) fun v8 H8 s10 d8 => ?_
          · rw [dpAll_len hz2, List.length_map, List.length_append, List.length_map]
            have e1 := flatMap_len (f := fun w => ((List.range n).filter (freeUp n w)).map fun s => putW w s [c]) (n := n) (fun w => by
              rw [List.length_map]
              have := List.length_filter_le (freeUp n w) (List.range n)
              rwa [List.length_range] at this) ((aloneW n c i).take j)
            have e2 : ((aloneW n c i).take j).length ≤ 216 := by rw [List.length_take]; omega
            have e3 := List.length_filter_le (freeUp n u) (List.range k)
            rw [List.length_range] at e3
            have e4 : ((aloneW n c i).take j).length * n ≤ 216 * 6 := Nat.mul_le_mul e2 hn6
            show (aloneStep n c ((aloneW n c i).take j)).length + _ < _
            have e5 : (aloneStep n c ((aloneW n c i).take j)).length ≤ 216 * 6 := Nat.le_trans e1 e4
            omega
          · have hp' : H'' p = none := hp
            refine wss_nil (wss_nil ⟨same_mut (s78.trans (s9.trans s10)) hp', ((dy6.same s9).same s10).tx (tx_mut (Tx.refl _) (s10 _ _ hz1) trivial) (imm_wD u), some z, x8, rfl, ?_⟩)
            have := Lst.app (s10 _ _ hz1) (hz2.same s10) (.cons d8 .nil) (immAll_wD _) (by simp [immAll, imm_wD])
            have e9 : ((aloneStep n c ((aloneW n c i).take j)) ++ ((List.range (k + 1)).filter (freeUp n u)).map fun s => putW u s [c]).map wD = ((aloneStep n c ((aloneW n c i).take j)) ++ ((List.range k).filter (freeUp n u)).map fun s => putW u s [c]).map wD ++ [wD (putW u k [c])] := by
              simp [List.range_succ, List.filter_append, hb]
            rw [e9]
            exact this
        · refine wss_nil ⟨s78.trans s9, dy6.same s9, some z, x8, rfl, ?_⟩
          have e9 : ((List.range (k + 1)).filter (freeUp n u)) = ((List.range k).filter (freeUp n u)) := by
            simp [List.range_succ, List.filter_append, hb]
          rw [e9]
          exact hl6.same s9
      · rintro σ' H5 ⟨s7, dy', x7, x8, rfl, hl'⟩
        rw [List.length_map, List.length_range] at hl'
        refine wss_nil ⟨s7, some y, x7, x8, rfl, ?_⟩
        rw [hacc]
        exact hl'
    · rintro σ' H3 ⟨s5, x6, x7, x8, rfl, hl⟩
      rw [List.length_map, List.take_length] at hl
      refine wss_setN 3 hN (en_list (ds := (aloneStep n c (aloneW n c i)).map wD) (ee_var 5 rfl hl.dp) (.inl rfl) V.list) fun q' ws H4 s6 hq' hw hws => wss_nil ⟨s02.trans (s5.trans s6), q', some x, some (.ref p), x6, x7, x8, rfl, .lst (.of hw) hws⟩
  · rintro σ' H2 ⟨s2, q, x4, x5, x6, x7, x8, rfl, dq⟩
    rw [List.length_map, List.length_range] at dq
    exact wss_ret (ee_var 3 rfl dq) fun v' H3 s3 d' => hk v' H3 (s2.trans s3) d'
end
end K10
set_option maxHeartbeats 4000000
/-! The defs, H: whether a deed can be done. -/
namespace K10
open PySem PySem.Spec PyProof.Rows L2 SX
open C8 (Cal pe_c)
/-- every world of as many things as the deed names, thing by thing -/
def canStep (n : Nat) (ws : List (List (List Nat))) (x : Nat × Nat × Nat) : List (List (List Nat)) := if x.1 = 42 ∨ x.1 = 126 then ws else ws.flatMap fun w => (List.range n).map fun s => putW w s [x.1]
def canWs (n : Nat) (deed : List (Nat × Nat × Nat)) : List (List (List Nat)) := deed.foldl (canStep n) [List.replicate n []]
def canB (n : Nat) (deed : List (Nat × Nat × Nat)) : Bool := decide (0 < ((canWs n deed).filter fun w => (doneW w deed).isSome).length)
theorem good_mono {n B C : Nat} {w : List (List Nat)} (h : GoodW n B w) (hB : B ≤ C) : GoodW n C w := ⟨h.1, h.2.1, fun r hr => Nat.le_trans (h.2.2 r hr) hB⟩
theorem good_can {n : Nat} : ∀ (deed : List (Nat × Nat × Nat)) (ws : List (List (List Nat))) (B : Nat), (∀ w ∈ ws, GoodW n B w) → ∀ w ∈ deed.foldl (canStep n) ws, GoodW n (B + deed.length) w
  | [], ws, B, h, w, hw => h w hw
  | x :: r, ws, B, h, w, hw => by
    have h1 : ∀ w ∈ canStep n ws x, GoodW n (B + 1) w := fun w hw => by
      unfold canStep at hw
      split at hw
      · exact good_mono (h w hw) (by omega)
      · obtain ⟨u, hu, hw⟩ := List.mem_flatMap.mp hw
        obtain ⟨s, hs, rfl⟩ := List.mem_map.mp hw
        exact good_put (l := [x.1]) (h u hu) (List.mem_range.mp hs)
    have := good_can r _ (B + 1) h1 w hw
    rw [List.length_cons]
    exact good_mono this (by omega)
theorem can_len {n : Nat} (hn : 1 ≤ n) : ∀ (deed : List (Nat × Nat × Nat)) (ws : List (List (List Nat))), (deed.foldl (canStep n) ws).length ≤ ws.length * n ^ deed.length
  | [], ws => by simp
  | x :: r, ws => by
    have h1 : (canStep n ws x).length ≤ ws.length * n := by
      unfold canStep
      split
      · exact Nat.le_mul_of_pos_right _ hn
      · exact flatMap_len (fun w => by rw [List.length_map, List.length_range]; exact Nat.le_refl _) ws
    have := can_len hn r (canStep n ws x)
    rw [List.foldl_cons, List.length_cons, Nat.pow_succ, Nat.mul_comm (n ^ r.length) n, ← Nat.mul_assoc]
    exact Nat.le_trans this (Nat.mul_le_mul_right _ h1)
theorem star2_S : (PySem.Str.ofString "*~") = S [42, 126] := by decide +kernel
section
variable {P : Program} {w : World} {K : PySem.W.Frag} {mg : Str → Option Value} {base : Heap}
def P_can : List PyData → PyData → Prop := fun ds r => ∃ n deed, ds = [iN n, .tuple (deed.map stepD)] ∧ 2 ≤ n ∧ n ≤ 6 ∧ deed.length ≤ 3 ∧ (∀ x ∈ deed, stepOk n x) ∧ r = .bool (canB n deed)
theorem imm_isNone (o : Option (List (List Nat))) : isNoneD (optW o) = o.isNone := by cases o <;> rfl
theorem c_can (V : Ev mg) (G : Gd K mg "_law_can_be_done" s_L_can_be_done) (Cp : Cal P w K mg base 1 "_law_put" (spF K P_put) []) (Cd : Cal P w K mg base 1 "_law_done" (spF K P_done) []) : Cal P w K mg base 2 "_law_can_be_done" (spF K P_can) [] := by
  refine cal_data G sc_L_can_be_done (fun _ _ _ _ _ _ us hl => match us, hl with | [_, _], _ => rfl) (fun ds r ⟨_, _, h, _⟩ => by rw [h]; rfl) fun f cdv A outer s H H0 vs ds r D E hr hv hP hk _ => ?_
  obtain ⟨n, deed, rfl, hn, hn6, hdl, hdk, rfl⟩ := hP
  obtain ⟨v0, v1, rfl, d0, d1⟩ := dpAll_2 hv
  have hN := sc_L_can_be_done.nd
  have hpow : ∀ i, i ≤ 3 → n ^ i ≤ 216 := fun i hi => Nat.le_trans (Nat.pow_le_pow_left hn6 i) (Nat.pow_le_pow_right (n := 6) (by decide) hi)
  have hlen : ∀ i, (canWs n (deed.take i)).length ≤ 216 := fun i => by
    have h1 := can_len (n := n) (by omega) (deed.take i) [List.replicate n []]
    have h2 := hpow (deed.take i).length (by rw [List.length_take]; omega)
    rw [List.length_singleton, Nat.one_mul] at h1
    exact Nat.le_trans h1 h2
  have hgood : ∀ i, ∀ w ∈ canWs n (deed.take i), GoodW n 3 w := fun i w hw => by
    have := good_can (n := n) (deed.take i) [List.replicate n []] 0 (fun w hw => by rw [List.mem_singleton.mp hw]; exact good_rep n) w hw
    exact good_mono this (by rw [List.length_take]; omega)
  refine wss_setN 2 hN (en_lst (ea_1 (ee_repT (n := n) (ee_tup (ea_1 (ee_str (x := S [])))) (ee_var 0 rfl d0) (by simp) hn (by omega) (by simp)))) fun q xs H1 s1 hq hx hxs => ?_
  refine wss_forV (H0 := H) (g := gName 3) PassesOwn.never s1 (srv_tup 1 rfl d1) (pgn 3 hN)
    (fun i σ' H' => Same H H' ∧ ∃ (q : Addr) (x3 x4 x5 x6 : Option L2.V), σ' = [some v0, some v1, some (.ref q), x3, x4, x5, x6] ∧ Dp K H' (.ref q) (.list ((canWs n (deed.take i)).map wD))) ?_ ?_ ?_ ?_
  · refine fun H2 s2 => ⟨s1.trans s2, q, none, none, none, none, rfl, ?_⟩
    have : Dp K H1 (.ref q) (.list [wD (List.replicate n [])]) := by
      obtain ⟨x, rfl, dx⟩ := dpAll_1 hxs
      exact .lst (.of hx) (.cons (dp_repT dx) .nil)
    exact this.same s2
  · exact fun i σ' H' p => p.1
  · rintro i d x σ' H' H'' hd ⟨s2, q, x3, x4, x5, x6, rfl, dq⟩ s3 dx
    rw [List.getElem?_map] at hd
    obtain ⟨y, hy, rfl⟩ := Option.map_eq_some_iff.mp hd
    have hst : canWs n (deed.take (i + 1)) = canStep n (canWs n (deed.take i)) y := by
      have : deed.take (i + 1) = deed.take i ++ [y] := by rw [List.take_add_one, hy]; rfl
      unfold canWs
      rw [this, List.foldl_append]
      rfl
    have s02 := s2.trans s3
    refine wss_when (b := !decide (y.1 ∈ [42, 126])) (et_nin1 (l := [42, 126]) (ee_ixT (j := 0) (d := tx [y.1]) (ee_var 3 rfl dx) ee_int rfl) (EE.is ee_str (by rw [star2_S]))) (fun hb H1' s4 => ?_) fun hb H1' s4 => ?_
    · have hy42 : ¬ (y.1 = 42 ∨ y.1 = 126) := by simpa using hb
      have s024 := s02.trans s4
      have dq2 := dq.same (s3.trans s4)
      refine wss_setN 4 hN (en_lst ea_nil) fun p ys H2 s5 hp hy' hys => ?_
      refine wss_forV (H0 := H1') (g := gName 5) PassesOwn.never s5 (srv_lst 2 rfl dq2) (pgn 5 hN)
        (fun j σ' H3 => Same H1' H3 ∧ ∃ (x5 x6 : Option L2.V), σ' = [some v0, some v1, some (.ref q), some x, some (.ref p), x5, x6] ∧ Lst K H3 p ((((canWs n (deed.take i)).take j).flatMap fun w => (List.range n).map fun s => putW w s [y.1]).map wD)) ?_ ?_ ?_ ?_
      · refine fun H3 s6 => ⟨s5.trans s6, x5, x6, rfl, ?_⟩
        have : Lst K H2 p [] := ⟨_, hy', hys⟩
        exact this.same s6
      · exact fun i σ' H' p => p.1
      · rintro j d2 z σ' H3 H4 hd2 ⟨s6, x5, x6, rfl, hl⟩ s7 dz
        rw [List.getElem?_map] at hd2
        obtain ⟨u, hu, rfl⟩ := Option.map_eq_some_iff.mp hd2
        have gu := hgood i u (List.mem_of_getElem? hu)
        obtain ⟨zs, hz1, hz2⟩ := hl.same s7
        have s67 := s6.trans s7
        have hj : (((canWs n (deed.take i)).take j).flatMap fun w => (List.range n).map fun s => putW w s [y.1]).length ≤ 216 * 6 := by
          have e1 := flatMap_len (f := fun w => (List.range n).map fun s => putW w s [y.1]) (n := n) (fun w => by rw [List.length_map, List.length_range]; exact Nat.le_refl _) ((canWs n (deed.take i)).take j)
          have e2 : ((canWs n (deed.take i)).take j).length ≤ 216 := by have := hlen i; rw [List.length_take]; omega
          exact Nat.le_trans e1 (Nat.mul_le_mul e2 hn6)
        refine wss_extend 4 rfl hz1 ?_ (en_lc hN (lcr_map 6 (srv_rangeN (n := n) (ee_var 0 rfl (d0.same (s024.trans s67))) V.range (by omega)).src hN (fun s => wD (putW u s [y.1])) (fun _ _ => imm_wD _) (fun a ha x' H5 s8 dx' s0 H0' C cl fp => ?_) (by rw [List.length_range]; omega))) fun us H5 s8 hus => ?_
        · rw [dpAll_len hz2, List.length_map, List.length_map, List.length_range]
          omega
        · have hdx : Dp K H1' x (stepD y) := dx.same s4
          exact ee_call Cp hr (ea_cons (ee_var 5 rfl (dz.same s8)) (ea_cons (ee_var 6 rfl dx') (ea_1 (ee_ixT (j := 0) (d := tx [y.1]) (ee_var 3 rfl (hdx.same (s67.trans s8))) ee_int rfl)))) ⟨u, a, [y.1], rfl, gu.small (by omega) (by omega), by rw [gu.1]; exact List.mem_range.mp ha, by simp, rfl⟩
        · refine wss_nil ⟨same_mut (s67.trans s8) hp, some z, x6, rfl, ?_⟩
          have e9 : (((canWs n (deed.take i)).take (j + 1)).flatMap fun w => (List.range n).map fun s => putW w s [y.1]).map wD = (((canWs n (deed.take i)).take j).flatMap fun w => (List.range n).map fun s => putW w s [y.1]).map wD ++ ((List.range n).map fun s => wD (putW u s [y.1])) := by
            rw [List.take_add_one, hu, Option.toList_some, List.flatMap_append, List.flatMap_singleton, List.map_append, List.map_map]
            rfl
          rw [e9]
          exact Lst.app (s8 _ _ hz1) (hz2.same s8) hus (immAll_wD _) (immAll_iff.mpr fun d hd => by obtain ⟨a, _, rfl⟩ := List.mem_map.mp hd; exact imm_wD _)
      · rintro σ' H3 ⟨s6, x5, x6, rfl, hl⟩
        rw [List.length_map, List.take_length] at hl
        refine wss_setN 2 hN (en_list (ds := (canWs n (deed.take (i + 1))).map wD) (EE.is (ee_var 4 rfl hl.dp) (by rw [hst]; unfold canStep; rw [if_neg hy42])) (.inl rfl) V.list) fun q' ws H4 s7 hq' hw hws => wss_nil (wss_nil ⟨s024.trans (s6.trans s7), q', some x, some (.ref p), x5, x6, rfl, .lst (.of hw) hws⟩)
    · have hy42 : y.1 = 42 ∨ y.1 = 126 := by
        simp at hb
        omega
      refine wss_nil ⟨s02.trans s4, q, some x, x4, x5, x6, rfl, ?_⟩
      rw [hst]
      unfold canStep
      rw [if_pos hy42]
      exact dq.same (s3.trans s4)
  · rintro σ' H2 ⟨s2, q, x3, x4, x5, x6, rfl, dq⟩
    rw [List.length_map, List.take_length] at dq
    have hl3 := hlen deed.length
    have hg3 := hgood deed.length
    rw [List.take_length] at hl3 hg3
    refine wss_ret (EE.is (ee_gt (j := 0) (ee_lenS (ds := ((canWs n deed).filter fun w => (doneW w deed).isSome).map wD) (en_lc hN (lcr_filt 5 (srv_lst 2 rfl dq).src hN (fun w => (doneW w deed).isSome) wD (fun w _ _ => imm_wD w) (fun u hu x' H5 s8 dx' s0 H0' C cl fp => ?_) (fun u hu _ x' H5 s8 dx' s0 H0' C cl fp => ee_var 5 rfl dx') (by omega))).ee rfl ?_ V.len) ee_int) ?_) fun v' H3 s3 d' => hk v' H3 (s2.trans s3) d'
    · have gu := hg3 u hu
      refine ET.is (et_notN (ee_call Cd hr (ea_cons (ee_var 5 rfl dx') (ea_1 (ee_var 1 rfl (d1.same (s2.trans s8))))) ⟨u, deed, rfl, by rw [gu.1]; omega, gu.2.1, fun r hr => by have := gu.2.2 r hr; omega, hdl, by rw [gu.1]; exact hdk, rfl⟩)) ?_
      rw [imm_isNone]
      cases doneW u deed <;> rfl
    · rw [List.length_map]
      have := List.length_filter_le (fun w => (doneW w deed).isSome) (canWs n deed)
      omega
    · unfold canB
      rw [List.length_map]
      congr 1
      rw [Bool.eq_iff_iff, decide_eq_true_eq, decide_eq_true_eq]
      omega
end
end K10
set_option maxHeartbeats 4000000
/-! The defs, I: _law_listed, _law_exact. -/
namespace K10
open PySem PySem.Spec PyProof.Rows L2 SX
open C8 (Cal pe_c)
mutual
/-- tuples turned to lists -/
def listD : PyData → PyData
  | .list ds => .list (listAll ds)
  | .tuple ds => .list (listAll ds)
  | d => d
def listAll : List PyData → List PyData
  | [] => []
  | d :: ds => listD d :: listAll ds
end
theorem listAll_map : ∀ ds : List PyData, listAll ds = ds.map listD
  | [] => rfl
  | d :: ds => by rw [listAll, listAll_map ds, List.map_cons]
/-- reads so whatever becomes of what H knows -/
def Apart (K : PySem.W.Frag) (H H' : Hp) (v : V) (d : PyData) : Prop := ∀ H'' : Hp, (∀ b u, H b = none → H' b = some u → H'' b = some u) → Dp K H'' v d
def spL (K : PySem.W.Frag) (m : Nat) : Sp := fun vs H Q _ => ∃ d, DpAll K H vs [d] ∧ okD m d = true ∧ ∀ v H', Same H H' → Apart K H H' v (listD d) → Q v H'
theorem Apart.dp {K : PySem.W.Frag} {H H' : Hp} {v : V} {d : PyData} (h : Apart K H H' v d) : Dp K H' v d := h H' fun _ _ _ e => e
section
variable {P : Program} {w : World} {K : PySem.W.Frag} {mg : Str → Option Value} {base : Heap}
theorem dp_scal {K : PySem.W.Frag} {H H' : Hp} {v : V} {d : PyData} (h1 : isTy "tuple" d = false) (h2 : isTy "list" d = false) (h : Dp K H v d) : Dp K H' v d := by
  cases h with
  | non => exact .non
  | bl b => exact .bl b
  | int i => exact .int i
  | str x => exact .str x
  | lst _ _ => simp [isTy] at h2
  | tup _ _ => simp [isTy] at h1
theorem okD_seq {m : Nat} {ds : List PyData} {d : PyData} (hd : d = .list ds ∨ d = .tuple ds) (h : okD m d = true) : ∃ k, m = k + 1 ∧ ds.length ≤ 1000 ∧ ∀ e ∈ ds, okD k e = true := by
  rcases hd with rfl | rfl
  · cases m with
    | zero => simp [okD] at h
    | succ k =>
      simp [okD] at h
      exact ⟨k, rfl, h.1, okAll_iff.mp h.2⟩
  · cases m with
    | zero => simp [okD] at h
    | succ k =>
      simp [okD] at h
      exact ⟨k, rfl, h.1, okAll_iff.mp h.2⟩
theorem src_seq {X : Cx} {σ : L2.St} {H : Hp} {tg e : Expr} {ds : List PyData} {d : PyData} (hd : d = .list ds ∨ d = .tuple ds) (h : EE X σ H e d) : SRC X σ H tg e ds := by
  rcases hd with rfl | rfl
  · exact src_lst h
  · exact src_tup h
theorem seq_of {d : PyData} (h : (isTy "tuple" d || isTy "list" d) = true) : ∃ ds, d = .list ds ∨ d = .tuple ds := by
  cases d <;> simp [isTy] at h
  · exact ⟨_, .inl rfl⟩
  · exact ⟨_, .inr rfl⟩
theorem fn_listed (V : Ev mg) {f : Addr} {fd : FuncData} (F : FunD K "_law_listed" "_law_listed" (defArgs s_L_listed) (defBody s_L_listed) (defScope s_L_listed) [] [] f fd) (g : mg "_law_listed" = some (.ref f)) : ∀ m, FnOk P w K mg base CX0 (m + 1) f fd p_L_listed (spL K m) := by
  intro m
  refine F.ok sc_L_listed (fun vs H Q E ⟨d, hv, _⟩ => dpAll_len hv) fun cdv A outer s H vs Q E hr h => ?_
  obtain ⟨d, hv, hok, hk⟩ := h
  obtain ⟨v0, rfl, d0⟩ := dpAll_1 hv
  have hN := sc_L_listed.nd
  refine ⟨_, PSs.nox (pssw _), ?_⟩
  refine wss_when (b := isTy "tuple" d || isTy "list" d) (EW.et (ew_or (et_val (ee_isi (ee_var 0 rfl d0) V.isi V.tuple rfl)) fun _ => ew_or1 (et_val (ee_isi (ee_var 0 rfl d0) V.isi V.list rfl)))) (fun hb H1 s1 => ?_) fun hb H1 s1 => ?_
  · obtain ⟨ds, hd⟩ := seq_of hb
    obtain ⟨k, rfl, hz, hall⟩ := okD_seq hd hok
    have hl : listD d = .list (ds.map listD) := by rcases hd with rfl | rfl <;> simp [listD, listAll_map]
    have C1 : Cal P w K mg base (k + 1) "_law_listed" (spL K k) [] := ⟨f, fd, _, [], fn_listed V F g k, g, F.kp, F.bindsN (fun _ _ _ _ _ _ us hl => match us, hl with | [_], _ => rfl), .nil⟩
    have hR : Rst (fun D H4 x e => ∀ H' : Hp, (∀ b, H1 b = none → b ≠ D → ∀ u, H4 b = some u → H' b = some u) → Dp K H' x e) := ⟨fun h s H' k => h H' fun b h1 h2 u e => k b h1 h2 u (s _ _ e), fun h e H' k => h H' fun b h1 h2 u e' => k b h1 h2 u (by rw [upd_ne h2]; exact e')⟩
    refine wss_of (pss_cons (ps_ret (pw _)) (pssw _)) ?_
    refine we_lcm (as := ds) (enc := id) (g := gName 1) hN hR [("_law_one", 1)] (by rw [List.map_id]; exact src_seq hd (ee_var 0 rfl (d0.same s1))) (blkOk_by rfl) (fun _ _ _ _ _ => pgn 1 hN) listD (by omega) (fun D e x H' he s' hn hn' dx Rr kk => ?_) fun p xs H2 s2 hp hq hx => ?_
    · refine kk _ ?_ fun H3 s3 s0 H0' C cl fp => ?_
      · show ((wipe (start n_L_listed [v0]) [1]).set 1 (some x)).set 1 none = (start n_L_listed [v0]).set 1 none
        rfl
      · refine we_of (pe_c C1 hr (Nat.le_refl _) rfl (paw _)) ?_
        refine EA.at (ea_1 (ee_var 1 rfl dx)) s3 fun vs H4 s4 dvs => ?_
        rw [List.append_nil]
        refine ⟨e, dvs, hall e he, fun v H5 s5 ap => ⟨s4.trans s5, fun H6 hk6 => ap H6 fun b u hb hu => hk6 b ?_ ?_ u hu⟩⟩
        · cases hz : H1 b with
          | none => rfl
          | some o => have := s4 _ _ (s3 _ _ (s' _ _ hz)); rw [this] at hb; cases hb
        · rintro rfl
          cases hz : H' b with
          | none => exact hn' hz
          | some o => have := s4 _ _ (s3 _ _ hz); rw [this] at hb; cases hb
    · refine hk _ H2 (s1.trans s2) fun H3 h3 => ?_
      rw [hl]
      have hpH : H p = none := s1.free hp
      exact .lst (.of (h3 p _ hpH hq)) (rall_dp (R := fun H4 x e => Dp K H4 x e) (H := H3) (fun _ _ r => r) (Paired.mapP hx fun a b r => r H3 fun c hc _ u hu => h3 c u (s1.free hc) hu))
  · have h1 : isTy "tuple" d = false := by cases h : isTy "tuple" d <;> simp [h] at hb ⊢
    have h2 : isTy "list" d = false := by cases h : isTy "list" d <;> simp [h] at hb ⊢
    have e : listD d = d := by cases d <;> first | rfl | simp [isTy] at h1 h2
    refine wss_ret (ee_var 0 rfl (d0.same s1)) fun v H2 s2 dv => hk v H2 (s1.trans s2) ?_
    rw [e]
    exact fun H3 _ => dp_scal h1 h2 dv
/-! ### _law_exact -/
def P_exact (m : Nat) : List PyData → PyData → Prop := fun ds r => ∃ d, ds = [d, d] ∧ okD m d = true ∧ r = .bool true
theorem ixD {X : Cx} {σ : L2.St} {H : Hp} {a b' : Expr} {pos : Pos} {ds : List PyData} {d e : PyData} {i : Nat} (hd : d = .list ds ∨ d = .tuple ds) (ha : EE X σ H a d) (hb : EE X σ H b' (.int (i : Nat))) (he : ds[i]? = some e) (hs : PlainIx b' := by exact fun _ _ => rfl) : EE X σ H (.Subscript a b' pos) e := by
  rcases hd with rfl | rfl
  · exact ee_ixL ha hb he (.inl rfl) hs
  · exact ee_ixT ha hb he (.inl rfl) hs
theorem lenD {X : Cx} {σ : L2.St} {H : Hp} {e : Expr} {p pos : Pos} {ds : List PyData} {d : PyData} (hd : d = .list ds ∨ d = .tuple ds) (h : EE X σ H e d) (hz : ds.length ≤ 1000000) (hm : X.mg "len" = none) (hg : Gl X "len" := by rfl) (he : starEach [e] X.env = (false, eval e X.env) :: starEach [] X.env := by exact star_cons (by rfl)) (hpl : (backTo pos (starEach [] X.env)).any (·.1) = false := by exact star_any (by rfl)) :
    EE X σ H (.Call (.Name "len" p) [e] [] pos) (.int (ds.length : Nat)) := by
  rcases hd with rfl | rfl
  · exact ee_lenS h rfl hz hm hg he hpl
  · exact ee_lenS h rfl hz hm hg he hpl
theorem fn_exact (V : Ev mg) {f : Addr} {fd : FuncData} (F : FunD K "_law_exact" "_law_exact" (defArgs s_L_exact) (defBody s_L_exact) (defScope s_L_exact) [] [] f fd) (g : mg "_law_exact" = some (.ref f)) (Ci : Cal P w K mg base 1 "_law_is_int" (spF K P_is_int) []) : ∀ m, FnOk P w K mg base CX0 (m + 2) f fd p_L_exact (spF K (P_exact m)) := by
  intro m
  refine fn_data F sc_L_exact (fun ds r ⟨_, h, _⟩ => by rw [h]; rfl) fun cdv A outer s H H0 vs ds r D E hr hv hP hk _ => ?_
  obtain ⟨d, rfl, hok, rfl⟩ := hP
  obtain ⟨v0, v1, rfl, d0, d1⟩ := dpAll_2 hv
  have hN := sc_L_exact.nd
  refine wss_when (b := isTy "tuple" d || isTy "list" d) (EW.et (ew_or (et_val (ee_isi (ee_var 1 rfl d1) V.isi V.tuple rfl)) fun _ => ew_or1 (et_val (ee_isi (ee_var 1 rfl d1) V.isi V.list rfl)))) (fun hb H1 s1 => ?_) fun hb H1 s1 => ?_
  · obtain ⟨es, hd⟩ := seq_of hb
    obtain ⟨k, rfl, hz, hall⟩ := okD_seq hd hok
    have C1 : Cal P w K mg base (k + 2) "_law_exact" (spF K (P_exact k)) [] := ⟨f, fd, _, [], fn_exact V F g Ci k, g, F.kp, F.bindsN (fun _ _ _ _ _ _ us hl => match us, hl with | [_, _], _ => rfl), .nil⟩
    have e0 := d0.same s1
    have e1 := d1.same s1
    refine wss_when (b := false) (ET.is (EW.et (ew_or (b := false) (c := false) (ET.is (et_ne (ee_isi (ee_var 0 rfl e0) V.isi V.tuple rfl) (ee_isi (ee_var 1 rfl e1) V.isi V.tuple rfl)) (by simp)) fun _ => ew_or1 (ET.is (et_ne (ee_isi (ee_var 0 rfl e0) V.isi V.list rfl) (ee_isi (ee_var 1 rfl e1) V.isi V.list rfl)) (by simp)))) rfl) (fun h => absurd h (by simp)) fun _ H2 s2 => ?_
    have s12 := s1.trans s2
    refine wss_ret (EE.is (ev_and (b := true) (c := true) (EE.is (ee_eqI (lenD hd (ee_var 0 rfl (d0.same s12)) (by omega) V.len) (lenD hd (ee_var 1 rfl (d1.same s12)) (by omega) V.len)) (by simp)) fun _ => ev_one (EE.is (ev_notL (en_lc hN (lcr_none 2 (srv_rangeN (lenD hd (ee_var 1 rfl (d1.same s12)) (by omega) V.len) V.range (by omega)).src hN (fun i hi x H' s' dx s0 H0' C cl fp => ?_) (by rw [List.length_range]; omega))).ee) rfl)) rfl) fun v' H3 s3 d' => hk v' H3 (s12.trans s3) d'
    have hi' : i < es.length := List.mem_range.mp hi
    have s4 := s12.trans s'
    have ge := List.getElem?_eq_getElem hi'
    exact ET.is (et_not (et_val (ee_call C1 hr (ea_cons (ixD hd (ee_var 0 rfl (d0.same s4)) (ee_var 2 rfl dx) ge) (ea_1 (ixD hd (ee_var 1 rfl (d1.same s4)) (ee_var 2 rfl dx) ge))) ⟨es[i], rfl, hall _ (List.getElem_mem hi'), rfl⟩ (Nat.le_refl _)))) rfl
  · have e0 := d0.same s1
    have e1 := d1.same s1
    refine wss_when (b := isNoneD d) (et_isN (ee_var 1 rfl e1)) (fun hn H2 s2 => ?_) fun hn H2 s2 => ?_
    · exact wss_ret (ee_isN (ee_var 0 rfl (e0.same s2))) fun v' H3 s3 d' => hk v' H3 (s1.trans (s2.trans s3)) (by rw [hn] at d'; exact d')
    have s12 := s1.trans s2
    have f0 := d0.same s12
    have f1 := d1.same s12
    refine wss_when (b := isTy "bool" d) (et_val (ee_isi (ee_var 1 rfl f1) V.isi V.bool rfl)) (fun hbo H3 s3 => ?_) fun hbo H3 s3 => ?_
    · obtain ⟨b, rfl⟩ : ∃ b, d = .bool b := by cases d <;> simp [isTy] at hbo; exact ⟨_, rfl⟩
      exact wss_ret (EE.is (ev_and (b := true) (c := true) (ee_isi (ee_var 0 rfl (f0.same s3)) V.isi V.bool rfl) fun _ => ev_one (EE.is (ee_eq (ee_var 0 rfl (f0.same s3)) (ee_var 1 rfl (f1.same s3))) (by simp))) rfl) fun v' H4 s4 d' => hk v' H4 (s12.trans (s3.trans s4)) d'
    refine wss_when (b := isTy "str" d) (et_val (ee_isi (ee_var 1 rfl (f1.same s3)) V.isi V.str rfl)) (fun hst H4 s4 => ?_) fun hst H4 s4 => ?_
    · obtain ⟨b, rfl⟩ : ∃ b, d = .str b := by cases d <;> simp [isTy] at hst; exact ⟨_, rfl⟩
      have s34 := s3.trans s4
      exact wss_ret (EE.is (ev_and (b := true) (c := true) (ee_isi (ee_var 0 rfl (f0.same s34)) V.isi V.str rfl) fun _ => ev_one (EE.is (ee_eq (ee_var 0 rfl (f0.same s34)) (ee_var 1 rfl (f1.same s34))) (by simp))) rfl) fun v' H5 s5 d' => hk v' H5 (s12.trans (s34.trans s5)) d'
    · have s34 := s3.trans s4
      obtain ⟨i, rfl⟩ : ∃ i, d = .int i := by
        cases d <;> simp [isTy, isNoneD] at hb hn hbo hst
        · exact ⟨_, rfl⟩
        · cases m <;> simp [okD] at hok
      exact wss_ret (EE.is (ev_and (b := true) (c := true) (ee_call Ci hr (ea_1 (ee_var 0 rfl (f0.same s34))) ⟨.int i, rfl, rfl⟩ (by omega)) fun _ => ev_one (EE.is (ee_eqI (ee_var 0 rfl (f0.same s34)) (ee_var 1 rfl (f1.same s34))) (by simp))) rfl) fun v' H5 s5 d' => hk v' H5 (s12.trans (s34.trans s5)) d'
end
end K10
set_option maxHeartbeats 4000000
/-! The draws: what is drawn is hidden behind an open description of the draw's list. -/
namespace K10
open PySem PySem.Spec PyProof.Rows L2 SX
open C8 (Cal pe_c)
section
variable {P : Program} {w : World} {K : PySem.W.Frag} {mg : Str → Option Value} {base : Heap}
/-! ### _law_mix -/
def mixOne (c t : Int) : Int := (c * 48271 + t * 69621 + 12345) % 2147483647
def mixTwo (c t : Int) : Int := (mixOne c t * mixOne c t + t * 7919 + c) % 998244353
def mixI (c t : Int) : Int := (mixTwo c t * mixTwo c t + mixOne c t) % 1000000007 / 8
def P_mix : List PyData → PyData → Prop := fun ds r => ∃ c t, ds = [.int c, .int t] ∧ r = .int (mixI c t)
theorem mod_small {a m : Int} (h : 0 < m) (hm : m < 2 ^ 63) : -(2 ^ 64) < a % m ∧ a % m < 2 ^ 64 := by
  have h1 := Int.emod_nonneg a (by omega : m ≠ 0)
  have h2 := Int.emod_lt_of_pos a h
  omega
theorem c_mix (V : Ev mg) (G : Gd K mg "_law_mix" s_L_mix) : Cal P w K mg base 1 "_law_mix" (spF K P_mix) [] := by
  refine cal_data G sc_L_mix (fun _ _ _ _ _ _ us hl => match us, hl with | [_, _], _ => rfl) (fun ds r ⟨_, _, h, _⟩ => by rw [h]; rfl) fun f cdv A outer s H H0 vs ds r D E hr hv hP hk _ => ?_
  obtain ⟨c, t, rfl, rfl⟩ := hP
  obtain ⟨v0, v1, rfl, d0, d1⟩ := dpAll_2 hv
  have hN := sc_L_mix.nd
  refine wss_set 2 hN (ee_mod (i := c * 48271 + t * 69621 + 12345) (j := 2147483647) (ee_int1 (ee_add (ee_add (ee_mul (ee_var 0 rfl d0) ee_int (.inr (by decide))) (ee_mul (ee_var 1 rfl d1) ee_int (.inr (by decide)))) ee_int) V.int) ee_int (by decide)) fun v2 H1 s1 d2 => ?_
  have e0 := d0.same s1
  have e1 := d1.same s1
  refine wss_set 3 hN (ee_mod (i := mixOne c t * mixOne c t + t * 7919 + c) (j := 998244353) (ee_int1 (ee_add (ee_add (ee_mul (ee_var 2 rfl d2) (ee_var 2 rfl d2) (.inl (mod_small (by decide) (by decide)))) (ee_mul (ee_var 1 rfl e1) ee_int (.inr (by decide)))) (ee_var 0 rfl e0)) V.int) ee_int (by decide)) fun v3 H2 s2 d3 => ?_
  refine wss_set 3 hN (ee_mod (i := mixTwo c t * mixTwo c t + mixOne c t) (j := 1000000007) (ee_int1 (ee_add (ee_mul (ee_var 3 rfl d3) (ee_var 3 rfl d3) (.inl (mod_small (by decide) (by decide)))) (ee_var 2 rfl (d2.same s2))) V.int) ee_int (by decide)) fun v4 H3 s3 d4 => ?_
  exact wss_ret (ee_fdiv (ee_var 3 rfl d4) ee_int ⟨by decide, by decide⟩) fun v' H4 s4 d' => hk v' H4 (s1.trans (s2.trans (s3.trans s4))) d'
/-! ### _law_pick -/
def drV (c : Addr) (i1 : Nat) (i2 i3 i4 i5 : Int) : List V := [.ref c, .int (i1 : Int), .int i2, .int i3, .int i4, .int i5]
def drPhi (c d : Addr) : Heap → Prop := fun h => ∃ (i1 : Nat) (i2 i3 i4 i5 : Int) (its : List Value) (n : Nat), Vals (drV c i1 i2 i3 i4 i5) its ∧ h.get? d = some { cls := .type "list", data := .seq its.toArray n }
def DrawOk (K : PySem.W.Frag) (H : Hp) (d : Addr) : Prop := ∃ c ns, H d = some (.ext (drPhi c d)) ∧ H c = some (.lst ((ns : List Int).map .int)) ∧ ns.length ≤ 100000
theorem DrawOk.same {K : PySem.W.Frag} {H H' : Hp} {d : Addr} (h : DrawOk K H d) (s : Same H H') : DrawOk K H' d := by
  obtain ⟨c, ns, h1, h2, h3⟩ := h
  exact ⟨c, ns, s _ _ h1, s _ _ h2, h3⟩
/-- the draw's list stands open -/
structure Op (H : Hp) (d c : Addr) (ns : List Int) (H1 : Hp) (i1 : Nat) (i2 i3 i4 i5 : Int) : Prop where
  hd : H d = some (.ext (drPhi c d))
  hc : H c = some (.lst (ns.map .int))
  le : ∀ b, b ≠ d → ∀ u, H b = some u → H1 b = some u
  at' : H1 d = some (.lst (drV c i1 i2 i3 i4 i5))
section
variable {X : Cx} {σ : L2.St} {H H1 H2 : Hp} {d c : Addr} {ns : List Int} {i1 : Nat} {i2 i3 i4 i5 : Int} {sts : List Stmt} {D : Ends}
theorem Op.same (o : Op H d c ns H1 i1 i2 i3 i4 i5) (s : Same H1 H2) : Op H d c ns H2 i1 i2 i3 i4 i5 := ⟨o.hd, o.hc, fun b hb u e => s _ _ (o.le b hb u e), s _ _ o.at'⟩
theorem Op.ne (o : Op H d c ns H1 i1 i2 i3 i4 i5) : c ≠ d := fun e => by
  have h1 := o.hc
  rw [e, o.hd] at h1
  cases h1
theorem Op.set (o : Op H d c ns H1 i1 i2 i3 i4 i5) {j1 : Nat} {j2 j3 j4 j5 : Int} {xs : List V} (e : xs = drV c j1 j2 j3 j4 j5) : Op H d c ns (upd H1 d (.lst xs)) j1 j2 j3 j4 j5 := ⟨o.hd, o.hc, fun b hb u h => by rw [upd_ne hb]; exact o.le b hb u h, by rw [upd_same, e]⟩
theorem Op.cells {K : PySem.W.Frag} (o : Op H d c ns H1 i1 i2 i3 i4 i5) : Dp K H1 (.ref c) (.list (ns.map .int)) := .lst (.of (o.le c o.ne _ o.hc)) (dpAll_ofInts ns)
theorem Op.dp {K : PySem.W.Frag} (o : Op H d c ns H1 i1 i2 i3 i4 i5) : Dp K H1 (.ref d) (.list [.list (ns.map .int), .int (i1 : Int), .int i2, .int i3, .int i4, .int i5]) :=
  .lst (.of o.at') (.cons o.cells (.cons (.int _) (.cons (.int _) (.cons (.int _) (.cons (.int _) (.cons (.int _) .nil))))))
theorem Op.shut (o : Op H d c ns H1 i1 i2 i3 i4 i5) : Same H (upd H1 d (.ext (drPhi c d))) := fun b u e => by
  by_cases hb : b = d
  · subst hb
    rw [o.hd] at e
    rw [upd_same, e]
  · rw [upd_ne hb]
    exact o.le b hb u e
theorem Inv.openD {pins : List (Addr × Obj)} {s : Shared} (I : Inv X pins σ H s) (hd : H d = some (.ext (drPhi c d))) : ∃ (i1 : Nat) (i2 i3 i4 i5 : Int), Inv X pins σ (upd H d (.lst (drV c i1 i2 i3 i4 i5))) s := by
  obtain ⟨⟨i1, i2, i3, i4, i5, its, n, hv, hg⟩, _, _⟩ := I.hok d _ hd
  have new : ObjOk X.prog X.w (upd H d (.lst (drV c i1 i2 i3 i4 i5))) s.heap d (.lst (drV c i1 i2 i3 i4 i5)) := ⟨by show 6 ≤ sizeLine; decide, its, n, hv, hg⟩
  exact ⟨i1, i2, i3, i4, i5, I.write (x := d) (e := d) (t' := s.toks) (h' := s.heap) (by rw [hd]; trivial) (.inl rfl) (fun b v _ q => q) ⟨_, hg⟩ new⟩
theorem Inv.shutD {pins : List (Addr × Obj)} {s : Shared} (I : Inv X pins σ H s) (hd : H d = some (.lst (drV c i1 i2 i3 i4 i5))) : Inv X pins σ (upd H d (.ext (drPhi c d))) s := by
  obtain ⟨_, its, n, hv, hg⟩ := I.hok d _ hd
  have new : ObjOk X.prog X.w (upd H d (.ext (drPhi c d))) s.heap d (.ext (drPhi c d)) := ⟨⟨i1, i2, i3, i4, i5, its, n, hv, hg⟩, ⟨_, hg⟩, fun h1 h2 ⟨j1, j2, j3, j4, j5, jts, m, kv, kg⟩ k => ⟨j1, j2, j3, j4, j5, jts, m, kv, k _ kg⟩⟩
  exact I.write (x := d) (e := d) (t' := s.toks) (h' := s.heap) (by rw [hd]; trivial) (.inl rfl) (fun b v _ q => q) ⟨_, hg⟩ new
theorem wss_openD (hd : H d = some (.ext (drPhi c d))) (h : ∀ (i1 : Nat) (i2 i3 i4 i5 : Int), WSs X sts D σ (upd H d (.lst (drV c i1 i2 i3 i4 i5)))) : WSs X sts D σ H := .mk fun pins s I => by
  obtain ⟨i1, i2, i3, i4, i5, J⟩ := Inv.openD I hd
  exact h i1 i2 i3 i4 i5 pins s J
theorem wss_shutD (hd : H d = some (.lst (drV c i1 i2 i3 i4 i5))) (h : WSs X sts D σ (upd H d (.ext (drPhi c d)))) : WSs X sts D σ H := .mk fun pins s I => h pins s (Inv.shutD I hd)
theorem we_shutD {e : Expr} {Q : VK} (h : WE X e σ H fun v H1 => ∃ i1 i2 i3 i4 i5, H1 d = some (.lst (drV c i1 i2 i3 i4 i5)) ∧ Q v (upd H1 d (.ext (drPhi c d)))) : WE X e σ H Q := .mk fun pins s I =>
  thn (h pins s I) fun v s1 ⟨x, H1, I1, r, i1, i2, i3, i4, i5, hd, q⟩ => ⟨x, _, Inv.shutD I1 hd, r, q⟩
end
def spPick (K : PySem.W.Frag) : Sp := fun vs H Q _ => ∃ d many, vs = [.ref d, .int many] ∧ DrawOk K H d ∧ 1 ≤ many ∧ many < 1073741824 ∧ ∀ r H', 0 ≤ r → r < many → Same H H' → Q (.int r) H'
theorem c_pick (V : Ev mg) (G : Gd K mg "_law_pick" s_L_pick) (Cm : Cal P w K mg base 1 "_law_mix" (spF K P_mix) []) : Cal P w K mg base 2 "_law_pick" (spPick K) [] := by
  obtain ⟨f, fd, F, g⟩ := G.ex
  refine ⟨f, fd, p_L_pick, [], ?_, g, F.kp, F.bindsN (fun _ _ _ _ _ _ us hl => match us, hl with | [_, _], _ => rfl), .nil⟩
  refine F.ok sc_L_pick (fun vs H Q E ⟨_, _, h, _⟩ => by rw [h]; rfl) fun cdv A outer s H vs Q E hr h => ?_
  obtain ⟨d, many, rfl, ⟨c, ns, hd, hc, hns⟩, hm1, hm2, hk⟩ := h
  have hN := sc_L_pick.nd
  refine ⟨_, PSs.nox (pssw _), ?_⟩
  have cM : CDiv 1 many := ⟨by omega, hm2⟩
  refine wss_when (b := decide (many < 2)) (et_lt (ee_var 1 rfl (.int many)) ee_int) (fun hb H1 s1 => ?_) fun hb H1 s1 => ?_
  · have : many < 2 := by simpa using hb
    exact wss_ret (ee_int (i := 0)) fun v H2 s2 dv => by rw [dp_int dv]; exact hk 0 H2 (by omega) (by omega) (s1.trans s2)
  refine wss_openD (s1 _ _ hd) fun i1 i2 i3 i4 i5 => ?_
  have o1 : Op H1 d c ns (upd H1 d (.lst (drV c i1 i2 i3 i4 i5))) i1 i2 i3 i4 i5 := ⟨s1 _ _ hd, s1 _ _ hc, fun b hb u e => by rw [upd_ne hb]; exact e, upd_same⟩
  generalize upd H1 d (.lst (drV c i1 i2 i3 i4 i5)) = H2 at o1
  have hmod : ∀ a : Int, 0 ≤ a % many ∧ a % many < many := fun a => ⟨Int.emod_nonneg a (by omega), Int.emod_lt_of_pos a (by omega)⟩
  -- the draw itself
  have fin : ∀ (H3 : Hp) (i1 : Nat) (i2 i3 i4 i5 : Int) (x2 : Option L2.V), Op H1 d c ns H3 i1 i2 i3 i4 i5 → WSs (cxOf CX0 P w K mg base n_L_pick "_law_pick" (defScope s_L_pick) f cdv A outer s H E).nox ((defBody s_L_pick).drop 2) { nx := fun _ H' => Q .non H', rt := Q } [some (.ref d), some (.int many), x2, none, none] H3 := fun H3 i1 i2 i3 i4 i5 x2 o => by
    refine wss_when (b := decide (0 < i2)) (et_gt (ee_ixL (j := 2) (d := .int i2) (ee_var 0 rfl o.dp) ee_int rfl) ee_int) (fun hb H4 s4 => ?_) fun hb H4 s4 => ?_
    · have o4 := o.same s4
      refine wss_set 3 hN (ee_mod (ee_int1 (ee_ixL (j := 2) (d := .int i2) (ee_var 0 rfl o4.dp) ee_int rfl) V.int) (ee_var 1 rfl (.int many)) (by omega)) fun v3 H5 s5 d3 => ?_
      have o5 := o4.same s5
      refine wss_seti (j := 2) 0 rfl o5.at' (by show _ < 6; decide) (ee_fdiv (ee_ixL (j := 2) (d := .int i2) (ee_var 0 rfl o5.dp) ee_int rfl) (ee_var 1 rfl (.int many)) ⟨by omega, hm2⟩) ee_int fun v6 H6 s6 d6 => ?_
      rw [dp_int d6]
      have o6 := (o5.same s6).set (j1 := i1) (j2 := i2 / many) (j3 := i3) (j4 := i4) (j5 := i5) (xs := (drV c i1 i2 i3 i4 i5).set 2 (.int (i2 / many))) rfl
      refine wss_shutD o6.at' (wss_ret (ee_var 3 rfl (by rw [dp_int d3]; exact .int _)) fun v7 H7 s7 d7 => ?_)
      rw [dp_int d7]
      exact hk _ H7 (hmod i2).1 (hmod i2).2 (s1.trans (o6.shut.trans s7))
    have o4 := o.same s4
    refine wss_when (b := decide ((i1 : Int) < (ns.length : Int))) (ET.is (et_lt (ee_ixL (j := 1) (d := .int (i1 : Int)) (ee_var 0 rfl o4.dp) ee_int rfl) (ee_lenS (ds := ns.map .int) (ee_ixL (j := 0) (ee_var 0 rfl o4.dp) ee_int rfl) rfl (by simp; omega) V.len)) (by simp)) (fun hb2 H5 s5 => ?_) fun hb2 H5 s5 => ?_
    · have hi : i1 < ns.length := by simpa using hb2
      have o5 := o4.same s5
      have hni : (ns.map PyData.int)[i1]? = some (.int ns[i1]) := by rw [List.getElem?_map, List.getElem?_eq_getElem hi]; rfl
      refine wss_set 2 hN (ee_ixL (j := i1) (ee_ixL (j := 0) (ee_var 0 rfl o5.dp) ee_int rfl) (ee_ixL (j := 1) (d := .int (i1 : Int)) (ee_var 0 rfl o5.dp) ee_int rfl) hni) fun v2 H6 s6 d2 => ?_
      have o6 := o5.same s6
      refine wss_seti (j := 3) 0 rfl o6.at' (by show _ < 6; decide) (ee_add (ee_ixL (j := 3) (d := .int i3) (ee_var 0 rfl o6.dp) ee_int rfl) ee_int) ee_int fun v7 H7 s7 d7 => ?_
      rw [dp_int d7]
      have o7 := (o6.same s7).set (j1 := i1) (j2 := i2) (j3 := i3 + 1) (j4 := i4) (j5 := i5) (xs := (drV c i1 i2 i3 i4 i5).set 3 (.int (i3 + 1))) rfl
      generalize upd H7 d (.lst ((drV c i1 i2 i3 i4 i5).set 3 (.int (i3 + 1)))) = H8 at o7
      refine wss_set 4 hN (ee_mod (ee_int1 (ee_call Cm hr (ea_cons (ee_add (ee_var 2 rfl (show Dp K H8 v2 (.int ns[i1]) by rw [dp_int d2]; exact .int _)) (ee_mul ee_int (ee_ixL (j := 1) (d := .int (i1 : Int)) (ee_var 0 rfl o7.dp) ee_int rfl) (.inl (by decide)))) (ea_1 (ee_ixL (j := 3) (d := .int (i3 + 1)) (ee_var 0 rfl o7.dp) ee_int rfl))) ⟨_, _, rfl, rfl⟩) V.int) (ee_var 1 rfl (.int many)) (by omega)) fun v4 H9 s9 d4 => ?_
      have o9 := o7.same s9
      refine wss_when (b := decide (i3 + 1 = 6)) (et_eqI (ee_ixL (j := 3) (d := .int (i3 + 1)) (ee_var 0 rfl o9.dp) ee_int rfl) ee_int) (fun hb3 H10 s10 => ?_) fun hb3 H10 s10 => ?_
      · have o10 := o9.same s10
        refine wss_seti (j := 3) 0 rfl o10.at' (by show _ < 6; decide) (ee_int (i := 0)) ee_int fun v11 H11 s11 d11 => ?_
        rw [dp_int d11]
        have o11 := (o10.same s11).set (j1 := i1) (j2 := i2) (j3 := 0) (j4 := i4) (j5 := i5) (xs := (drV c i1 i2 (i3 + 1) i4 i5).set 3 (.int 0)) rfl
        generalize upd H11 d (.lst ((drV c i1 i2 (i3 + 1) i4 i5).set 3 (.int 0))) = H12 at o11
        refine wss_seti (j := 1) 0 rfl o11.at' (by show _ < 6; decide) (ee_succ (ee_ixL (j := 1) (d := .int (i1 : Int)) (ee_var 0 rfl o11.dp) ee_int rfl)) ee_int fun v13 H13 s13 d13 => ?_
        rw [dp_int d13]
        have o13 := (o11.same s13).set (j1 := i1 + 1) (j2 := i2) (j3 := 0) (j4 := i4) (j5 := i5) (xs := (drV c i1 i2 0 i4 i5).set 1 (.int ((i1 + 1 : Nat) : Int))) rfl
        refine wss_nil (wss_shutD o13.at' (wss_ret (ee_var 4 rfl (by rw [dp_int d4]; exact .int _)) fun v7 H7 s7 d7 => ?_))
        rw [dp_int d7]
        exact hk _ H7 (hmod _).1 (hmod _).2 (s1.trans (o13.shut.trans s7))
      · have o10 := o9.same s10
        refine wss_shutD o10.at' (wss_ret (ee_var 4 rfl (by rw [dp_int d4]; exact .int _)) fun v7 H7 s7 d7 => ?_)
        rw [dp_int d7]
        exact hk _ H7 (hmod _).1 (hmod _).2 (s1.trans (o10.shut.trans s7))
    · have o5 := o4.same s5
      refine wss_seti (j := 4) 0 rfl o5.at' (by show _ < 6; decide) (ee_add (ee_ixL (j := 4) (d := .int i4) (ee_var 0 rfl o5.dp) ee_int rfl) ee_int) ee_int fun v6 H6 s6 d6 => ?_
      rw [dp_int d6]
      have o6 := (o5.same s6).set (j1 := i1) (j2 := i2) (j3 := i3) (j4 := i4 + 1) (j5 := i5) (xs := (drV c i1 i2 i3 i4 i5).set 4 (.int (i4 + 1))) rfl
      generalize upd H6 d (.lst ((drV c i1 i2 i3 i4 i5).set 4 (.int (i4 + 1)))) = H7 at o6
      refine wss_of (pss_cons (ps_ret (pw _)) (pssw _)) ?_
      refine we_shutD (d := d) (c := c) ?_
      refine EE.at (ee_mod (ee_int1 (ee_call Cm hr (ea_cons (ee_ixL (j := 5) (d := .int i5) (ee_var 0 rfl o6.dp) ee_int rfl) (ea_1 (ee_add (ee_ixL (j := 4) (d := .int (i4 + 1)) (ee_var 0 rfl o6.dp) ee_int rfl) ee_int))) ⟨_, _, rfl, rfl⟩) V.int) (ee_var 1 rfl (.int many)) (by omega)) (Same.refl H7) fun v8 H8 s8 d8 => ?_
      have o8 := o6.same s8
      refine ⟨_, _, _, _, _, o8.at', ?_⟩
      rw [dp_int d8]
      exact hk _ _ (hmod _).1 (hmod _).2 (s1.trans o8.shut)
  refine wss_if (b := decide (i2 = 0) && (decide (i1 < ns.length) && decide (i3 = 0))) (EW.et (ew_and (et_eqI (ee_ixL (j := 2) (d := .int i2) (ee_var 0 rfl o1.dp) ee_int rfl) ee_int) fun _ => ew_and (ET.is (et_lt (ee_ixL (j := 1) (d := .int (i1 : Int)) (ee_var 0 rfl o1.dp) ee_int rfl) (ee_lenS (ds := ns.map .int) (ee_ixL (j := 0) (ee_var 0 rfl o1.dp) ee_int rfl) rfl (by simp; omega) V.len)) (by simp)) fun _ => ew_and1 (et_eqI (ee_ixL (j := 3) (d := .int i3) (ee_var 0 rfl o1.dp) ee_int rfl) ee_int))) (fun hb H3 s3 => ?_) fun hb H3 s3 => ?_
  · have hi : i1 < ns.length := by simp at hb; exact hb.2.1
    have o3 := o1.same s3
    have hni : (ns.map PyData.int)[i1]? = some (.int ns[i1]) := by rw [List.getElem?_map, List.getElem?_eq_getElem hi]; rfl
    refine wss_set 2 hN (ee_ixL (j := i1) (ee_ixL (j := 0) (ee_var 0 rfl o3.dp) ee_int rfl) (ee_ixL (j := 1) (d := .int (i1 : Int)) (ee_var 0 rfl o3.dp) ee_int rfl) hni) fun v2 H4 s4 d2 => ?_
    have o4 := o3.same s4
    refine wss_when (EW.et (ew_or (et_ge (ee_var 2 rfl d2) (ee_pow ee_int (ee_int (i := (18 : Nat))) (by decide))) fun _ => ew_or1 (et_le (ee_var 2 rfl d2) (ee_neg (ee_pow ee_int (ee_int (i := (18 : Nat))) (by decide)))))) (fun hb H5 s5 => ?_) fun hb H5 s5 => ?_
    · have o5 := o4.same s5
      have e2 := d2.same s5
      refine wss_seti (j := 2) 0 rfl o5.at' (by show _ < 6; decide) (ee_mod (ee_int1 (ee_abs (ee_var 2 rfl e2) V.abs) V.int) (ee_pow (ee_pow ee_int (ee_int (i := (60 : Nat))) (by decide)) (ee_int (i := (64 : Nat))) (by decide +kernel)) (by decide +kernel)) ee_int fun v6 H6 s6 d6 => ?_
      obtain ⟨z, rfl⟩ : ∃ z, v6 = .int z := ⟨_, dp_int d6⟩
      have o6 := (o5.same s6).set (j1 := i1) (j2 := z) (j3 := i3) (j4 := i4) (j5 := i5) (xs := (drV c i1 i2 i3 i4 i5).set 2 (.int z)) rfl
      generalize upd H6 d (.lst ((drV c i1 i2 i3 i4 i5).set 2 (.int z))) = H7 at o6
      refine wss_seti (j := 1) 0 rfl o6.at' (by show _ < 6; decide) (ee_succ (ee_ixL (j := 1) (d := .int (i1 : Int)) (ee_var 0 rfl o6.dp) ee_int rfl)) ee_int fun v13 H13 s13 d13 => ?_
      rw [dp_int d13]
      have o13 := (o6.same s13).set (j1 := i1 + 1) (j2 := z) (j3 := i3) (j4 := i4) (j5 := i5) (xs := (drV c i1 z i3 i4 i5).set 1 (.int ((i1 + 1 : Nat) : Int))) rfl
      exact wss_nil (wss_nil (fin _ _ _ _ _ _ _ o13))
    · exact wss_nil (fin _ _ _ _ _ _ _ (o4.same s5))
  · exact wss_nil (fin _ _ _ _ _ _ _ (o1.same s3))
end
end K10
set_option maxHeartbeats 4000000
/-! What is drawn: expressions of one of several values; kinds, things, worlds. -/
namespace K10
open PySem PySem.Spec PyProof.Rows L2 SX
open C8 (Cal pe_c)
section
variable {X : Cx} {σ : L2.St} {H : Hp} {e a b' : Expr} {pos p p2 apos : Pos} {d : PyData} {Φ Ψ Φa Φb : PyData → Prop}
/-- evaluates to one of these -/
def EP (X : Cx) (σ : L2.St) (H : Hp) (e : Expr) (Φ : PyData → Prop) : Prop := ∀ H1, Same H H1 → WE X e σ H1 fun v H2 => Same H1 H2 ∧ ∃ d, Φ d ∧ Dp X.K H2 v d
theorem EE.ep (h : EE X σ H e d) : EP X σ H e (fun x => x = d) := fun H1 s1 => (h H1 s1).mono fun v H2 ⟨s2, dv⟩ => ⟨s2, d, rfl, dv⟩
theorem EP.imp (h : EP X σ H e Φ) (k : ∀ d, Φ d → Ψ d) : EP X σ H e Ψ := fun H1 s1 => (h H1 s1).mono fun v H2 ⟨s2, d, p, dv⟩ => ⟨s2, d, k d p, dv⟩
theorem ep_rb {r : R2} {t : TE} (pr : PE X e t) (hp : t = tOp r (WE X a) (WE X b')) (ha : EP X σ H a Φa) (hb : EP X σ H b' Φb) (hr : ∀ da db, Φa da → Φb db → ∃ d, Φ d ∧ RB X r H da db d) : EP X σ H e Φ := fun H1 s1 => by
  subst hp
  exact we_of pr ((ha H1 s1).mono fun x H2 ⟨s2, da, pa, dx⟩ => (hb H2 (s1.trans s2)).mono fun y H3 ⟨s3, db, pb, dy⟩ => by
    obtain ⟨d, pd, rb⟩ := hr da db pa pb
    exact rb x y H3 _ (s1.trans (s2.trans s3)) (dx.same s3) dy fun v H4 s4 dv => ⟨s2.trans (s3.trans s4), d, pd, dv⟩)
/-- a drawn number below n -/
abbrev below (n : Nat) : PyData → Prop := fun d => ∃ r : Nat, r < n ∧ d = .int (r : Int)
theorem ep_pick {j : Nat} {x : Str} {dd : Addr} {n : Nat} (C : Cal X.prog X.w X.K X.mg X.base 2 "_law_pick" (spPick X.K) []) (hr : Room j X.A) (i : Nat) (hσ : σ[i]? = some (some (.ref dd))) (hd : DrawOk X.K H dd) (he : EE X σ H e (.int (n : Int))) (hn1 : 1 ≤ n) (hn2 : n < 1000000) (hk : 2 ≤ j := by decide)
    (hN : X.N[i]? = some x := by rfl) (hv : Vis X.env.scope x := by first | exact Or.inl rfl | exact Or.inr (Or.inl rfl) | exact Or.inr (Or.inr rfl)) (hd1 : (x == ("__debug__" : Str)) = false := by decide) (hd2 : (x == ("__classdict__" : Str)) = false := by decide) (hg : Gl X "_law_pick" := by rfl)
    (hs : starEach [.Name x p2, e] X.env = (false, eval (.Name x p2) X.env) :: starEach [e] X.env := by exact star_cons (by rfl)) (hs2 : starEach [e] X.env = (false, eval e X.env) :: starEach [] X.env := by exact star_cons (by rfl)) (hpl : (backTo pos (starEach [e] X.env)).any (·.1) = false := by exact star_any (by rfl)) :
    EP X σ H (.Call (.Name "_law_pick" p) [.Name x p2, e] [] pos) (below n) := fun H1 s1 =>
  we_of (pe_c C hr hk hg (pa_cons (pe_var hN hv hd1 hd2) (pa_cons (pw e) pa_nil hs2) hs) (by decide) hs hpl) ⟨.ref dd, hσ, (he H1 s1).mono fun v H2 ⟨s2, dv⟩ => ⟨dd, n, by rw [dp_int dv]; rfl, hd.same (s1.trans s2), by omega, by omega, fun r H3 h1 h2 s3 =>
    ⟨s2.trans s3, _, ⟨r.toNat, by omega, rfl⟩, by rw [show ((r.toNat : Nat) : Int) = r by omega]; exact .int r⟩⟩⟩
theorem ep_ixS {l : List Nat} (ha : EE X σ H a (tx l)) (hb : EP X σ H b' (below l.length)) (hz : l.length ≤ 1000000) (hs : PlainIx b' := by exact fun _ _ => rfl) : EP X σ H (.Subscript a b' pos) (fun d => ∃ c ∈ l, d = tx [c]) :=
  ep_rb (pe_ix ix_str (pw a) (pw b') hs) rfl ha.ep hb fun da db pa ⟨r, hr, pb⟩ => by
    subst pa pb
    refine ⟨tx [l[r]], ⟨_, List.getElem_mem hr, rfl⟩, fun x y H1 Q _ dx dy k => ⟨S l, (r : Nat), l[r], dp_str dx, dp_int dy, by rw [S_len, sizeLine_eq]; omega, atI_nat (by simp [hr]), k _ H1 (Same.refl H1) (.str _)⟩⟩
theorem ep_ixL {ds : List PyData} (ha : EE X σ H a (.list ds)) (hb : EP X σ H b' (below ds.length)) (hs : PlainIx b' := by exact fun _ _ => rfl) : EP X σ H (.Subscript a b' pos) (fun d => d ∈ ds) :=
  ep_rb (pe_ix ix_list (pw a) (pw b') hs) rfl ha.ep hb fun da db pa ⟨r, hr, pb⟩ => by
    subst pa pb
    refine ⟨ds[r], List.getElem_mem hr, fun x y H1 Q _ dx dy k => ?_⟩
    obtain ⟨q, xs, rfl, hq, hx⟩ := dp_lst dx
    obtain ⟨v, hv, dv⟩ := atI_of (i := (r : Int)) hx (.inl rfl) (List.getElem?_eq_getElem hr)
    exact ⟨q, xs, (r : Int), v, rfl, dp_int dy, hq, hv, k _ H1 (Same.refl H1) dv⟩
theorem ep_addN {i : Nat} {n : Nat} (ha : EE X σ H a (.int (i : Int))) (hb : EP X σ H b' (below n)) : EP X σ H (.BinOp a .Add b' pos) (fun d => ∃ r : Nat, r < n ∧ d = .int ((i + r : Nat) : Int)) :=
  ep_rb (pe_op op_add (pw a) (pw b')) rfl ha.ep hb fun da db pa ⟨r, hr, pb⟩ => by
    subst pa pb
    exact ⟨_, ⟨r, hr, by rw [Int.natCast_add]⟩, rb_I0 fun _ => .int _⟩
theorem ep_addS {l : List Nat} {Ψ : List Nat → Prop} (ha : EE X σ H a (tx l)) (hb : EP X σ H b' (fun d => ∃ m, Ψ m ∧ d = tx m)) (hz : l.length ≤ 1000) (hz2 : ∀ m, Ψ m → m.length ≤ 1000) : EP X σ H (.BinOp a .Add b' pos) (fun d => ∃ m, Ψ m ∧ d = tx (l ++ m)) :=
  ep_rb (pe_op op_add_str (pw a) (pw b')) rfl ha.ep hb fun da db pa ⟨m, hm, pb⟩ => by
    subst pa pb
    exact ⟨_, ⟨m, hm, rfl⟩, fun u v H1 Q _ du dv k => ⟨S l, S m, dp_str du, dp_str dv, by have := hz2 m hm; rw [S_len, S_len, sizeLine_eq]; omega, by rw [S_cat]; exact k _ H1 (Same.refl H1) (.str _)⟩⟩
variable {rest body : List Stmt} {D : Ends}
theorem wss_setP {x : Str} {pos' : Pos} (i : Nat) (hN : X.N.Nodup) (h : EP X σ H e Φ) (k : ∀ d v H1, Φ d → Same H H1 → Dp X.K H1 v d → WSs X rest D (σ.set i (some v)) H1) (hi : X.N[i]? = some x := by rfl) (hx : Loc X.env.scope x := by first | exact .inl rfl | exact .inr rfl)
    (hs : swapsWith e (some (.Name x pos')) pos.line X.env = pure false := by rfl) (hf : X.fn x = true ∨ X.env.scope.names.lookup x = some .local := by first | exact .inl rfl | exact .inr rfl) : WSs X (.Assign [.Name x pos'] e pos :: rest) D σ H :=
  wss_setW i hN ((h H (Same.refl H)).mono fun v H1 ⟨s1, d, pd, dv⟩ => k d v H1 pd s1 dv) hi hx hs hf
/-- for x in range(a drawn number), the body may change what H0 does not know -/
theorem wss_forR {tg : Expr} {g : TG} {H0 : Hp} {N : Nat} (hp : PassesOwn (model X.prog X.w) X.A X.env X.xe) (b : Same H0 H) (he : EP X σ H0 e (fun d => ∃ r : Nat, r ≤ N ∧ d = .int (r : Int))) (hN : N ≤ 100000) (hm : X.mg "range" = none) (hg : PG X tg g) (Pv : Nat → L2.St → Hp → Prop) (h0 : ∀ H1, Same H H1 → Pv 0 σ H1)
    (step : ∀ i x σ' H' H'', i < N → Pv i σ' H' → Same H' H'' → Dp X.K H'' x (.int (i : Int)) → g x σ' H'' (WSs X body { D with nx := Pv (i + 1), ct := Pv (i + 1), bk := WSs X rest D })) (hd : ∀ r σ' H', r ≤ N → Pv r σ' H' → WSs X rest D σ' H')
    (hc : X.calm = true := by rfl) (hfs : ∀ x, foldedSetIterable (.Call (.Name "range" p) [e] [] p2) X.env x = pure x := by intro _; rfl) (hgl : Gl X "range" := by rfl) (hs : starEach [e] X.env = [(false, eval e X.env)] := by exact star_one (by rfl)) : WSs X (.For tg (.Call (.Name "range" p) [e] [] p2) body [] pos :: rest) D σ H := by
  refine wss_cons (ws_of (ps_for hp hc (pi_range1 hgl hm (pa_cons (pw e) pa_nil hs) hs) hg (pssw body) hfs) ?_)
  refine (he H b).mono fun v H2 ⟨s2, d, ⟨r, hr, e⟩, dv⟩ => ?_
  subst e
  refine ⟨(r : Int), by rw [dp_int dv], by omega, by omega, ?_⟩
  have w := walk_rangeD 0 r
  rw [show ((r : Int)).toNat = r from rfl]
  have hl := rangeD_len 0 r
  rw [hl] at w
  refine for_it (D := { D with nx := WSs X rest D }) w Pv (h0 H2 s2) (fun i σ' H' _ pv => trivial) (fun i x σ' H' H'' hi pv y => ?_) (fun σ' H' pv => hd r σ' H' hr pv)
  obtain ⟨rfl, rfl⟩ := y
  exact step i _ σ' H'' H'' (by omega) pv (Same.refl _) (by simpa using Dp.int _)
/-- a def that draws -/
def spD (K : PySem.W.Frag) (Pre : List PyData → Prop) (Post : List PyData → PyData → Prop) : Sp := fun vs H Q _ => ∃ dd vs' ds, vs = .ref dd :: vs' ∧ DrawOk K H dd ∧ DpAll K H vs' ds ∧ Pre ds ∧ ∀ r v H', Same H H' → Post ds r → Dp K H' v r → Q v H'
theorem ep_callW {k j : Nat} {f x : Str} {dd : Addr} {es : List Expr} {ds : List PyData} {Pre : List PyData → Prop} {Post : List PyData → PyData → Prop} (C : Cal X.prog X.w X.K X.mg X.base k f (spD X.K Pre Post) []) (hr : Room j X.A) (i : Nat) (hσ : σ[i]? = some (some (.ref dd))) (hd : DrawOk X.K H dd) (ha : EA X σ H es ds) (hP : Pre ds) (hk : k ≤ j := by decide)
    (hN : X.N[i]? = some x := by rfl) (hv : Vis X.env.scope x := by first | exact Or.inl rfl | exact Or.inr (Or.inl rfl) | exact Or.inr (Or.inr rfl)) (hd1 : (x == ("__debug__" : Str)) = false := by decide) (hd2 : (x == ("__classdict__" : Str)) = false := by decide) (hg : Gl X f := by rfl) (hdb : (f == ("__debug__" : Str)) = false := by decide)
    (hs : starEach (.Name x p2 :: es) X.env = (false, eval (.Name x p2) X.env) :: starEach es X.env := by exact star_cons (by rfl)) (hpl : (backTo pos (starEach es X.env)).any (·.1) = false := by exact star_any (by rfl)) :
    EP X σ H (.Call (.Name f p) (.Name x p2 :: es) [] pos) (Post ds) := fun H1 s1 =>
  we_of (pe_c C hr hk hg (pa_cons (pe_var hN hv hd1 hd2) (paw es) hs) hdb hs hpl) ⟨.ref dd, hσ, (ha H1 s1).mono fun vs H2 ⟨s2, dvs⟩ => ⟨dd, vs, ds, by rw [List.append_nil], hd.same (s1.trans s2), dvs, hP, fun r v H3 s3 pr dv => ⟨s2.trans s3, r, pr, dv⟩⟩⟩
end
section
variable {P : Program} {w : World} {K : PySem.W.Frag} {mg : Str → Option Value} {base : Heap}
theorem cal_draw {x : Str} {st : Stmt} {N ps : List Str} {k : Nat} {Pre : List PyData → Prop} {Post : List PyData → PyData → Prop} (G : Gd K mg x st) (S : FnScope N ps (defScope st))
    (hb : ∀ (kV doc pm : Value) (an : Option Addr) (cdv ct : Value) (us : List Value), us.length = ps.length → bindArgs (PySem.W.fnOf x x (defArgs st) (defBody st) (defScope st) .none kV doc pm an cdv ct) ⟨us, []⟩ = pure (ps.zip us)) (hl : ∀ ds, Pre ds → ds.length + 1 = ps.length)
    (hbody : ∀ (f : Addr) (cdv : Value) (A : Around) (outer : List Env) (s : Shared) (H : Hp) (dd : Addr) (vs : List V) (ds : List PyData) (D : Ends) (E : XK), Room k (A.deeper (envOfC x (defScope st) s.heap.objs.size f cdv)) → DrawOk K H dd → DpAll K H vs ds → Pre ds → (∀ r v H', Same H H' → Post ds r → Dp K H' v r → D.rt v H') →
      WSs (cxOf CX0 P w K mg base N x (defScope st) f cdv A outer s H E).nox (defBody st) D (start N (.ref dd :: vs)) H) : Cal P w K mg base (k + 1) x (spD K Pre Post) [] := by
  obtain ⟨f, fd, F, g⟩ := G.ex
  refine ⟨f, fd, ps, [], ?_, g, F.kp, F.bindsN hb, .nil⟩
  refine F.ok S (fun vs H Q E ⟨dd, vs', ds, e, _, hv, hP, _⟩ => by rw [e, List.length_cons, dpAll_len hv]; exact hl ds hP) fun cdv A outer s H vs Q E hr h => ?_
  obtain ⟨dd, vs', ds, rfl, hd, hv, hP, hk⟩ := h
  exact ⟨_, PSs.nox (pssw _), hbody f cdv A outer s H dd vs' ds _ E hr hd hv hP hk⟩
theorem nodup_len : ∀ (a b : List Nat), a.Nodup → (∀ x ∈ a, x ∈ b) → a.length ≤ b.length
  | [], b, _, _ => Nat.zero_le _
  | x :: a, b, h, k => by
    have hx := k x (List.mem_cons_self ..)
    have h1 := List.nodup_cons.mp h
    have h2 := nodup_len a (b.erase x) h1.2 fun y hy => (List.mem_erase_of_ne (fun e : y = x => h1.1 (by rw [← e]; exact hy))).mpr (k y (List.mem_cons_of_mem _ hy))
    rw [List.length_erase_of_mem hx] at h2
    have := List.length_pos_of_mem hx
    rw [List.length_cons]
    omega
/-! ### _law_kinds -/
def kindsOk (l : List Nat) : Prop := l ≠ [] ∧ l.length ≤ 3 ∧ ∀ c ∈ l, c ∈ LET
theorem c_kinds (V : Ev mg) (G : Gd K mg "_law_kinds" s_L_kinds) (Cp : Cal P w K mg base 2 "_law_pick" (spPick K) []) : Cal P w K mg base 3 "_law_kinds" (spD K (fun ds => ds = []) fun _ r => ∃ l, kindsOk l ∧ r = tx l) [] := by
  refine cal_draw G sc_L_kinds (fun _ _ _ _ _ _ us hl => match us, hl with | [_], _ => rfl) (fun ds h => by rw [h]; rfl) fun f cdv A outer s H dd vs ds D E hr hd hv hP hk => ?_
  subst hP
  cases hv
  have hN := sc_L_kinds.nd
  have hLl : LET.length = 26 := by decide
  refine wss_set 1 hN (EE.is ee_str (by rw [LET_S])) fun v1 H1 s1 d1 => ?_
  refine wss_setP 2 hN (ep_ixS (l := LET) (ee_var 1 rfl d1) (by rw [hLl]; exact ep_pick Cp hr 0 rfl (hd.same s1) (ee_int (i := (26 : Nat))) (by decide) (by decide)) (by decide)) fun d2 v2 H2 p2 s2 e2 => ?_
  obtain ⟨c, hc, rfl⟩ := p2
  have s12 := s1.trans s2
  refine wss_forR (H0 := H2) (g := gName 3) (N := 2) PassesOwn.never (Same.refl H2) (EP.imp (ep_ixL (ds := [.int 0, .int 1, .int 0, .int 1, .int 2]) (en_lst (ea_cons ee_int (ea_cons ee_int (ea_cons ee_int (ea_cons ee_int (ea_1 ee_int)))))).ee (ep_pick (n := 5) Cp hr 0 rfl (hd.same s12) (ee_int (i := (5 : Nat))) (by decide) (by decide))) (fun d hd => ?_)) (by decide) V.range (pgn 3 hN)
    (fun i σ' H' => Same H2 H' ∧ ∃ (l : List Nat) (x3 x4 : Option L2.V), σ' = [some (.ref dd), some v1, some (vS l), x3, x4, none] ∧ l ≠ [] ∧ l.length ≤ i + 1 ∧ ∀ c ∈ l, c ∈ LET) ?_ ?_ ?_
  · have hd' : d = .int 0 ∨ d = .int 1 ∨ d = .int 2 := by
      simp at hd
      rcases hd with h | h | h | h | h <;> simp [h]
    rcases hd' with rfl | rfl | rfl
    · exact ⟨0, by decide, rfl⟩
    · exact ⟨1, by decide, rfl⟩
    · exact ⟨2, by decide, rfl⟩
  · intro H3 s3
    refine ⟨s3, [c], none, none, ?_, by simp, by simp, by simpa using hc⟩
    rw [dp_str e2]
    rfl
  · rintro i x σ' H' H'' hi ⟨s3, l, x3, x4, rfl, hl0, hl1, hl2⟩ s4 dx
    have s14 := s12.trans (s3.trans s4)
    have e1 := d1.same ((s2.trans s3).trans s4)
    refine wss_setLc 4 hN (lcr_filt (as := LET) (enc := fun c => tx [c]) 5 (srv_str (z := S LET) (ee_var 1 rfl e1)).src hN (fun c => !decide (c ∈ l)) (fun c => tx [c]) (fun _ _ _ => rfl) (fun a ha x' H5 s5 dx' s0 H0' C cl fp => et_nin1 (ee_var 5 rfl dx') (ee_var 2 rfl (.str _))) (fun a ha _ x' H5 s5 dx' s0 H0' C cl fp => ee_var 5 rfl dx') (by decide)) fun p xs H5 s5 hp hx hxs => ?_
    have hfl : 1 ≤ (LET.filter fun c => !decide (c ∈ l)).length := by
      refine Nat.pos_of_ne_zero fun h0 => ?_
      have h1 := List.eq_nil_of_length_eq_zero h0
      have h2 : ∀ c ∈ LET, c ∈ l := fun c hc => by
        refine Classical.byContradiction fun hn => ?_
        have : c ∈ LET.filter fun c => !decide (c ∈ l) := List.mem_filter.mpr ⟨hc, by simpa using hn⟩
        rw [h1] at this
        cases this
      have h3 : LET.Nodup := by decide
      have h4 : LET.length ≤ l.length := nodup_len LET l h3 h2
      omega
    have hflu : (LET.filter fun c => !decide (c ∈ l)).length ≤ 26 := by
      have := List.length_filter_le (fun c => !decide (c ∈ l)) LET
      omega
    have dl : Dp K H5 (.ref p) (.list ((LET.filter fun c => !decide (c ∈ l)).map fun c => tx [c])) := .lst (.of hx) hxs
    refine wss_setP 2 hN (ep_addS (l := l) (Ψ := fun m => ∃ c ∈ LET, m = [c]) (ee_var 2 rfl (.str _)) (EP.imp (ep_ixL (ee_var 4 rfl dl) (by rw [List.length_map]; exact ep_pick Cp hr 0 rfl (hd.same (s14.trans s5)) (EE.is (ee_lenS (ee_var 4 rfl dl) rfl (by rw [List.length_map]; omega) V.len) (by rw [List.length_map])) hfl (by omega))) fun d hd => ?_) (by omega) (fun m ⟨c, _, e⟩ => by rw [e]; simp)) fun d6 v6 H6 p6 s6 e6 => ?_
    · obtain ⟨c, hc, rfl⟩ := List.mem_map.mp hd
      exact ⟨[c], ⟨c, (List.mem_filter.mp hc).1, rfl⟩, rfl⟩
    · obtain ⟨m, ⟨c', hc', rfl⟩, rfl⟩ := p6
      refine wss_nil ⟨s3.trans (s4.trans (s5.trans s6)), l ++ [c'], some x, some (.ref p), ?_, by simp, by simp; omega, fun z hz => ?_⟩
      · rw [dp_str e6]
        rfl
      · rcases List.mem_append.mp hz with h | h
        · exact hl2 z h
        · rw [List.mem_singleton.mp h]; exact hc'
  · rintro r σ' H' hr' ⟨s3, l, x3, x4, rfl, hl0, hl1, hl2⟩
    refine wss_ret (ee_js (l := l) ee_str (ee_var 2 rfl (.str _)) (by omega) V.sorted (room_u hr)) fun v H3 s4 dv => hk _ v H3 (s12.trans (s3.trans s4)) ⟨srt l, ⟨fun h => hl0 ?_, by rw [srt_len]; omega, fun c hc => hl2 c ((srt_perm l).mem_iff.mp hc)⟩, rfl⟩ dv
    have := srt_perm l
    rw [h] at this
    exact this.symm.eq_nil
/-! ### _law_things, _law_world -/
theorem flat_len {ls : List (List Nat)} (h : ∀ l ∈ ls, l.length = 1) : ls.flatten.length = ls.length := by
  induction ls with
  | nil => rfl
  | cons l ls ih =>
    rw [List.flatten_cons, List.length_append, List.length_cons, ih fun m hm => h m (List.mem_cons_of_mem _ hm), h l (List.mem_cons_self ..)]
    omega
def Ritem (K : PySem.W.Frag) (Ψ : PyData → Prop) : Addr → Hp → V → PyData → Prop := fun _ H x _ => ∃ d, Ψ d ∧ Dp K H x d ∧ imm d = true
theorem rst_item {K : PySem.W.Frag} {Ψ : PyData → Prop} : Rst (Ritem K Ψ) := ⟨fun ⟨d, p, h, i⟩ s => ⟨d, p, h.same s, i⟩, fun ⟨d, p, h, i⟩ e => ⟨d, p, h.tx (tx_mut (Tx.refl _) e trivial) i, i⟩⟩
theorem ritem_out {K : PySem.W.Frag} {Ψ : PyData → Prop} {H : Hp} {p : Addr} : ∀ {xs : List V} {ls : List PyData}, RAll (Ritem K Ψ p) H xs ls → ∃ ds, DpAll K H xs ds ∧ (∀ d ∈ ds, Ψ d) ∧ ds.length = ls.length
  | _, _, .nil => ⟨[], .nil, fun _ h => (by cases h), rfl⟩
  | _, _, .cons ⟨d, p, h, _⟩ t => by
    obtain ⟨ds, h1, h2, h3⟩ := ritem_out t
    exact ⟨d :: ds, .cons h h1, fun e he => by rcases List.mem_cons.mp he with rfl | he; exact p; exact h2 e he, by rw [List.length_cons, List.length_cons, h3]⟩
def P_things : List PyData → Prop := fun ds => ∃ l cap, ds = [tx l, .int ((cap : Nat) : Int)] ∧ l ≠ [] ∧ l.length ≤ 100 ∧ 1 ≤ cap ∧ cap ≤ 100
def Q_things : List PyData → PyData → Prop := fun ds r => ∃ l cap m, ds = [tx l, .int ((cap : Nat) : Int)] ∧ r = tx m ∧ m.length ≤ cap + 1 ∧ ∀ c ∈ m, c ∈ l
/-- [elt for x in range(a drawn number)], drawn items of Ψ -/
theorem we_lcP {X : Cx} {σ : L2.St} {H : Hp} {e elt : Expr} {x : Str} {px p pp pos : Pos} {N : Nat} {Ψ : PyData → Prop} {scope : Scope} {Q : VK} (j : Nat) (hN : X.N.Nodup) (ha : EP X σ H e (below N)) (hm : X.mg "range" = none) (hn : N ≤ 100000)
    (step : ∀ D v H', Same H H' → H' D ≠ none → ∀ (s : Shared) (H0 : Hp) (C : Addr) (cl : List (Str × Addr)) (fp : List Addr), EP (X.blk s H0 scope (compEnvC scope cl C X.env) fp) ((wipe σ [j]).set j (some v)) H' elt fun d => Ψ d ∧ imm d = true)
    (k : ∀ ds p xs H2, ds.length ≤ N → Same H H2 → H p = none → H2 p = some (.lst xs) → DpAll X.K H2 xs ds → (∀ d ∈ ds, Ψ d) → Q (.ref p) H2)
    (ok : BlkOk X.N X.env.scope scope [(x, j)] := by exact blkOk_by rfl) (hg : ∀ (s : Shared) (H : Hp) (C : Addr) (cl : List (Str × Addr)) (fp : List Addr), PG (X.blk s H scope (compEnvC scope cl C X.env) fp) (.Name x px) (gName j) := by exact fun _ _ _ _ _ => pg_name (by assumption) rfl (.inl rfl))
    (hgl : Gl X "range" := by rfl) (hs : starEach [e] X.env = [(false, eval e X.env)] := by exact star_one (by rfl)) (hc : X.calm = true := by rfl) (hfs : ∀ x, foldedSetIterable (.Call (.Name "range" p) [e] [] pp) X.env x = pure x := by intro _; rfl) :
    WE X (.ListComp elt [⟨.Name x px, .Call (.Name "range" p) [e] [] pp, [], 0⟩] scope pos) σ H Q := by
  refine we_of (pe_lc hc hN (pi_range1 hgl hm (pa_cons (pw e) pa_nil hs) hs) ok hg (fun s H C cl fp => pts_nil) (fun s H C cl fp => pe_teB s H C cl fp) hfs) ?_
  refine (ha H (Same.refl H)).mono fun v H2 ⟨s2, d, ⟨r, hr, e⟩, dv⟩ => ?_
  subst e
  refine ⟨(r : Int), by rw [dp_int dv], by omega, by omega, ?_⟩
  have w := walk_rangeD 0 r
  have st : SRCt X (fun _ H R => R (Itr 0 r) H) σ H2 ((List.range r).map fun (i : Nat) => PyData.int ((0 : Int) + i)) := fun H1 s1 R kk => kk _ H1 _ _ (Same.refl H1) w (fun _ _ => trivial) fun i H3 x H4 hi _ y => by
    obtain ⟨rfl, rfl⟩ := y
    have hi' : i < r := by simpa using hi
    exact ⟨Same.refl _, _, rangeD_get hi', .int _⟩
  have z := ent_lcR (X := X) (σ := σ) (H := H2) (as := List.range r) (enc := fun (i : Nat) => PyData.int ((0 : Int) + i)) (wi := fun _ H R => R (Itr 0 r) H) (g := gName j) (tt := tYes) (te := teB X scope elt) (vs := [j]) (R := Ritem X.K Ψ) rst_item st (by rw [List.length_range]; omega) (fun _ => true) (fun _ => .none) fun D d x H' hd s' _ hn' dx Rr kk => kk _ (by
      show ((wipe σ [j]).set j (some x)).set j none = σ.set j none
      rw [List.set_set]
      show (σ.set j none).set j none = _
      rw [List.set_set]) (fun Q hq => hq H' (Same.refl H')) fun _ H3 s3 Q hq => fun s H0 C cl fp => ((step D x H3 ((s2.trans s').trans s3) (by
        cases h : H' D with
        | none => exact absurd h hn'
        | some o => rw [s3 _ _ h]; simp) s H0 C cl fp) H3 (Same.refl H3)).mono fun y H4 ⟨s4, d, ⟨pd, im⟩, dy⟩ => hq y H4 s4 ⟨d, pd, dy, im⟩
  refine z H2 (Same.refl H2) _ fun p xs H3 s3 hp hq hx => ?_
  obtain ⟨ds, h1, h2, h3⟩ := ritem_out hx
  refine k ds p xs H3 ?_ (s2.trans s3) (s2.free hp) hq h1 h2
  rw [h3, List.length_map]
  have := List.length_filter_le (fun _ : Nat => true) (List.range r)
  rw [List.length_range] at this
  omega
theorem c_things (V : Ev mg) (G : Gd K mg "_law_things" s_L_things) (Cp : Cal P w K mg base 2 "_law_pick" (spPick K) []) : Cal P w K mg base 3 "_law_things" (spD K P_things Q_things) [] := by
  refine cal_draw G sc_L_things (fun _ _ _ _ _ _ us hl => match us, hl with | [_, _, _], _ => rfl) (fun ds ⟨_, _, h, _⟩ => by rw [h]; rfl) fun f cdv A outer s H dd vs ds D E hr hd hv hP hk => ?_
  obtain ⟨l, cap, rfl, hl0, hl1, hc1, hc2⟩ := hP
  obtain ⟨v1, v2, rfl, d1, d2⟩ := dpAll_2 hv
  have hN := sc_L_things.nd
  have hlp : 0 < l.length := List.length_pos_iff.mpr hl0
  have h0 : l[0]? = some l[0] := List.getElem?_eq_getElem hlp
  refine wss_of (pss_cons (ps_ret (pw _)) (pssw _)) ?_
  refine we_of (pe_op op_add_str (pw _) (pw _)) (EE.at (ee_ix1 (i := 0) (ee_var 1 rfl d1) ee_int h0 (by omega)) (Same.refl H) fun va H1 s1 da => ?_)
  refine we_of (pe_join (pw _) (pw _)) (EE.at (ee_str (x := S [])) (Same.refl H1) fun vb H2 s2 db => ⟨⟨S [], dp_str db⟩, ?_⟩)
  have s12 := s1.trans s2
  refine we_lcP (Ψ := fun d => ∃ c ∈ l, d = tx [c]) 3 hN (ep_pick Cp hr 0 rfl (hd.same s12) (ee_var 2 rfl (d2.same s12)) hc1 (by omega)) V.range (by omega) (fun D v H' s' _ s0 H0' C cl fp => ?_) fun ds p xs H3 hn s3 hp hx hxs hps => ?_
  · refine EP.imp (ep_ixS (l := l) (ee_var 1 rfl (d1.same (s12.trans s'))) (ep_pick Cp hr 0 rfl (hd.same (s12.trans s')) (EE.is (ee_lenS (ds := K10.signs (S l)) (ee_var 1 rfl (d1.same (s12.trans s'))) rfl (by simp [signs_S]; omega) V.len) (by simp [signs_S])) hlp (by omega)) (by omega)) fun d ⟨c, hc, e⟩ => ⟨⟨c, hc, e⟩, by rw [e]; rfl⟩
  · obtain ⟨ms, rfl, hms⟩ : ∃ ms : List (List Nat), ds = ms.map tx ∧ ∀ m ∈ ms, ∃ c ∈ l, m = [c] := by
      clear hn hxs
      induction ds with
      | nil => exact ⟨[], rfl, fun _ h => by cases h⟩
      | cons d ds ih =>
        obtain ⟨c, hc, rfl⟩ := hps d (List.mem_cons_self ..)
        obtain ⟨ms, rfl, h⟩ := ih fun e he => hps e (List.mem_cons_of_mem _ he)
        exact ⟨[c] :: ms, rfl, fun m hm => by
          rcases List.mem_cons.mp hm with rfl | hm
          · exact ⟨c, hc, rfl⟩
          · exact h m hm⟩
    rw [rows_of hxs] at hx
    have hfl : ms.flatten.length = ms.length := flat_len fun m hm => by obtain ⟨c, _, e⟩ := hms m hm; rw [e]; rfl
    rw [List.length_map] at hn
    have hl2 := lens ms
    have hsum : (ms.map (·.length)).sum = ms.flatten.length := by rw [List.length_flatten]
    have hx' : SqL K H3 p ((ms.map S).map L2.V.str) := .of (by rw [List.map_map]; exact hx)
    refine ⟨S [], p, ms.map S, dp_str db, rfl, .inl hx', ?_, ?_⟩
    · rw [hl2, hsum, hfl, S_len]
      simp only [List.length_nil, Nat.mul_zero]
      show _ ≤ 16777216
      omega
    · rw [join0]
      refine ⟨S [l[0]], S ms.flatten, dp_str da, rfl, by rw [S_len, S_len, hfl, sizeLine_eq]; simp; omega, ?_⟩
      rw [S_cat]
      refine hk _ _ H3 (s12.trans s3) ⟨l, cap, [l[0]] ++ ms.flatten, rfl, rfl, by rw [List.length_append, hfl]; simp; omega, fun c hc => ?_⟩ (.str _)
      rcases List.mem_append.mp hc with h | h
      · rw [List.mem_singleton.mp h]; exact List.getElem_mem hlp
      · obtain ⟨m, hm, hcm⟩ := List.mem_flatten.mp h
        obtain ⟨c', hc', rfl⟩ := hms m hm
        rw [List.mem_singleton.mp hcm]; exact hc'
end
end K10
set_option maxHeartbeats 4000000
/-! Worlds drawn; the draw made. -/
namespace K10
open PySem PySem.Spec PyProof.Rows L2 SX
open C8 (Cal pe_c)
section
variable {P : Program} {w : World} {K : PySem.W.Frag} {mg : Str → Option Value} {base : Heap}
def P_world : List PyData → Prop := fun ds => ∃ (n : Nat) (l : List Nat), ds = [iN n, tx l] ∧ 2 ≤ n ∧ n ≤ 6 ∧ l.length ≤ 100
def Q_world : List PyData → PyData → Prop := fun ds r => ∃ (n : Nat) (l : List Nat) (u : List (List Nat)), ds = [iN n, tx l] ∧ r = wD u ∧ GoodW n l.length u ∧ ∀ r ∈ u, ∀ z ∈ r, z ∈ l
theorem c_world (V : Ev mg) (G : Gd K mg "_law_world" s_L_world) (Cp : Cal P w K mg base 2 "_law_pick" (spPick K) []) : Cal P w K mg base 3 "_law_world" (spD K P_world Q_world) [] := by
  refine cal_draw G sc_L_world (fun _ _ _ _ _ _ us hl => match us, hl with | [_, _, _], _ => rfl) (fun ds ⟨_, _, h, _⟩ => by rw [h]; rfl) fun f cdv A outer s H dd vs ds D E hr hd hv hP hk => ?_
  obtain ⟨n, l, rfl, hn2, hn6, hl⟩ := hP
  obtain ⟨v1, v2, rfl, d1, d2⟩ := dpAll_2 hv
  have hN := sc_L_world.nd
  refine wss_setLc 4 hN (lcr_map 3 (srv_rangeN (n := n) (ee_var 1 rfl d1) V.range (by omega)).src hN (fun _ => tx []) (fun _ _ => rfl) (fun a ha x H' s' dx s0 H0' C cl fp => ee_str) (by rw [List.length_range]; omega)) fun p xs H1 s1 hp hx hxs => ?_
  have hrep : (List.range n).map (fun _ => tx []) = (List.replicate n ([] : List Nat)).map tx := by
    rw [List.map_replicate, List.map_const', List.length_range]
  rw [hrep] at hxs
  rw [rows_of hxs] at hx
  refine wss_forV (H0 := H) (g := gName 5) PassesOwn.never s1 (srv_str (ee_var 2 rfl d2)) (pgn 5 hN)
    (fun i σ' H' => Same H H' ∧ ∃ (c : List (List Nat)) (x3 x5 x6 : Option L2.V), σ' = [some (.ref dd), some v1, some v2, x3, some (.ref p), x5, x6] ∧ H' p = some (.lst (c.map vS)) ∧ c.length = n ∧ (∀ r ∈ c, r.length ≤ i) ∧ ∀ r ∈ c, ∀ z ∈ r, z ∈ l) ?_ ?_ ?_ ?_
  · exact fun H2 s2 => ⟨s1.trans s2, _, none, none, none, rfl, s2 _ _ hx, by simp, (fun r hr => by rw [List.eq_of_mem_replicate hr]; simp), fun r hr => by rw [List.eq_of_mem_replicate hr]; simp⟩
  · exact fun i σ' H' p => p.1
  · rintro i d x σ' H' H'' hd' ⟨s2, c, x3, x5, x6, rfl, hc, hcl, hcb, hcc⟩ s3 dx
    rw [signs_S, List.getElem?_map] at hd'
    obtain ⟨y, hy, rfl⟩ := Option.map_eq_some_iff.mp hd'
    have hil : i < l.length := (List.getElem?_eq_some_iff.mp hy).1
    have s23 := s2.trans s3
    refine wss_setP 3 hN (ep_pick Cp hr 0 rfl (hd.same s23) (ee_var 1 rfl (d1.same s23)) (by omega) (by omega)) fun d3 v3 H4 p3 s4 e3 => ?_
    obtain ⟨r, hrn, rfl⟩ := p3
    have hrc : r < c.length := by omega
    have hc4 := s4 _ _ (s3 _ _ hc)
    have hrow := hcb _ (rowAt_mem hrc).1
    refine wss_seti (j := r) 4 rfl hc4 (by rw [List.length_map]; exact hrc) (ee_addS (l := rowAt c r) (m := [y]) (ee_ixL (j := r) (ee_var 4 rfl (dp_rows hc4)) (ee_var 3 rfl e3) (by rw [List.getElem?_map, (rowAt_mem hrc).2]; rfl)) (ee_var 5 rfl (dx.same s4)) (by simp; omega)) (ee_var 3 rfl e3) fun v6 H6 s6 d6 => ?_
    rw [dp_str d6, set_rows]
    refine wss_nil ⟨same_mut ((s23.trans s4).trans s6) hp, _, some v3, some x, x6, rfl, upd_same, by rw [List.length_set]; exact hcl, fun z hz => ?_, fun z hz q hq => ?_⟩
    · rcases set_mem hz with rfl | hz
      · simp; omega
      · have := hcb z hz; omega
    · rcases set_mem hz with rfl | hz
      · rcases List.mem_append.mp hq with hq | hq
        · exact hcc _ (rowAt_mem hrc).1 q hq
        · rw [List.mem_singleton.mp hq]
          exact List.mem_of_getElem? hy
      · exact hcc z hz q hq
  · rintro σ' H' ⟨s2, c, x3, x5, x6, rfl, hc, hcl, hcb, hcc⟩
    rw [signs_S, List.length_map] at hcb
    refine wss_ret (ee_tuple (ds := (c.map srt).map tx) (en_lc hN (LcR.is (lcr_map (as := c) (enc := tx) 6 (srv_lst 4 rfl (dp_rows hc)).src hN (fun r => tx (srt r)) (fun _ _ => rfl) (fun r hrc x H3 s3 dx s0 H0' C cl fp => ee_js (l := r) ee_str (ee_var 6 rfl dx) (by have := hcb r hrc; omega) V.sorted (room_u hr)) (by omega)) (by rw [List.map_map]; rfl))).ee (.inl rfl) V.tuple) fun v H3 s3 dv => hk _ v H3 (s2.trans s3) ⟨n, l, c.map srt, rfl, rfl, ?_⟩ dv
    refine ⟨⟨by rw [List.length_map]; exact hcl, fun r hr => ?_, fun r hr => ?_⟩, fun r hr z hz => ?_⟩
    · obtain ⟨z, _, rfl⟩ := List.mem_map.mp hr
      exact srt_sorted z
    · obtain ⟨z, hz, rfl⟩ := List.mem_map.mp hr
      rw [srt_len]
      exact hcb z hz
    · obtain ⟨y, hy, rfl⟩ := List.mem_map.mp hr
      exact hcc y hy z ((srt_perm y).mem_iff.mp hz)
/-! ### _law_draw -/
theorem we_shutE {X : Cx} {σ : L2.St} {H : Hp} {e : Expr} {Q : VK} (h : WE X e σ H fun v H1 => ∃ d c i1 i2 i3 i4 i5, H1 d = some (.lst (drV c i1 i2 i3 i4 i5)) ∧ Q v (upd H1 d (.ext (drPhi c d)))) : WE X e σ H Q := .mk fun pins s I =>
  thn (h pins s I) fun v s1 ⟨x, H1, I1, r, d, c, i1, i2, i3, i4, i5, hd, q⟩ => ⟨x, _, Inv.shutD I1 hd, r, q⟩
def spDraw (K : PySem.W.Frag) : Sp := fun vs H Q _ => ∃ a ns, vs = [.ref a] ∧ Dp K H (.ref a) (.list ((ns : List Int).map .int)) ∧ ns.length ≤ 1000 ∧ ∀ d H', Same H H' → DrawOk K H' d → Q (.ref d) H'
theorem c_draw (V : Ev mg) (G : Gd K mg "_law_draw" s_L_draw) : Cal P w K mg base 1 "_law_draw" (spDraw K) [] := by
  obtain ⟨f, fd, F, g⟩ := G.ex
  refine ⟨f, fd, p_L_draw, [], ?_, g, F.kp, F.bindsN (fun _ _ _ _ _ _ us hl => match us, hl with | [_], _ => rfl), .nil⟩
  refine F.ok sc_L_draw (fun vs H Q E ⟨_, _, h, _⟩ => by rw [h]; rfl) fun cdv A outer s H vs Q E hr h => ?_
  obtain ⟨a, ns, rfl, da, hz, hk⟩ := h
  have hN := sc_L_draw.nd
  refine ⟨_, PSs.nox (pssw _), ?_⟩
  refine wss_setLc 1 hN (lcr_map (as := ns) (enc := PyData.int) 2 (srv_lst 0 rfl da).src hN PyData.int (fun _ _ => rfl) (fun i hi x H' s' dx s0 H0' C cl fp => ee_var 2 rfl dx) (by omega)) fun p xs H1 s1 hp hx hxs => ?_
  rw [dpAll_ints hxs] at hx
  have dl : Dp K H1 (.ref p) (.list (ns.map .int)) := .lst (.of hx) (dpAll_ofInts ns)
  refine wss_of (pss_cons (ps_ret (pw _)) (pssw _)) ?_
  refine we_shutE ?_
  refine we_of (pe_lst (pa_cons (pe_var (i := 1) rfl (by first | exact Or.inl rfl | exact Or.inr (Or.inl rfl))) (paw _))) ⟨.ref p, rfl, ?_⟩
  refine EA.at (ea_cons ee_int (ea_cons ee_int (ea_cons ee_int (ea_cons ee_int (ea_1 (ee_add (ee_mod (ee_int1 (ee_sum (ns := ns) (ee_var 1 rfl dl) V.sum) V.int) ee_int (by decide)) (ee_mul ee_int (ee_lenS (ds := ns.map .int) (ee_var 1 rfl dl) rfl (by simp; omega) V.len) (.inl (by decide))))))))) (Same.refl H1) fun zs H2 s2 hzs => ?_
  generalize ns.sum % 1000003 + 7 * ((ns.map PyData.int).length : Int) = i5 at hzs
  have e : zs = [.int 0, .int 0, .int 0, .int 0, .int i5] := dpAll_ints (ns := [0, 0, 0, 0, i5]) hzs
  subst e
  refine ⟨by show 6 ≤ sizeLine; decide, fun q hq => ⟨q, p, 0, 0, 0, 0, i5, upd_same, ?_⟩⟩
  have hne : p ≠ q := ne_of_none (s2 _ _ hx) hq
  rw [upd_upd]
  have s3 : Same H2 (upd H2 q (.ext (drPhi p q))) := same_new hq
  exact hk q _ ((s1.trans s2).trans s3) ⟨p, ns, upd_same, s3 _ _ (s2 _ _ hx), by omega⟩
end
end K10
set_option maxHeartbeats 4000000
/-! Dicts whose keys are tuples, nested, and whose values are ints: told by their entries (key, the key's own tuple, value). -/
namespace K10
open PySem PySem.Spec PyProof.Rows L2 SX
mutual
/-- the key as the model's kind of key sees it -/
def nk : PyData → NestedKey
  | .int i => .num i
  | .str z => .text z
  | .tuple ds => .tup (nkAll ds)
  | _ => .none
def nkAll : List PyData → List NestedKey
  | [] => []
  | d :: ds => nk d :: nkAll ds
end
mutual
/-- data that may be a key: ints, texts, tuples of such -/
def keyB : PyData → Bool
  | .int _ => true
  | .str _ => true
  | .tuple ds => keyAll ds
  | _ => false
def keyAll : List PyData → Bool
  | [] => true
  | d :: ds => keyB d && keyAll ds
end
def okKey (d : PyData) : Bool := keyB d && decide ((nk d).depth ≤ 8)
mutual
theorem nested_of {h : Heap} : ∀ (d : PyData) (v : Value) (as : List Addr), keyB d = true → Reads h v d as → NestedIs h (nk d) v
  | .int i, v, as, _, r => by cases r; exact .int _ _
  | .str z, v, as, _, r => by cases r; exact .text _ _
  | .tuple ds, v, as, k, r => by
    cases r with
    | tuple h1 h2 h3 h4 => exact .tup h1 h2 h3 (nested_all ds _ _ (by simpa [keyB] using k) h4)
  | .none, _, _, k, _ => by simp [keyB] at k
  | .bool _, _, _, k, _ => by simp [keyB] at k
  | .list _, _, _, k, _ => by simp [keyB] at k
  | .dict _, _, _, k, _ => by simp [keyB] at k
theorem nested_all {h : Heap} : ∀ (ds : List PyData) (vs : List Value) (as : List Addr), keyAll ds = true → ReadsAll h vs ds as → NestedAll h (nkAll ds) vs
  | [], vs, as, _, r => by cases r; exact .nil
  | d :: ds, vs, as, k, r => by
    have k' : keyB d = true ∧ keyAll ds = true := by simpa [keyAll] using k
    cases r with
    | cons r1 r2 => exact .cons (nested_of d _ _ k'.1 r1) (nested_all ds _ _ k'.2 r2)
end
mutual
theorem key_imm : ∀ d : PyData, keyB d = true → imm d = true
  | .int _, _ => rfl
  | .str _, _ => rfl
  | .tuple ds, h => by rw [imm]; exact key_immAll ds (by simpa [keyB] using h)
  | .none, h => by simp [keyB] at h
  | .bool _, h => by simp [keyB] at h
  | .list _, h => by simp [keyB] at h
  | .dict _, h => by simp [keyB] at h
theorem key_immAll : ∀ ds : List PyData, keyAll ds = true → immAll ds = true
  | [], _ => rfl
  | d :: ds, h => by
    have h' : keyB d = true ∧ keyAll ds = true := by simpa [keyAll] using h
    rw [immAll, key_imm d h'.1, key_immAll ds h'.2]
    rfl
end
/-- an entry: the key, where its tuple stands, the value -/
abbrev Ent := PyData × Addr × Int
def entR (x : Ent) (y : NestedKey × Addr × Value) : Prop := y.1 = nk x.1 ∧ y.2.1 = x.2.1 ∧ ∃ t, y.2.2 = .int x.2.2 t
def dPhi (P : Program) (w : World) (d : Addr) (xs : List Ent) : Heap → Prop := fun h => ∃ ys : List (NestedKey × Addr × Value), Paired entR xs ys ∧ ∃ o es ep, h.get? d = some o ∧ o.ExactDict ∧ o.data = .dict es ep ∧ es.toList = ys.map (entryOfKey (nestedKind P w))
structure DDk (K : PySem.W.Frag) (H : Hp) (xs : List Ent) : Prop where
  key : ∀ x ∈ xs, Dp K H (.ref x.2.1) x.1 ∧ okKey x.1 = true
  nod : (xs.map fun x => nk x.1).Nodup
structure DD (X : Cx) (H : Hp) (d : Addr) (xs : List Ent) : Prop extends DDk X.K H xs where
  at' : Rd H d (.ext (dPhi X.prog X.w d xs))
  nosys : (d == sysModules) = false
section
variable {X : Cx} {pins : List (Addr × Obj)} {σ : L2.St} {H H' : Hp} {s : Shared} {d : Addr} {xs : List Ent}
theorem DDk.same {K : PySem.W.Frag} (h : DDk K H xs) (e : Same H H') : DDk K H' xs := ⟨fun x hx => ⟨(h.key x hx).1.same e, (h.key x hx).2⟩, h.nod⟩
theorem DDk.tx {K : PySem.W.Frag} (h : DDk K H xs) (e : Tx H H') : DDk K H' xs := ⟨fun x hx => ⟨(h.key x hx).1.tx e (key_imm _ (by have := (h.key x hx).2; simp [okKey] at this; exact this.1)), (h.key x hx).2⟩, h.nod⟩
theorem DD.same (h : DD X H d xs) (e : Same H H') : DD X H' d xs := ⟨h.toDDk.same e, by
  rcases h.at' with a | ⟨o, a⟩
  · exact .inl (e _ _ a)
  · exact .inr ⟨o, e _ _ a⟩, h.nosys⟩
theorem DD.blk {s' : Shared} {H0 : Hp} {scope : Scope} {ce : Env} {fp : List Addr} (h : DD X H d xs) : DD (X.blk s' H0 scope ce fp) H d xs := ⟨h.toDDk, h.at', h.nosys⟩
theorem key_is {P : Program} {w : World} {v : V} {a : Addr} {kd : PyData} (I : Inv X pins σ H s) (h : Dp X.K H (.ref a) kd) (k : okKey kd = true) : (nestedKind P w).is s.heap (nk kd) a := by
  obtain ⟨as, r⟩ := Dp.reads I kd (.ref a) (.ref a) h rfl
  have k' : keyB kd = true ∧ (nk kd).depth ≤ 8 := by simpa [okKey] using k
  exact ⟨nested_of kd _ _ k'.1 r, k'.2⟩
theorem paired_mem {α β : Type} {F : α → β → Prop} : ∀ {xs : List α} {ys : List β}, Paired F xs ys → ∀ y ∈ ys, ∃ x ∈ xs, F x y
  | _, _, .nil, y, h => by cases h
  | _, _, .cons r t, y, h => by
    rcases List.mem_cons.mp h with rfl | h
    · exact ⟨_, List.mem_cons_self .., r⟩
    · obtain ⟨x, hx, q⟩ := paired_mem t y h
      exact ⟨x, List.mem_cons_of_mem _ hx, q⟩
theorem paired_keys : ∀ {xs : List Ent} {ys : List (NestedKey × Addr × Value)}, Paired entR xs ys → ys.map (·.1) = xs.map fun x => nk x.1
  | _, _, .nil => rfl
  | _, _, .cons r t => by rw [List.map_cons, List.map_cons, r.1, paired_keys t]
/-- what stands there -/
theorem DD.of (h : DD X H d xs) (I : Inv X pins σ H s) : ∃ ys, Paired entR xs ys ∧ s.heap.DictOfH (nestedKind X.prog X.w) d ys := by
  have q := h.at'.ok I.hok
  obtain ⟨⟨ys, hp, o, es, ep, e1, e2, e3, e4⟩, _, _⟩ := q
  refine ⟨ys, hp, o, es, ep, e1, e2, e3, e4, fun y hy => ?_, by rw [paired_keys hp]; exact h.nod⟩
  obtain ⟨x, hx, r1, r2, _⟩ := paired_mem hp y hy
  obtain ⟨k1, k2⟩ := h.key x hx
  rw [r1, r2]
  exact key_is (v := .non) I k1 k2
/-- the value under a key -/
def entAt (xs : List Ent) (k : PyData) : Option Int := (xs.find? fun x => decide (nk x.1 = nk k)).map (·.2.2)
theorem atKey_ent (k : PyData) : ∀ {xs : List Ent} {ys : List (NestedKey × Addr × Value)}, Paired entR xs ys → match entAt xs k with | some i => ∃ a t, atKey ys (nk k) = some (a, .int i t) | none => atKey ys (nk k) = none
  | _, _, .nil => rfl
  | x :: xs, y :: ys, .cons r t => by
    obtain ⟨r1, r2, t', r3⟩ := r
    have ih := atKey_ent k t
    unfold entAt atKey at *
    rw [List.find?_cons, List.find?_cons, r1]
    by_cases h : nk x.1 = nk k
    · simp only [h, decide_true]
      exact ⟨y.2.1, t', by rw [← r3]; rfl⟩
    · simp only [h, decide_false]
      exact ih
theorem valueAt_ent {k : PyData} {ys : List (NestedKey × Addr × Value)} (h : Paired entR xs ys) : (∃ i t, entAt xs k = some i ∧ valueAt (pairsH ys) (nk k) = some (.int i t)) ∨ (entAt xs k = none ∧ valueAt (pairsH ys) (nk k) = none) := by
  have := atKey_ent k h
  rw [valueAt_pairsH]
  cases e : entAt xs k with
  | none => rw [e] at this; exact .inr ⟨rfl, by rw [this]; rfl⟩
  | some i =>
    rw [e] at this
    obtain ⟨a, t, q⟩ := this
    exact .inl ⟨i, t, rfl, by rw [q]; rfl⟩
/-- the entries behind d[k] = i, the key's tuple at a -/
def entPut (xs : List Ent) (k : PyData) (a : Addr) (i : Int) : List Ent := if (entAt xs k).isSome then xs.map fun x => if nk x.1 = nk k then (x.1, x.2.1, i) else x else xs ++ [(k, a, i)]
theorem paired_app {α β : Type} {F : α → β → Prop} {x : α} {y : β} (r : F x y) : ∀ {xs : List α} {ys : List β}, Paired F xs ys → Paired F (xs ++ [x]) (ys ++ [y])
  | _, _, .nil => .cons r .nil
  | _, _, .cons q t => .cons q (paired_app r t)
theorem put_ent {k : PyData} {a : Addr} {i : Int} {t : Tok} {ys : List (NestedKey × Addr × Value)} (h : Paired entR xs ys) : Paired entR (entPut xs k a i) (storedH ys (nk k) a (.int i t)) := by
  have q := atKey_ent k h
  unfold entPut storedH
  cases e : entAt xs k with
  | none =>
    rw [e] at q
    simp only [q, Option.isSome_none, Bool.false_eq_true, if_false]
    exact paired_app ⟨rfl, rfl, t, rfl⟩ h
  | some j =>
    rw [e] at q
    obtain ⟨b, t', q⟩ := q
    simp only [q, Option.isSome_some, if_true]
    clear e q
    induction h with
    | nil => exact .nil
    | @cons x y xs ys r _ ih =>
      rw [List.map_cons, List.map_cons]
      refine .cons ?_ ih
      obtain ⟨r1, r2, t2, r3⟩ := r
      unfold putAt
      rw [r1]
      by_cases hk : nk x.1 = nk k
      · rw [if_pos hk, if_pos hk]
        exact ⟨rfl, r2, t, rfl⟩
      · rw [if_neg hk, if_neg hk]
        exact ⟨r1, r2, t2, r3⟩
/-! ### by values -/
theorem room_nk {A : Around} (h : A.units + 200 < cLine) : (nestedKind X.prog X.w).room A.in1 := by
  show A.units + 1 + 8 < cLine
  omega
/-- d.get(k, j) -/
def rDget (X : Cx) : V → List V → Hp → VK → Prop := fun x vs H Q => ∃ d xs kd j a, x = .ref d ∧ vs = [.ref a, .int j] ∧ DD X H d xs ∧ Dp X.K H (.ref a) kd ∧ okKey kd = true ∧ Q (.int ((entAt xs kd).getD j)) H
theorem mt_dget (hu : X.A.units + 200 < cLine) : MtR X "dict.get" (rDget X) := by
  intro pins s σ H x vs v us Q I rx rvs h
  obtain ⟨d, xs, kd, j, a, rfl, rfl, D, hk, ok, q⟩ := h
  obtain rfl : v = Value.ref d := rx
  cases rvs with
  | cons r1 r2 =>
    cases r2 with
    | cons r2 r3 =>
      cases r3
      obtain rfl := (show _ = Value.ref a from r1)
      obtain ⟨t, rfl⟩ := r2
      obtain ⟨ys, hp, hm⟩ := D.of I
      refine PySem.getOr_keyed (knd := nestedKind X.prog X.w) (room_nk hu) (key_is (v := .non) I hk ok) D.nosys ⟨ys, hm, rfl⟩ ?_
      rcases valueAt_ent (k := kd) hp with ⟨i, t', e1, e2⟩ | ⟨e1, e2⟩
      · rw [e2]
        rw [e1] at q
        exact ⟨.int i, H, I.tok _, ⟨t', rfl⟩, q⟩
      · rw [e2]
        rw [e1] at q
        exact ⟨.int j, H, I.tok _, ⟨t, rfl⟩, q⟩
/-- d[k] -/
def rDix (X : Cx) : R2 := fun x y H Q => ∃ d xs kd i a, x = .ref d ∧ y = .ref a ∧ DD X H d xs ∧ Dp X.K H (.ref a) kd ∧ okKey kd = true ∧ entAt xs kd = some i ∧ Q (.int i) H
theorem dix_raw (hu : X.A.units + 200 < cLine) {a : Addr} {kd : PyData} {i : Int} {Q E : Value → Shared → Prop} (I : Inv X pins σ H s) (D : DD X H d xs) (hk : Dp X.K H (.ref a) kd) (ok : okKey kd = true) (he : entAt xs kd = some i)
    (q : ∀ t tk, Q (.int i t) { s with toks := tk }) : wpAny (model X.prog X.w) X.A (getItem (.ref d) (.ref a)) Q E s := by
  obtain ⟨ys, hp, hm⟩ := D.of I
  rcases valueAt_ent (k := kd) hp with ⟨j, t', e1, e2⟩ | ⟨e1, e2⟩
  · rw [e1] at he
    cases he
    exact PySem.getItem_keyed (knd := nestedKind X.prog X.w) (room_nk hu) (key_is (v := .non) I hk ok) ⟨ys, hm, rfl⟩ e2 (q _ _)
  · rw [e1] at he
    cases he
theorem put_nodup {k : PyData} {a : Addr} {i : Int} (h : (xs.map fun x => nk x.1).Nodup) : ((entPut xs k a i).map fun x => nk x.1).Nodup := by
  unfold entPut
  cases e : entAt xs k with
  | some j =>
    simp only [Option.isSome_some, if_true]
    rw [List.map_map]
    have : (fun x : Ent => nk x.1) ∘ (fun x : Ent => if nk x.1 = nk k then (x.1, x.2.1, i) else x) = fun x => nk x.1 := by
      funext x
      show nk (if nk x.1 = nk k then (x.1, x.2.1, i) else x).1 = nk x.1
      split <;> rfl
    rw [this]
    exact h
  | none =>
    simp only [Option.isSome_none, Bool.false_eq_true, if_false]
    rw [List.map_append]
    refine List.nodup_append.mpr ⟨h, by simp, fun x hx y hy e' => ?_⟩
    obtain ⟨z, hz, rfl⟩ := List.mem_map.mp hx
    have hy' : y = nk k := by simpa using hy
    subst hy'
    unfold entAt at e
    have h1 : xs.find? (fun x => decide (nk x.1 = nk k)) = none := Option.map_eq_none_iff.mp e
    have h2 := List.find?_eq_none.mp h1 z hz
    simp at h2
    exact h2 e'
/-- d[k] = i: the dict is ours to write -/
theorem dset_raw (hu : X.A.units + 200 < cLine) {a : Addr} {kd : PyData} {i : Int} {t : Tok} {Q : Unit → Shared → Prop} {E : Value → Shared → Prop} (I : Inv X pins σ H s) (hd : H d = some (.ext (dPhi X.prog X.w d xs))) (D : DDk X.K H xs) (hs : (d == sysModules) = false) (hk : Dp X.K H (.ref a) kd) (ok : okKey kd = true) (hl : xs.length ≤ 100000)
    (q : ∀ h' tk, Heap.SameBut d s.heap h' → Inv X pins σ (upd H d (.ext (dPhi X.prog X.w d (entPut xs kd a i)))) { s with heap := h', toks := tk } → Q () { s with heap := h', toks := tk }) : wpAny (model X.prog X.w) X.A (setItem (.ref d) (.ref a) (.int i t)) Q E s := by
  have DD1 : DD X H d xs := ⟨D, .inl hd, hs⟩
  obtain ⟨ys, hp, hm⟩ := DD1.of I
  have hpl : ys.length ≤ sizeLine := by rw [← Paired.length hp, sizeLine_eq]; omega
  refine wpAny_setItem_heap (knd := nestedKind X.prog X.w) (room_nk hu) (key_is (v := .non) I hk ok) hm (fun h' hm' hsb => q h' _ hsb ?_) hpl
  obtain ⟨o, es, ep, e1, e2, e3, e4, _, _⟩ := hm'
  refine I.write (x := d) (e := d) (by rw [hd]; trivial) (.inl rfl) (fun b u hb e => (hsb.2 b hb).trans e) ⟨o, e1⟩ ?_
  refine ⟨⟨_, put_ent hp, o, es, ep, e1, e2, e3, e4⟩, ⟨o, e1⟩, fun h1 h2 ⟨zs, z1, o', es', ep', z2, z3⟩ k => ⟨zs, z1, o', es', ep', k _ z2, z3⟩⟩
/-! ### expressions -/
variable {o e f a b' : Expr} {apos pos p1 p3 : Pos} {kd : PyData} {j : Int}
theorem noD {h : Heap} {P : Program} {w : World} {ys : List (NestedKey × Addr × Value)} (hm : h.DictOfH (nestedKind P w) d ys) : ∀ b, Value.ref d = .ref b → ∃ ob, h.get? b = some ob ∧ ob.dict = none := fun b e => by
  cases e
  obtain ⟨o, _, _, e1, e2, _⟩ := hm
  exact ⟨o, e1, e2.2.1⟩
/-- x.get(k, j), x in a slot -/
theorem ee_dget {x : Str} {ks : List PyData} (hu : X.A.units + 200 < cLine) (i : Nat) (hσ : σ[i]? = some (some (.ref d))) (D : DD X H d xs) (he : EE X σ H e (.tuple ks)) (ok : okKey (.tuple ks) = true) (hf : EE X σ H f (.int j)) (hN : X.N[i]? = some x := by rfl) (hv : Vis X.env.scope x := by first | exact Or.inl rfl | exact Or.inr (Or.inl rfl) | exact Or.inr (Or.inr rfl))
    (hd1 : (x == ("__debug__" : Str)) = false := by decide) (hd2 : (x == ("__classdict__" : Str)) = false := by decide) (m : M2 X (.Name x p1) "get" apos e f pos := by exact ⟨rfl, rfl, rfl, rfl⟩) :
    EE X σ H (.Call (.Attribute (.Name x p1) "get" apos) [e, f] [] pos) (.int ((entAt xs (.tuple ks)).getD j)) := fun H1 s1 => .mk fun pins s I => by
  refine wpAny_Call_method m.base m.few m.line PySem.F.plainAttrs_dict PySem.F.slot_dict_get PySem.F.type_dict_get (thn ((pe_var hN hv hd1 hd2).run pins s σ H1 (fun v H2 => v = .ref d ∧ H2 = H1) I ⟨.ref d, hσ, rfl, rfl⟩) fun u s1' ⟨x, H2, I2, rx, ex, eh⟩ => ?_)
  subst ex eh
  obtain rfl : u = Value.ref d := rx
  obtain ⟨ys, hp, hm⟩ := (D.same s1).of I2
  refine ⟨hm.typeIs, noD hm, ?_⟩
  rw [m.trees]
  refine Calls.callWith_builtin rfl (Calls.evalArgs_plain (Calls.spliced_cons (thn (he H2 s1 pins s1' I2) fun iv s2 ⟨y, H3, I3, ry, s3, dy⟩ =>
    Calls.spliced_cons (thn (hf H3 (s1.trans s3) pins s2 I3) fun fv s3' ⟨z, H4, I4, rz, s4, dz⟩ => Calls.spliced_nil ?_))))
  obtain ⟨ka, kx, rfl, _, _⟩ := dp_tup dy
  have hz := dp_int dz
  subst hz
  exact mt_dget hu pins s3' σ H4 (.ref d) [.ref ka, .int j] (.ref d) [iv, fv] _ I4 rfl (.cons ry (.cons rz .nil)) ⟨d, xs, .tuple ks, j, ka, rfl, rfl, D.same (s1.trans (s3.trans s4)), dy.same s4, ok, s3.trans s4, .int _⟩
/-- {} -/
theorem we_dnew {Q : VK} (k : ∀ d, H d = none → (d == sysModules) = false → Q (.ref d) (upd H d (.ext (dPhi X.prog X.w d [])))) : WE X (.Dict [] [] pos) σ H Q := .mk fun pins s I => by
  refine wpAny_Dict_empty ⟨.ref s.heap.objs.size, _, I.laid (a := s.heap.objs.size) (o := .ext (dPhi X.prog X.w s.heap.objs.size [])) (t' := s.toks) (fun _ _ q => Heap.get?_push_of_some _ q) (Nat.le_refl _) ?_, rfl, k _ (I.hok.fresh (Nat.le_refl _)) (beq_eq_false_iff_ne.mpr (Nat.ne_of_gt I.big))⟩
  obtain ⟨o, es, ep, e1, e2, e3, e4, _, _⟩ := Heap.DictOfH.new (knd := nestedKind X.prog X.w) s.heap
  exact ⟨⟨[], .nil, o, es, ep, e1, e2, e3, e4⟩, ⟨o, e1⟩, fun h1 h2 ⟨zs, z1, o', es', ep', z2, z3⟩ k => ⟨zs, z1, o', es', ep', k _ z2, z3⟩⟩
/-- x[k] -/
theorem ee_dix {x : Str} {ks : List PyData} (hu : X.A.units + 200 < cLine) (i : Nat) (hσ : σ[i]? = some (some (.ref d))) (D : DD X H d xs) (he : EE X σ H e (.tuple ks)) (ok : okKey (.tuple ks) = true) (hj : entAt xs (.tuple ks) = some j) (hN : X.N[i]? = some x := by rfl) (hv : Vis X.env.scope x := by first | exact Or.inl rfl | exact Or.inr (Or.inl rfl) | exact Or.inr (Or.inr rfl))
    (hd1 : (x == ("__debug__" : Str)) = false := by decide) (hd2 : (x == ("__classdict__" : Str)) = false := by decide) (hs : NoSl e := by exact fun _ _ => rfl) :
    EE X σ H (.Subscript (.Name x p1) e pos) (.int j) := fun H1 s1 => .mk fun pins s I => by
  refine subD_of PySem.F.slot_dict_getitem.lookup hs (thn ((pe_var hN hv hd1 hd2).run pins s σ H1 (fun v H2 => v = .ref d ∧ H2 = H1) I ⟨.ref d, hσ, rfl, rfl⟩) fun u s1' ⟨x, H2, I2, rx, ex, eh⟩ => ?_)
  subst ex eh
  obtain rfl : u = Value.ref d := rx
  refine thn (he H2 s1 pins s1' I2) fun iv s2 ⟨y, H3, I3, ry, s3, dy⟩ => ?_
  obtain ⟨ka, kx, rfl, _, _⟩ := dp_tup dy
  obtain rfl : iv = Value.ref ka := ry
  have D3 := D.same (s1.trans s3)
  obtain ⟨ys, hp, hm⟩ := D3.of I3
  exact ⟨hm.typeIs, dix_raw hu I3 D3 dy ok hj fun t tk => ⟨.int j, H3, I3.tok _, ⟨t, rfl⟩, s3, .int _⟩⟩
variable {rest : List Stmt} {Dn : Ends}
/-- x[k] = e -/
theorem wss_dput {x : Str} {ks : List PyData} (hu : X.A.units + 200 < cLine) (i : Nat) (hσ : σ[i]? = some (some (.ref d))) (hd : H d = some (.ext (dPhi X.prog X.w d xs))) (D : DDk X.K H xs) (hsy : (d == sysModules) = false) (hl : xs.length ≤ 100000) (hv : EE X σ H e (.int j)) (hk : EE X σ H a (.tuple ks)) (ok : okKey (.tuple ks) = true)
    (k : ∀ ka H1, Same H H1 → Dp X.K H1 (.ref ka) (.tuple ks) → WSs X rest Dn σ (upd H1 d (.ext (dPhi X.prog X.w d (entPut xs (.tuple ks) ka j)))))
    (hN : X.N[i]? = some x := by rfl) (hvx : Vis X.env.scope x := by first | exact Or.inl rfl | exact Or.inr (Or.inl rfl) | exact Or.inr (Or.inr rfl)) (hd1 : (x == ("__debug__" : Str)) = false := by decide) (hd2 : (x == ("__classdict__" : Str)) = false := by decide) (hs : swapsWith e (some (.Subscript (.Name x p1) a p3)) pos.line X.env = pure false := by rfl) :
    WSs X (.Assign [.Subscript (.Name x p1) a p3] e pos :: rest) Dn σ H := by
  refine wss_cons (.mk fun pins s I => ?_)
  refine wpAny_Assign_Subscript (thn (hv H (Same.refl H) pins s I) fun r s1 ⟨v, H1, I1, rv, s01, dv⟩ => thn ((pe_var hN hvx hd1 hd2).run pins s1 σ H1 (fun v H2 => v = .ref d ∧ H2 = H1) I1 ⟨.ref d, hσ, rfl, rfl⟩) fun u s2 ⟨y, H2, I2, ry, ey, eh⟩ => ?_) hs
  subst ey eh
  obtain rfl : u = Value.ref d := ry
  refine thn (hk H2 s01 pins s2 I2) fun iv s3 ⟨z, H3, I3, rz, s13, dz⟩ => ?_
  obtain ⟨ka, kx, rfl, _, _⟩ := dp_tup dz
  obtain rfl : iv = Value.ref ka := rz
  have hj := dp_int dv
  subst hj
  obtain ⟨t, rfl⟩ := rv
  have s03 := s01.trans s13
  exact dset_raw hu I3 (s03 _ _ hd) (D.same s03) hsy dz ok hl fun h' tk _ I4 => ⟨σ, _, I4, k ka H3 s03 dz⟩
end
end K10
set_option maxHeartbeats 4000000
/-! Dicts walked. -/
namespace K10
open PySem PySem.Spec PyProof.Rows L2 SX
section
variable {X : Cx} {pins : List (Addr × Obj)} {σ : L2.St} {H H' : Hp} {s : Shared} {d : Addr} {xs : List Ent} {o : Obj}
/-- the dict is known to the object -/
structure DZ (X : Cx) (H : Hp) (d : Addr) (o : Obj) (xs : List Ent) : Prop extends DDk X.K H xs where
  at' : H d = some (.frz o (.ext (dPhi X.prog X.w d xs)))
  nosys : (d == sysModules) = false
theorem DZ.dd (h : DZ X H d o xs) : DD X H d xs := ⟨h.toDDk, .inr ⟨o, h.at'⟩, h.nosys⟩
theorem DZ.same (h : DZ X H d o xs) (e : Same H H') : DZ X H' d o xs := ⟨h.toDDk.same e, e _ _ h.at', h.nosys⟩
theorem frz_ext {P : Program} {w : World} (hP : X.prog = P) (hw : X.w = w) (I : Inv X pins σ H s) (h : H d = some (.frz o (.ext (dPhi P w d xs)))) : s.heap.get? d = some o ∧ o.ExactDict ∧ ∃ (es : Array DictEntry) (ep : Nat), o.data = .dict es ep ∧ es.size = xs.length ∧
    ∀ (i : Nat) (x : Ent), xs[i]? = some x → ∃ en : DictEntry, es[i]? = some en ∧ en.key = .ref x.2.1 := by
  obtain ⟨e0, ⟨ys, hp, o', es, ep, e1, e2, e3, e4⟩, _, _⟩ := I.hok d _ h
  rw [e0] at e1
  cases e1
  have hl := Paired.length hp
  have hsz : es.size = ys.length := by rw [← Array.length_toList, e4, List.length_map]
  refine ⟨e0, e2, es, ep, e3, by omega, fun i x hx => ?_⟩
  have : ∃ y, ys[i]? = some y ∧ entR x y := paired_get hp hx
  obtain ⟨y, hy, r1, r2, _⟩ := this
  refine ⟨entryOfKey (nestedKind P w) y, ?_, by show Value.ref y.2.1 = _; rw [r2]⟩
  rw [← Array.getElem?_toList, e4, List.getElem?_map, hy]
  rfl
def ItD (P : Program) (w : World) (d : Addr) (o : Obj) (xs : List Ent) : It :=
  ⟨fun i H => H d = some (.frz o (.ext (dPhi P w d xs))) ∧ i < xs.length, fun i H x H' => H' = H ∧ ∃ e, xs[i]? = some e ∧ x = .ref e.2.1, fun i H => H d = some (.frz o (.ext (dPhi P w d xs))) ∧ xs.length ≤ i⟩
theorem dict_epq {es es' : Array DictEntry} {ep ep' : Nat} (a : o.data = .dict es ep) (b : o.data = .dict es' ep') : es = es' ∧ ep = ep' := by
  rw [a] at b
  injection b with b1 b2
  exact ⟨b1, b2⟩
theorem turn_D {P : Program} {w : World} {K : PySem.W.Frag} {tg : Expr} {es : Array DictEntry} {ep : Nat} (it : Addr) (hod : o.data = .dict es ep) : Turn P w K tg (ItD P w d o xs) [it] it (fun i h => h.IsKeyIter it d i xs.length ep) where
  mem := by simp
  obj := fun i h st b hb => by
    have e : b = it := by simpa using hb
    subst e
    obtain ⟨oi, e, c, dd⟩ := st
    exact ⟨oi, e, fun v z => by rw [dd] at z; cases z⟩
  keep := fun i h h' st k => st.at fun oi e => k it (by simp) oi e
  item := by
    intro X hP hw hK hc i pins s σ H E I hf st hg
    obtain ⟨hd, hi⟩ := hg
    obtain ⟨f0, f1, f2, f3, f4, f5⟩ := hf it (by simp)
    obtain ⟨hgd, hx, es', ep', hdt, hsz, ent⟩ := frz_ext hP hw I hd
    obtain ⟨rfl, rfl⟩ := dict_epq hod hdt
    have hxi : xs[i]? = some xs[i] := List.getElem?_eq_getElem hi
    obtain ⟨en, hen, hkey⟩ := ent i _ hxi
    refine next_key_item st hgd hdt hsz hen fun h' st' sb => ?_
    have I1 : Inv X pins σ H { s with heap := h' } := I.turned (t' := s.toks) (fun b ob hb e => (sb.2 b hb).trans e) f0 f1 f3 f4 f5
    obtain ⟨oi, e, c, dd⟩ := id st'
    exact ⟨en.key, rfl, go_of (s := { s with heap := h' }) e c dd (by decide) ⟨.ref xs[i].2.1, H, I1, hkey, ⟨rfl, _, hxi, rfl⟩, st', fun b hb => (hf b hb).1⟩⟩
  done := by
    intro X hP hw hK hc i pins s σ H E I hf st hg
    obtain ⟨hd, hi⟩ := hg
    obtain ⟨f0, f1, f2, f3, f4, f5⟩ := hf it (by simp)
    obtain ⟨hgd, hx, es', ep', hdt, hsz, ent⟩ := frz_ext hP hw I hd
    obtain ⟨rfl, rfl⟩ := dict_epq hod hdt
    exact next_key_end (I.ok.hd hc) st hgd hdt hsz hi fun h' eb => ⟨rfl, I.turned (t' := s.toks) (fun b ob hb e => eb b ob hb e) f0 f1 f3 f4 f5⟩
  self := fun A i s Q E st h => by
    refine wpAny_pyIter_slot st.typeIs F.slot_dict_keyiterator_iter (wpAny_call_entry F.slot_dict_keyiterator_iter st.typeIs F.entry_dict_keyiterator_iter ?_ (F.args_dict_keyiterator_iter_1 _))
    show wpAny _ _ (ret (.ref it)) _ _ s
    exact wpAny_pure ⟨_, rfl, "dict_keyiterator", _, st.typeIs, F.slot_dict_keyiterator_next.lookup, h⟩
/-- for .. in x, x in a slot -/
theorem srv_dict {tg : Expr} {x : Str} {pos : Pos} (i : Nat) (hσ : σ[i]? = some (some (.ref d))) (D : DZ X H d o xs) (hN : X.N[i]? = some x := by rfl) (hv : Vis X.env.scope x := by first | exact Or.inl rfl | exact Or.inr (Or.inl rfl) | exact Or.inr (Or.inr rfl))
    (hd1 : (x == ("__debug__" : Str)) = false := by decide) (hd2 : (x == ("__classdict__" : Str)) = false := by decide) : SRV X σ H tg (.Name x pos) (xs.map (·.1)) := by
  refine ⟨fun σ' H1 R => σ'[i]? = some (some (.ref d)) ∧ H1 d = some (.frz o (.ext (dPhi X.prog X.w d xs))) ∧ R (ItD X.prog X.w d o xs) H1, ⟨fun pins s σ' H1 R I ⟨h1, h2, h3⟩ => ?_⟩, fun H1 s1 R k => ⟨hσ, s1 _ _ D.at', k _ H1 (fun H => H d = some (.frz o (.ext (dPhi X.prog X.w d xs)))) (fun i H x H' => H' = H ∧ ∃ e, xs[i]? = some e ∧ x = .ref e.2.1) (Same.refl H1) ?_ (fun H3 s3 => s3 _ _ D.at') fun j H3 y H4 hj s3 ⟨e1, e, e2, e3⟩ => ?_⟩⟩
  · refine thn ((pe_var hN hv hd1 hd2).run pins s σ' H1 (fun v H2 => v = .ref d ∧ H2 = H1) I ⟨.ref d, h1, rfl, rfl⟩) fun u s1 ⟨y, H2, I2, ry, ey, eh⟩ => ?_
    subst ey eh
    obtain rfl : u = Value.ref d := ry
    obtain ⟨hgd, hx, es, ep, hdt, hsz, ent⟩ := frz_ext rfl rfl I2 h2
    refine iter_keys D.nosys hgd hx hdt (pi_one (tk := s1.toks) I2 _ (turn_D _ hdt) ⟨_, Heap.get?_push_size _ rfl, rfl, ?_⟩ h3)
    rw [hsz] <;> rfl
  · rw [List.length_map]
    exact ⟨fun _ _ hi q => ⟨q, hi⟩, fun _ q => ⟨q, Nat.le_refl _⟩, fun _ _ _ _ _ _ y => y⟩
  · subst e1 e3
    exact ⟨Same.refl _, e.1, by rw [List.getElem?_map, e2]; rfl, (D.key e (List.mem_of_getElem? e2)).1.same s3⟩
theorem wss_freeze {sts : List Stmt} {Dn : Ends} {u : HO} (h : H d = some u) (mu : Mut (some u)) (k : ∀ od, WSs X sts Dn σ (upd H d (.frz od u))) : WSs X sts Dn σ H := .mk fun pins s I => by
  obtain ⟨od, J⟩ := I.lock h mu
  exact k od pins s J
end
end K10
set_option maxHeartbeats 4000000
/-! surely_there, needs_told, first_state. -/
namespace K10
open PySem PySem.Spec PyProof.Rows L2 SX
open C8 (Cal pe_c)
/-- lcr_map, the answer's list told by an equation: for blocks in blocks -/
theorem lcr_mapE {X : Cx} {σ : L2.St} {H : Hp} {iter elt : Expr} {scope : Scope} {α : Type} {as : List α} {enc : α → PyData} {x : Str} {px : Pos} {ls : List PyData} (j : Nat) (hs : SRC X σ H (.Name x px) iter (as.map enc)) (hN : X.N.Nodup)
    (F : α → PyData) (hF : ∀ d ∈ as, imm (F d) = true) (h : ∀ d ∈ as, ∀ v H', Same H H' → Dp X.K H' v (enc d) → EB X scope ((wipe σ [j]).set j (some v)) H' elt (F d)) (hz : as.length ≤ 100000) (e : as.map F = ls)
    (ok : BlkOk X.N X.env.scope scope [(x, j)] := by exact blkOk_by rfl) (hg : ∀ (s : Shared) (H : Hp) (C : Addr) (cl : List (Str × Addr)) (fp : List Addr), PG (X.blk s H scope (compEnvC scope cl C X.env) fp) (.Name x px) (gName j) := by exact fun _ _ _ _ _ => pg_name (by assumption) rfl (.inl rfl)) :
    LcR X σ H elt (.Name x px) iter [] scope ls := e ▸ lcr_map j hs hN F hF h hz ok hg
/-- places, a number -/
abbrev prD (x : List Nat × Nat) : PyData := .tuple [nD x.1, iN x.2]
def partB (a b : List Nat) : Bool := a.all fun p => decide (p ∈ b)
def meetB (a b : List Nat) : Bool := a.any fun p => decide (p ∈ b)
def aptW (x : List Nat × Nat) (ns : List (List Nat × Nat)) : List (List Nat × Nat) := ns.filter fun y => !meetB y.1 x.1
def sur : Nat → List Nat → List (List Nat × Nat) → Nat
  | 0, _, _ => 0
  | m + 1, lot, ns => ((List.range ns.length).map fun i => if partB ((ns[i]?.getD ([], 0)).1) lot then (ns[i]?.getD ([], 0)).2 + sur m lot (aptW (ns[i]?.getD ([], 0)) (ns.drop (i + 1))) else 0).foldl max 0
section
variable {P : Program} {w : World} {K : PySem.W.Frag} {mg : Str → Option Value} {base : Heap}
def P_sur (m : Nat) : List PyData → PyData → Prop := fun ds r => ∃ (lot : List Nat) (ns : List (List Nat × Nat)), ds = [nD lot, .list (ns.map prD)] ∧ lot.length ≤ 100 ∧ ns.length ≤ m ∧ m ≤ 100 ∧ (∀ x ∈ ns, x.1.length ≤ 100) ∧ r = iN (sur m lot ns)
theorem max_nat (a b : Nat) : (if (b : Int) > (a : Int) then (b : Int) else (a : Int)) = ((max a b : Nat) : Int) := by
  by_cases h : b ≤ a
  · rw [if_neg (by omega), Nat.max_eq_left h]
  · rw [if_pos (by omega), Nat.max_eq_right (by omega)]
theorem imm_prD (x : List Nat × Nat) : imm (prD x) = true := by
  have : imm (nD x.1) = true := immAll_iff.mpr fun d hd => by obtain ⟨l, _, rfl⟩ := List.mem_map.mp hd; rfl
  simp [imm, immAll] at this ⊢
  exact this
theorem fn_sur (V : Ev mg) {f : Addr} {fd : FuncData} (F : FunD K "surely_there" "surely_there" (defArgs s_surely_there) (defBody s_surely_there) (defScope s_surely_there) [] [] f fd) (g : mg "surely_there" = some (.ref f)) (Cp : Cal P w K mg base 1 "is_part" (spF K P_is_part) []) : ∀ m, FnOk P w K mg base CX0 (m + 2) f fd p_surely_there (spF K (P_sur m)) := by
  intro m
  refine fn_data F sc_surely_there (fun ds r ⟨_, _, h, _⟩ => by rw [h]; rfl) fun cdv A outer s H H0 vs ds r D E hr hv hP hk _ => ?_
  obtain ⟨lot, ns, rfl, hll, hnm, hm, hx, rfl⟩ := hP
  obtain ⟨v0, v1, rfl, d0, d1⟩ := dpAll_2 hv
  have hN := sc_surely_there.nd
  refine wss_set 2 hN (ee_int (i := 0)) fun v2 H1 s1 d2 => ?_
  have e1 := d1.same s1
  refine wss_forC (g := gTup K 2 (gCons (gName 3) (gCons (gTup K 2 (gCons (gName 4) (gCons (gName 5) gNil))) gNil))) PassesOwn.never (src_enum (ee_var 1 rfl e1) V.enum) (pg_tup rfl (pgs_cons (pgn 3 hN) (pgs_cons (pg2 4 5 hN) pgs_nil))) fun H2 s2 => ?_
  let tm : Nat → Nat := fun i => match m with | 0 => 0 | m' + 1 => if partB ((ns[i]?.getD ([], 0)).1) lot then (ns[i]?.getD ([], 0)).2 + sur m' lot (aptW (ns[i]?.getD ([], 0)) (ns.drop (i + 1))) else 0
  have hsur : ns ≠ [] → sur m lot ns = ((List.range ns.length).map tm).foldl max 0 := fun hne => by
    cases m with
    | zero => exact absurd (List.eq_nil_of_length_eq_zero (by omega)) hne
    | succ m' => rfl
  refine ⟨fun i σ' H' => Same H2 H' ∧ ∃ (x3 x4 x5 x6 : Option L2.V), σ' = [some v0, some v1, some (.int ((((List.range i).map tm).foldl max 0 : Nat) : Int)), x3, x4, x5, x6, none, none], ⟨Same.refl H2, none, none, none, none, by rw [dp_int d2]; rfl⟩, fun i σ' H' p => p.1, ?_, ?_⟩
  · rintro i d x σ' H' H'' hd ⟨s3, x3, x4, x5, x6, rfl⟩ s4 dx
    have hi : i < ns.length := by
      have := (List.getElem?_eq_some_iff.mp hd).1
      rw [enumD_len, List.length_map] at this
      exact this
    have hni : ns[i]? = some ns[i] := List.getElem?_eq_getElem hi
    have hed : (enumD (ns.map prD))[i]? = some (.tuple [iN i, prD ns[i]]) := enumD_get (by rw [List.getElem?_map, hni]; rfl)
    rw [hed] at hd
    cases hd
    have hxi := hx _ (List.getElem_mem hi)
    obtain ⟨m', rfl⟩ : ∃ m', m = m' + 1 := ⟨m - 1, by omega⟩
    have s14 := s1.trans (s2.trans (s3.trans s4))
    obtain ⟨qa, qx, rfl, hqs, hqa⟩ := dp_tup dx
    obtain ⟨w1, w2, rfl, dw1, dw2⟩ := dpAll_2 hqa
    refine ⟨qa, _, rfl, hqs, rfl, w1, _, rfl, w2, _, rfl, ?_⟩
    refine g2 dw2 fun w4 w5 e4 e5 => ⟨rfl, ?_⟩
    have htm : ((List.range (i + 1)).map tm).foldl max 0 = max (((List.range i).map tm).foldl max 0) (tm i) := by
      rw [List.range_succ, List.map_append, List.foldl_append]
      rfl
    have htmi : tm i = if partB ns[i].1 lot then ns[i].2 + sur m' lot (aptW ns[i] (ns.drop (i + 1))) else 0 := by
      show (if partB ((ns[i]?.getD ([], 0)).1) lot then (ns[i]?.getD ([], 0)).2 + sur m' lot (aptW (ns[i]?.getD ([], 0)) (ns.drop (i + 1))) else 0) = _
      rw [hni]
      rfl
    refine wss_if (b := partB ns[i].1 lot) (et_val (ee_call Cp hr (ea_cons (ee_var 4 rfl e4) (ea_1 (ee_var 0 rfl (d0.same s14)))) ⟨ns[i].1, lot, rfl, by omega, rfl⟩ (by omega))) (fun hb H5 s5 => ?_) fun hb H5 s5 => ?_
    · have s15 := s14.trans s5
      refine wss_setLc 6 hN (lcr_filt (as := ns.drop (i + 1)) (enc := prD) 7 (src_lst (EE.is (EN.ee (en_dropL (ee_var 1 rfl (d1.same s15)) (ee_succ (ee_var 3 rfl (dw1.same s5))))) (by rw [List.map_drop]))) hN (fun y => !meetB y.1 ns[i].1) prD (fun y _ _ => imm_prD y)
        (fun y hy x' H6 s6 dx' s0 H0' C cl fp => et_not (et_val (EE.is (ee_any (bs := y.1.map fun p => decide (p ∈ ns[i].1)) (EN.ee (en_lc hN (lcr_mapE 8 (src_tup (ee_ixT (j := 0) (d := nD y.1) (ee_var 7 rfl dx') ee_int rfl)) hN (fun p => .bool (decide (p ∈ ns[i].1))) (fun _ _ => rfl) (fun p hp x'' H7 s7 dx'' s0' H0'' C' cl' fp' => ?_) (by have := hx y (List.mem_of_mem_drop hy); omega) (by rw [List.map_map]; rfl)))) V.any) (by simp [meetB, List.any_map, Function.comp_def]))))
        (fun y hy _ x' H6 s6 dx' s0 H0' C cl fp => ee_var 7 rfl dx') (by rw [List.length_drop]; omega)) fun p ys H6 s6 hp hy hys => ?_
      · refine EE.is (ee_inI (i := (p : Nat)) (ns := ns[i].1.map fun (k : Nat) => (k : Int)) (ee_var 8 rfl dx'') (ee_var 4 rfl (e4.same (s5.trans (s6.trans s7)))) (.inl (nD_ints _))) ?_
        congr 1
        rw [Bool.eq_iff_iff, decide_eq_true_eq, decide_eq_true_eq, mem_natCast]
      · have C1 : Cal P w K mg base (m' + 2) "surely_there" (spF K (P_sur m')) [] := ⟨f, fd, _, [], fn_sur V F g Cp m', g, F.kp, F.bindsN (fun _ _ _ _ _ _ us hl => match us, hl with | [_, _], _ => rfl), .nil⟩
        have s16 := s15.trans s6
        have s56 := s5.trans s6
        have dl : Dp K H6 (.ref p) (.list ((aptW ns[i] (ns.drop (i + 1))).map prD)) := .lst (.of hy) hys
        have hal : (aptW ns[i] (ns.drop (i + 1))).length ≤ m' := by
          have h1 := List.length_filter_le (fun y : List Nat × Nat => !meetB y.1 ns[i].1) (ns.drop (i + 1))
          rw [List.length_drop] at h1
          show (List.filter _ _).length ≤ _
          omega
        refine wss_set 2 hN (EE.is (ee_max2 (j := ((ns[i].2 + sur m' lot (aptW ns[i] (ns.drop (i + 1))) : Nat) : Int)) (ee_var 2 rfl (.int _)) (EE.is (ee_add (ee_var 5 rfl (e5.same s56)) (ee_call C1 hr (ea_cons (ee_var 0 rfl (d0.same s16)) (ea_1 (ee_var 6 rfl dl))) ⟨lot, _, rfl, hll, hal, by omega, fun y hy => hx y (List.mem_of_mem_drop ((List.mem_filter.mp hy).1)), rfl⟩ (Nat.le_refl _))) (by rw [Int.natCast_add])) V.max) (by rw [max_nat])) fun v7 H7 s7 d7 => wss_nil (wss_nil ⟨s3.trans (s4.trans (s56.trans s7)), some w1, some w4, some w5, some (.ref p), ?_⟩)
        rw [dp_int d7, htm, htmi, if_pos hb]
        rfl
    · refine wss_nil (wss_nil ⟨s3.trans (s4.trans s5), some w1, some w4, some w5, x6, ?_⟩)
      rw [htm, htmi, if_neg (by rw [hb]; exact Bool.false_ne_true), Nat.max_zero]
      rfl
  · rintro σ' H' ⟨s3, x3, x4, x5, x6, rfl⟩
    rw [enumD_len, List.length_map]
    have e : sur m lot ns = ((List.range ns.length).map tm).foldl max 0 := by
      cases ns with
      | nil => cases m <;> rfl
      | cons y r => exact hsur (by simp)
    rw [← e]
    exact wss_ret (ee_var 2 rfl (.int _)) fun v' H4 s4 d' => hk v' H4 (s1.trans (s2.trans (s3.trans s4))) d'
end
end K10
set_option maxHeartbeats 4000000
/-! needs_told. -/
namespace K10
open PySem PySem.Spec PyProof.Rows L2 SX
open C8 (Cal pe_c)
/-- a lot, a kind -/
abbrev gkD (x : List Nat × Nat) : PyData := .tuple [nD x.1, tx [x.2]]
theorem nkAll_map : ∀ ds : List PyData, nkAll ds = ds.map nk
  | [] => rfl
  | d :: ds => by rw [nkAll, nkAll_map ds, List.map_cons]
theorem nk_iN : ∀ {a b : List Nat}, (a.map iN).map nk = (b.map iN).map nk → a = b
  | [], [], _ => rfl
  | [], _ :: _, h => by simp at h
  | _ :: _, [], h => by simp at h
  | x :: a, y :: b, h => by
    simp only [List.map_cons, List.cons.injEq] at h
    have h1 : (x : Int) = (y : Int) := by
      have := h.1
      simp only [nk, NestedKey.num.injEq] at this
      exact this
    rw [nk_iN h.2, show x = y by omega]
theorem nk_gk {x y : List Nat × Nat} (h : nk (gkD x) = nk (gkD y)) : x = y := by
  simp only [nk, nkAll, NestedKey.tup.injEq, List.cons.injEq, NestedKey.text.injEq] at h
  obtain ⟨h1, h2, _⟩ := h
  rw [nkAll_map, nkAll_map] at h1
  have e1 := nk_iN h1
  have e2 := S_inj h2
  obtain ⟨a, b⟩ := x
  obtain ⟨c, d⟩ := y
  simp only at e1 e2
  rw [e1]
  simp at e2
  rw [e2]
theorem keyAll_iN : ∀ a : List Nat, keyAll (a.map iN) = true
  | [] => rfl
  | x :: a => by rw [List.map_cons, keyAll, keyAll_iN a]; rfl
theorem depthAll_iN : ∀ a : List Nat, NestedKey.depthAll (nkAll (a.map iN)) = 0
  | [] => rfl
  | x :: a => by rw [List.map_cons, nkAll, NestedKey.depthAll, depthAll_iN a]; rfl
theorem ok_gk (x : List Nat × Nat) : okKey (gkD x) = true := by
  have h1 := keyAll_iN x.1
  have h2 := depthAll_iN x.1
  simp [okKey, keyB, keyAll, h1, nk, nkAll, NestedKey.depth, NestedKey.depthAll, h2]
/-- the greatest number for each lot and kind -/
abbrev Grt := List ((List Nat × Nat) × Nat)
def grtAt (gs : Grt) (k : List Nat × Nat) : Option Nat := (gs.find? fun g => decide (g.1 = k)).map (·.2)
def grtPut (gs : Grt) (k : List Nat × Nat) (n : Nat) : Grt := if (grtAt gs k).isSome then gs.map fun g => if g.1 = k then (g.1, n) else g else gs ++ [(k, n)]
def grtStep (gs : Grt) (x : List Nat × Nat × Nat) : Grt := grtPut gs (x.1, x.2.1) (max x.2.2 ((grtAt gs (x.1, x.2.1)).getD 0))
def grtAll (needs : List (List Nat × Nat × Nat)) : Grt := needs.foldl grtStep []
def othW (gs : Grt) (k : List Nat × Nat) : List (List Nat × Nat) := (gs.filter fun g => decide (g.1.2 = k.2) && !decide (g.1.1 = k.1)).map fun g => (g.1.1, g.2)
def toldOne (gs : Grt) (g : (List Nat × Nat) × Nat) : Bool := decide (sur 10 g.1.1 (othW gs g.1) < g.2)
def toldN (gs : Grt) : List (List Nat × Nat × Nat) := (gs.filter (toldOne gs)).map fun g => (g.1.1, g.1.2, g.2)
/-- the entries tell these -/
def Gx (xs : List Ent) (gs : Grt) : Prop := Paired (fun (e : Ent) (g : (List Nat × Nat) × Nat) => e.1 = gkD g.1 ∧ e.2.2 = (g.2 : Int)) xs gs
theorem gx_at {xs : List Ent} {gs : Grt} (h : Gx xs gs) (k : List Nat × Nat) : entAt xs (gkD k) = (grtAt gs k).map fun (n : Nat) => (n : Int) := by
  induction h with
  | nil => rfl
  | @cons e g xs gs r _ ih =>
    obtain ⟨r1, r2⟩ := r
    unfold entAt grtAt at *
    rw [List.find?_cons, List.find?_cons, r1]
    by_cases hk : g.1 = k
    · rw [hk]
      simp [r2]
    · have : ¬ nk (gkD g.1) = nk (gkD k) := fun e => hk (nk_gk e)
      simp only [this, hk, decide_false]
      exact ih
theorem gx_put {xs : List Ent} {gs : Grt} (h : Gx xs gs) (k : List Nat × Nat) (a : Addr) (n : Nat) : Gx (entPut xs (gkD k) a (n : Int)) (grtPut gs k n) := by
  have e := gx_at h k
  unfold entPut grtPut
  cases q : grtAt gs k with
  | none =>
    rw [q] at e
    simp only [e, Option.map_none, Option.isSome_none, Bool.false_eq_true, if_false]
    exact paired_app ⟨rfl, rfl⟩ h
  | some m =>
    rw [q] at e
    simp only [e, Option.map_some, Option.isSome_some, if_true]
    clear e q
    unfold Gx at h ⊢
    induction h with
    | nil => exact .nil
    | @cons e g xs gs r _ ih =>
      rw [List.map_cons, List.map_cons]
      refine .cons ?_ ih
      obtain ⟨r1, r2⟩ := r
      by_cases hk : g.1 = k
      · rw [if_pos hk, if_pos (by rw [r1, hk])]
        exact ⟨r1, rfl⟩
      · rw [if_neg hk, if_neg (fun e => hk (nk_gk (by rw [← r1]; exact e)))]
        exact ⟨r1, r2⟩
theorem gx_keys {xs : List Ent} {gs : Grt} (h : Gx xs gs) : xs.map (·.1) = gs.map fun g => gkD g.1 := by
  induction h with
  | nil => rfl
  | cons r _ ih => rw [List.map_cons, List.map_cons, r.1, ih]
theorem grtPut_len (gs : Grt) (k : List Nat × Nat) (n : Nat) : (grtPut gs k n).length ≤ gs.length + 1 := by
  unfold grtPut
  split <;> simp
theorem grtAll_len : ∀ (needs : List (List Nat × Nat × Nat)) (gs : Grt), (needs.foldl grtStep gs).length ≤ gs.length + needs.length
  | [], gs => by simp
  | x :: r, gs => by
    have h1 := grtAll_len r (grtStep gs x)
    have h2 : (grtStep gs x).length ≤ gs.length + 1 := grtPut_len _ _ _
    rw [List.foldl_cons, List.length_cons]
    omega
section
variable {P : Program} {w : World} {K : PySem.W.Frag} {mg : Str → Option Value} {base : Heap}
def needOk (x : List Nat × Nat × Nat) : Prop := x.1.length ≤ 100
def P_told : List PyData → PyData → Prop := fun ds r => ∃ needs : List (List Nat × Nat × Nat), ds = [.tuple (needs.map needD)] ∧ needs.length ≤ 10 ∧ (∀ x ∈ needs, needOk x) ∧ r = .tuple (sortD ((toldN (grtAll needs)).map needD))
theorem imm_need (x : List Nat × Nat × Nat) : imm (needD x) = true := by
  have : imm (nD x.1) = true := immAll_iff.mpr fun d hd => by obtain ⟨l, _, rfl⟩ := List.mem_map.mp hd; rfl
  simp [imm, immAll] at this ⊢
  exact this
theorem immAll_need (l : List (List Nat × Nat × Nat)) : immAll (l.map needD) = true := immAll_iff.mpr fun d hd => by obtain ⟨x, _, rfl⟩ := List.mem_map.mp hd; exact imm_need x
theorem eqv_nD : ∀ a b : List Nat, PyData.eqvAll (a.map iN) (b.map iN) = decide (a = b)
  | [], [] => by simp [PyData.eqvAll]
  | [], _ :: _ => by simp [PyData.eqvAll]
  | _ :: _, [] => by simp [PyData.eqvAll]
  | x :: a, y :: b => by
    rw [List.map_cons, List.map_cons, PyData.eqvAll, eqv_nD a b, Bool.eq_iff_iff]
    simp [PyData.eqv]
    intro _
    omega
theorem canLay_nD : ∀ a : List Nat, PyData.canLayAll0 (a.map iN) = true
  | [] => rfl
  | x :: a => by rw [List.map_cons, PyData.canLayAll0, canLay_nD a]; rfl
theorem shaped_nD (a : List Nat) : SeqAt.shaped (nD a) = true := by
  have h1 := canLay_nD a
  have h2 := depthAll_nD a
  simp [SeqAt.shaped, PyData.canLay0, PyData.depth, h1]
  omega
/-- a key is put: the entries stand -/
theorem put_keys {K : PySem.W.Frag} {H : Hp} {xs : List Ent} {kd : PyData} {ka : Addr} {j : Int} (h : DDk K H xs) (hk : Dp K H (.ref ka) kd) (ok : okKey kd = true) : DDk K H (entPut xs kd ka j) := ⟨fun x hx => by
  unfold entPut at hx
  split at hx
  · obtain ⟨z, hz, rfl⟩ := List.mem_map.mp hx
    by_cases e : nk z.1 = nk kd
    · rw [if_pos e]; exact h.key z hz
    · rw [if_neg e]; exact h.key z hz
  · rcases List.mem_append.mp hx with hx | hx
    · exact h.key x hx
    · rw [List.mem_singleton.mp hx]; exact ⟨hk, ok⟩, put_nodup h.nod⟩
/-- every lot is short -/
def shortG (gs : Grt) : Prop := ∀ g ∈ gs, g.1.1.length ≤ 100
theorem short_put {gs : Grt} {k : List Nat × Nat} {n : Nat} (h : shortG gs) (hk : k.1.length ≤ 100) : shortG (grtPut gs k n) := fun g hg => by
  unfold grtPut at hg
  split at hg
  · obtain ⟨z, hz, rfl⟩ := List.mem_map.mp hg
    by_cases e : z.1 = k
    · rw [if_pos e]; exact h z hz
    · rw [if_neg e]; exact h z hz
  · rcases List.mem_append.mp hg with hg | hg
    · exact h g hg
    · rw [List.mem_singleton.mp hg]; exact hk
theorem grtAt_mem {gs : Grt} (hn : (gs.map (·.1)).Nodup) {g : (List Nat × Nat) × Nat} (hg : g ∈ gs) : grtAt gs g.1 = some g.2 := by
  induction gs with
  | nil => cases hg
  | cons z gs ih =>
    rw [List.map_cons, List.nodup_cons] at hn
    unfold grtAt
    rw [List.find?_cons]
    rcases List.mem_cons.mp hg with rfl | hg
    · simp
    · have : ¬ z.1 = g.1 := fun e => hn.1 (List.mem_map.mpr ⟨g, hg, e.symm⟩)
      simp only [this, decide_false]
      exact ih hn.2 hg
theorem gx_nodup {xs : List Ent} {gs : Grt} (h : Gx xs gs) (hn : (xs.map fun x => nk x.1).Nodup) : (gs.map (·.1)).Nodup := by
  have e : xs.map (fun x => nk x.1) = (gs.map (·.1)).map fun k => nk (gkD k) := by
    rw [List.map_map]
    have := congrArg (List.map nk) (gx_keys h)
    rw [List.map_map, List.map_map] at this
    exact this
  rw [e] at hn
  exact List.Pairwise.of_map _ (fun a b h e => h (by rw [e])) hn
theorem c_told (V : Ev mg) (G : Gd K mg "needs_told" s_needs_told) (Cs : Cal P w K mg base 12 "surely_there" (spF K (P_sur 10)) []) : Cal P w K mg base 13 "needs_told" (spF K P_told) [] := by
  refine cal_data G sc_needs_told (fun _ _ _ _ _ _ us hl => match us, hl with | [_], _ => rfl) (fun ds r ⟨_, h, _⟩ => by rw [h]; rfl) fun f cdv A outer s H H0 vs ds r D E hr hv hP hk _ => ?_
  obtain ⟨needs, rfl, hnl, hno, rfl⟩ := hP
  obtain ⟨v0, rfl, d0⟩ := dpAll_1 hv
  have hN := sc_needs_told.nd
  have hu := room_u hr
  refine wss_setW 1 hN (we_dnew fun d hd hsy => ?_)
  refine wss_forV (H0 := H) (g := gTup K 3 (gCons (gName 2) (gCons (gName 3) (gCons (gName 4) gNil)))) PassesOwn.never (same_new hd) (srv_tup 0 rfl d0) (pg3 2 3 4 hN)
    (fun i σ' H' => Same H H' ∧ ∃ (xs : List Ent) (x2 x3 x4 : Option L2.V), σ' = [some v0, some (.ref d), x2, x3, x4, none, none, none] ∧ H' d = some (.ext (dPhi P w d xs)) ∧ DDk K H' xs ∧ Gx xs (grtAll (needs.take i)) ∧ shortG (grtAll (needs.take i))) ?_ ?_ ?_ ?_
  · refine fun H1 s1 => ⟨(same_new hd).trans s1, [], none, none, none, rfl, s1 _ _ upd_same, ⟨(fun x hx => by cases hx), by simp⟩, .nil, (fun g hg => by cases hg)⟩
  · exact fun i σ' H' p => p.1
  · rintro i dd x σ' H' H'' hdd ⟨s1, xs, x2, x3, x4, rfl, hx1, hx2, hx3, hx4⟩ s2 dx
    rw [List.getElem?_map] at hdd
    obtain ⟨y, hy, rfl⟩ := Option.map_eq_some_iff.mp hdd
    have hyo := hno y (List.mem_of_getElem? hy)
    have hst : grtAll (needs.take (i + 1)) = grtStep (grtAll (needs.take i)) y := by
      have : needs.take (i + 1) = needs.take i ++ [y] := by rw [List.take_add_one, hy]; rfl
      unfold grtAll
      rw [this, List.foldl_append]
      rfl
    have hxl : xs.length ≤ 100000 := by
      have h1 := Paired.length hx3
      have h2 := grtAll_len (needs.take i) []
      unfold grtAll at h1
      simp at h2
      omega
    refine g3 dx fun w2 w3 w4 e2 e3 e4 => ?_
    have hDD : DD (cxOf CX0 P w K mg base n_needs_told "needs_told" (defScope s_needs_told) f cdv A outer s H E).nox H'' d xs := ⟨hx2.same s2, .inl (s2 _ _ hx1), hsy⟩
    refine wss_dput (ks := [nD y.1, tx [y.2.1]]) (j := ((max y.2.2 ((grtAt (grtAll (needs.take i)) (y.1, y.2.1)).getD 0) : Nat) : Int)) hu 1 rfl (s2 _ _ hx1) (hx2.same s2) hsy hxl
      (EE.is (ee_max2 (j := (((grtAt (grtAll (needs.take i)) (y.1, y.2.1)).getD 0 : Nat) : Int)) (ee_var 4 rfl e4) (EE.is (ee_dget (ks := [nD y.1, tx [y.2.1]]) hu 1 rfl hDD (ee_tup (ea_cons (ee_var 2 rfl e2) (ea_1 (ee_var 3 rfl e3)))) (ok_gk (y.1, y.2.1)) ee_int) ?_) V.max) (by rw [max_nat]))
      (ee_tup (ea_cons (ee_var 2 rfl e2) (ea_1 (ee_var 3 rfl e3)))) (ok_gk (y.1, y.2.1)) fun ka H3 s3 dk => ?_
    · have := gx_at hx3 (y.1, y.2.1)
      rw [this]
      cases grtAt (grtAll (needs.take i)) (y.1, y.2.1) <;> rfl
    · have hd3 : H3 d = some (.ext (dPhi P w d xs)) := s3 _ _ (s2 _ _ hx1)
      refine wss_nil ⟨same_mut ((s1.trans s2).trans s3) hd, _, some w2, some w3, some w4, rfl, upd_same, ?_, ?_, ?_⟩
      · exact (put_keys (hx2.same (s2.trans s3)) dk (ok_gk (y.1, y.2.1))).tx (tx_mut (Tx.refl _) hd3 trivial)
      · rw [hst]
        exact gx_put hx3 (y.1, y.2.1) ka _
      · rw [hst]
        exact short_put hx4 hyo
  · rintro σ' H1 ⟨s1, xs, x2, x3, x4, rfl, hx1, hx2, hx3, hx4⟩
    rw [List.length_map, List.take_length] at hx3 hx4
    have hgn := gx_nodup hx3 hx2.nod
    have hgl : (grtAll needs).length ≤ 10 := by
      have h2 := grtAll_len needs []
      unfold grtAll
      simp at h2
      omega
    generalize hgs : grtAll needs = gs at hx3 hx4 hgn hgl hk
    have hxl := Paired.length hx3
    refine wss_freeze hx1 trivial fun od => ?_
    have hZ : DZ (cxOf CX0 P w K mg base n_needs_told "needs_told" (defScope s_needs_told) f cdv A outer s H E).nox (upd H1 d (.frz od (.ext (dPhi P w d xs)))) d od xs := ⟨hx2.tx (tx_mut (Tx.refl _) hx1 trivial), upd_same, hsy⟩
    have s02 : Same H (upd H1 d (.frz od (.ext (dPhi P w d xs)))) := same_mut s1 hd
    generalize upd H1 d (.frz od (.ext (dPhi P w d xs))) = H2 at hZ s02
    have hat : ∀ g ∈ gs, entAt xs (gkD g.1) = some ((g.2 : Nat) : Int) := fun g hg => by rw [gx_at hx3, grtAt_mem hgn hg]; rfl
    refine wss_setN 5 hN (en_lst ea_nil) fun p ys H3 s3 hp hy hys => ?_
    refine wss_forV (ds := gs.map fun g => gkD g.1) (H0 := H2) (g := gTup K 2 (gCons (gName 2) (gCons (gName 3) gNil))) PassesOwn.never s3 (by rw [← gx_keys hx3]; exact srv_dict 1 rfl hZ) (pg2 2 3 hN)
      (fun i σ' H' => Same H2 H' ∧ ∃ (x2 x3 x4 x6 : Option L2.V), σ' = [some v0, some (.ref d), x2, x3, x4, some (.ref p), x6, none] ∧ Lst K H' p ((((gs.take i).filter (toldOne gs)).map fun g => (g.1.1, g.1.2, g.2)).map needD)) ?_ ?_ ?_ ?_
    · refine fun H4 s4 => ⟨s3.trans s4, x2, x3, x4, none, rfl, ?_⟩
      have : Lst K H3 p [] := ⟨_, hy, hys⟩
      exact this.same s4
    · exact fun i σ' H' p => p.1
    · rintro i dd x σ' H' H'' hdd ⟨s4, y2, y3, y4, y6, rfl, hl⟩ s5 dx
      rw [List.getElem?_map] at hdd
      obtain ⟨g, hg, rfl⟩ := Option.map_eq_some_iff.mp hdd
      have hgm := List.mem_of_getElem? hg
      have hst : gs.take (i + 1) = gs.take i ++ [g] := by rw [List.take_add_one, hg]; rfl
      refine g2 dx fun w2 w3 e2 e3 => ?_
      have s25 := s4.trans s5
      refine wss_setLc 6 hN (lcr_filt (as := gs) (enc := fun g => gkD g.1) 7 (by rw [← gx_keys hx3]; exact (srv_dict 1 rfl (hZ.same s25)).src) hN (fun z => decide (z.1.2 = g.1.2) && !decide (z.1.1 = g.1.1)) (fun z => prD (z.1.1, z.2)) (fun z _ _ => imm_prD (z.1.1, z.2))
        (fun z hz x' H6 s6 dx' s0 H0' C cl fp => EW.et (ew_and (ET.is (et_eqS (l := [z.1.2]) (m := [g.1.2]) (ee_ixT (j := 1) (ee_var 7 rfl dx') ee_int rfl) (ee_var 3 rfl (e3.same s6))) (by simp)) fun _ => ew_and1 (ET.is (et_neD hu (ee_ixT (j := 0) (d := nD z.1.1) (ee_var 7 rfl dx') ee_int rfl) (ee_var 2 rfl (e2.same s6)) (shaped_nD _) (shaped_nD _)) (by rw [show PyData.eqv (nD z.1.1) (nD g.1.1) = PyData.eqvAll (z.1.1.map iN) (g.1.1.map iN) by simp [PyData.eqv], eqv_nD]))))
        (fun z hz _ x' H6 s6 dx' s0 H0' C cl fp => ee_tup (ea_cons (ee_ixT (j := 0) (d := nD z.1.1) (ee_var 7 rfl dx') ee_int rfl) (ea_1 (ee_dix (ks := [nD z.1.1, tx [z.1.2]]) hu 1 rfl ((hZ.same (s25.trans s6)).dd.blk) (ee_var 7 rfl dx') (ok_gk z.1) (hat z hz))))) (by omega)) fun q zs H6 s6 hq hzq hzs => ?_
      have s26 := s25.trans s6
      have dO : Dp K H6 (.ref q) (.list ((othW gs g.1).map prD)) := by
        refine .lst (.of hzq) ?_
        unfold othW
        rw [List.map_map]
        exact hzs
      have hol : (othW gs g.1).length ≤ 10 := by
        unfold othW
        rw [List.length_map]
        have := List.length_filter_le (fun z : (List Nat × Nat) × Nat => decide (z.1.2 = g.1.2) && !decide (z.1.1 = g.1.1)) gs
        omega
      refine wss_when (b := toldOne gs g) (ET.is (et_gt (i := (g.2 : Nat)) (j := (sur 10 g.1.1 (othW gs g.1) : Nat)) (ee_dix (ks := [nD g.1.1, tx [g.1.2]]) hu 1 rfl ((hZ.same s26).dd) (ee_tup (ea_cons (ee_var 2 rfl (e2.same s6)) (ea_1 (ee_var 3 rfl (e3.same s6))))) (ok_gk g.1) (hat g hgm)) (ee_call Cs hr (ea_cons (ee_var 2 rfl (e2.same s6)) (ea_1 (ee_var 6 rfl dO))) ⟨g.1.1, othW gs g.1, rfl, hx4 g hgm, hol, by decide, fun y hy => by
          obtain ⟨z, hz, rfl⟩ := List.mem_map.mp hy
          exact hx4 z (List.mem_filter.mp hz).1, rfl⟩)) (by unfold toldOne; simp)) (fun hb H7 s7 => ?_) fun hb H7 s7 => ?_
      · have s67 := s6.trans s7
        have s27 := s26.trans s7
        obtain ⟨us, hu1, hu2⟩ := (hl.same s5).same s67
        refine wss_append 5 rfl hu1 ?_ (ee_tup (ea_cons (ee_var 2 rfl (e2.same s67)) (ea_cons (ee_var 3 rfl (e3.same s67)) (ea_1 (ee_dix (ks := [nD g.1.1, tx [g.1.2]]) hu 1 rfl ((hZ.same s27).dd) (ee_tup (ea_cons (ee_var 2 rfl (e2.same s67)) (ea_1 (ee_var 3 rfl (e3.same s67))))) (ok_gk g.1) (hat g hgm)))))) fun v8 H8 s8 d8 => ?_
        · rw [dpAll_len hu2, List.length_map, List.length_map]
          have h1 := List.length_filter_le (toldOne gs) (gs.take i)
          rw [List.length_take] at h1
          omega
        · refine wss_nil (wss_nil ⟨same_mut (s27.trans s8) hp, some w2, some w3, y4, some (.ref q), rfl, ?_⟩)
          have := Lst.app (s8 _ _ hu1) (hu2.same s8) (.cons d8 .nil) (immAll_need _) (by
            have h1 := imm_need (g.1.1, g.1.2, g.2)
            simp only [immAll, h1, Bool.and_true])
          have e9 : (((gs.take (i + 1)).filter (toldOne gs)).map fun g => (g.1.1, g.1.2, g.2)).map needD = (((gs.take i).filter (toldOne gs)).map fun g => (g.1.1, g.1.2, g.2)).map needD ++ [needD (g.1.1, g.1.2, g.2)] := by
            rw [hst, List.filter_append, List.filter_cons, if_pos hb]
            simp
          rw [e9]
          exact this
      · refine wss_nil ⟨s26.trans s7, some w2, some w3, y4, some (.ref q), rfl, ?_⟩
        have e9 : (gs.take (i + 1)).filter (toldOne gs) = (gs.take i).filter (toldOne gs) := by
          rw [hst, List.filter_append, List.filter_cons, if_neg (by rw [hb]; exact Bool.false_ne_true)]
          simp
        rw [e9]
        exact ((hl.same s5).same s6).same s7
    · rintro σ' H4 ⟨s4, y2, y3, y4, y6, rfl, hl⟩
      rw [List.length_map, List.take_length] at hl
      have hdp : Dp K H4 (.ref p) (.list ((toldN gs).map needD)) := hl.dp
      have htl : (toldN gs).length ≤ 10 := by
        unfold toldN
        rw [List.length_map]
        have := List.length_filter_le (toldOne gs) gs
        omega
      refine wss_ret (ee_tuple (EN.ee (en_sorted (ee_var 5 rfl hdp) rfl (fun a ha b hb => ?_) (.inl fun a ha => ?_) (by rw [List.length_map]; omega) (fun a ha => ?_) V.sorted hu)) (.inl rfl) V.tuple) fun v H5 s5 dv => hk v H5 (s02.trans (s4.trans s5)) dv
      · obtain ⟨x, _, rfl⟩ := List.mem_map.mp ha
        obtain ⟨y, _, rfl⟩ := List.mem_map.mp hb
        exact alike_need x y
      · obtain ⟨x, _, rfl⟩ := List.mem_map.mp ha
        exact ⟨_, _, rfl⟩
      · obtain ⟨x, _, rfl⟩ := List.mem_map.mp ha
        exact depth_need x
end
end K10
set_option maxHeartbeats 4000000
/-! Where a text's token must be known: names with their exact values (T), the count of tokens (N), beside the state. -/
namespace K10
open PySem PySem.Spec PyProof.Rows L2 SX
open C8 (Cal pe_c)
abbrev TT2 := List (Str × V × Value)
/-- the local names of T hold these very values -/
def TkH (X : Cx) (T : TT2) (s : Shared) : Prop := ∃ m, s.heap.Ns X.env.locals m ∧ ∀ q ∈ T, m q.1 = some q.2.2 ∧ RelV q.2.1 q.2.2
/-- a token given out before N -/
def Gtok (N : Nat) (t : Tok) : Prop := t ≠ 0 ∧ t < N
def Gval (N : Nat) : Value → Prop
  | .str _ t => Gtok N t
  | _ => True
/-- a tuple whose texts' tokens are good, its object known -/
def Gtup (N : Nat) (H : Hp) (a : Addr) : Prop := ∃ (o : Obj) (xs : List V) (its : List Value) (n : Nat), H a = some (.frz o (.tup xs)) ∧ o.cls = .type "tuple" ∧ o.data = .seq its.toArray n ∧ ∀ u ∈ its, Gval N u
theorem Gtup.same {N : Nat} {H H' : Hp} {a : Addr} (h : Gtup N H a) (s : Same H H') : Gtup N H' a := by
  obtain ⟨o, xs, its, n, h1, h2⟩ := h
  exact ⟨o, xs, its, n, s _ _ h1, h2⟩
theorem Gval.mono {N M : Nat} (h : N ≤ M) {u : Value} (g : Gval N u) : Gval M u := by
  cases u <;> first | trivial | exact ⟨g.1, Nat.lt_of_lt_of_le g.2 h⟩
theorem Gtup.mono {N M : Nat} {H : Hp} {a : Addr} (h : N ≤ M) (g : Gtup N H a) : Gtup M H a := by
  obtain ⟨o, xs, its, n, h1, h2, h3, h4⟩ := g
  exact ⟨o, xs, its, n, h1, h2, h3, fun u hu => (h4 u hu).mono h⟩
structure WEF (X : Cx) (T : TT2) (N : Nat) (e : Expr) (σ : L2.St) (H : Hp) (Q : V → Value → Nat → Hp → Prop) : Prop where
  run : ∀ (pins : List (Addr × Obj)) (s : Shared), Inv X pins σ H s → TkH X T s → N ≤ s.toks →
  wpAny (model X.prog X.w) X.A (eval e X.env) (fun u s1 => ∃ x H1, Inv X pins σ H1 s1 ∧ RelV x u ∧ TkH X T s1 ∧ N ≤ s1.toks ∧ Q x u s1.toks H1) X.xe s
instance (X : Cx) (T : TT2) (N : Nat) (e : Expr) (σ : L2.St) (H : Hp) (Q : V → Value → Nat → Hp → Prop) : CoeFun (WEF X T N e σ H Q) fun _ => ∀ (pins : List (Addr × Obj)) (s : Shared), Inv X pins σ H s → TkH X T s → N ≤ s.toks →
  wpAny (model X.prog X.w) X.A (eval e X.env) (fun u s1 => ∃ x H1, Inv X pins σ H1 s1 ∧ RelV x u ∧ TkH X T s1 ∧ N ≤ s1.toks ∧ Q x u s1.toks H1) X.xe s := ⟨WEF.run⟩
structure WTF (X : Cx) (T : TT2) (N : Nat) (e : Expr) (σ : L2.St) (H : Hp) (Q : Bool → Hp → Prop) : Prop where
  run : ∀ (pins : List (Addr × Obj)) (s : Shared), Inv X pins σ H s → TkH X T s → N ≤ s.toks →
  wpAny (model X.prog X.w) X.A (isTrue e X.env (eval e X.env)) (fun c s1 => ∃ H1, Inv X pins σ H1 s1 ∧ TkH X T s1 ∧ N ≤ s1.toks ∧ Q c H1) X.xe s
instance (X : Cx) (T : TT2) (N : Nat) (e : Expr) (σ : L2.St) (H : Hp) (Q : Bool → Hp → Prop) : CoeFun (WTF X T N e σ H Q) fun _ => ∀ (pins : List (Addr × Obj)) (s : Shared), Inv X pins σ H s → TkH X T s → N ≤ s.toks →
  wpAny (model X.prog X.w) X.A (isTrue e X.env (eval e X.env)) (fun c s1 => ∃ H1, Inv X pins σ H1 s1 ∧ TkH X T s1 ∧ N ≤ s1.toks ∧ Q c H1) X.xe s := ⟨WTF.run⟩
section
variable {X : Cx} {T T' : TT2} {N : Nat} {σ : L2.St} {H H' : Hp} {e a b' : Expr} {pos p : Pos} {s : Shared}
theorem TkH.kept {h' : Heap} {t' : Nat} (h : TkH X T s) (k : ∀ b o, s.heap.get? b = some o → h'.get? b = some o) : TkH X T { s with heap := h', toks := t' } := by
  obtain ⟨m, h1, h2⟩ := h
  exact ⟨m, h1.keeps k, h2⟩
theorem TkH.tok {t' : Nat} (h : TkH X T s) : TkH X T { s with toks := t' } := h
theorem TkH.sub (h : TkH X T s) (k : ∀ q ∈ T', q ∈ T) : TkH X T' s := by
  obtain ⟨m, h1, h2⟩ := h
  exact ⟨m, h1, fun q hq => h2 q (k q hq)⟩
theorem TkH.nil {pins : List (Addr × Obj)} (I : Inv X pins σ H s) : TkH X [] s := by
  obtain ⟨m, h1, _⟩ := I.loc
  exact ⟨m, h1, fun q hq => by cases hq⟩
theorem WEF.mono {Q Q' : V → Value → Nat → Hp → Prop} (h : WEF X T N e σ H Q) (k : ∀ x u M H1, N ≤ M → Q x u M H1 → Q' x u M H1) : WEF X T N e σ H Q' := .mk fun pins s I t n => thn (h pins s I t n) fun u s1 ⟨x, H1, I1, r, t1, n1, q⟩ => ⟨x, H1, I1, r, t1, n1, k x u _ H1 n1 q⟩
/-- without names held -/
theorem wef_of {Q : V → Value → Nat → Hp → Prop} (h : WE X e σ H fun x H1 => ∀ u M, RelV x u → N ≤ M → Q x u M H1) : WEF X [] N e σ H Q := .mk fun pins s I _ n =>
  wpAny_mono (PySem.wpAny_toks_of n (h pins s I)) (fun u s1 ⟨n1, x, H1, I1, r, q⟩ => ⟨x, H1, I1, r, TkH.nil I1, n1, q u _ r n1⟩) fun _ _ z => z.2
theorem wtf_of {Q : Bool → Hp → Prop} (h : WT X e σ H Q) : WTF X [] N e σ H Q := .mk fun pins s I _ n =>
  wpAny_mono (PySem.wpAny_toks_of n (h pins s I)) (fun u s1 ⟨n1, H1, I1, q⟩ => ⟨H1, I1, TkH.nil I1, n1, q⟩) fun _ _ z => z.2
/-- a held name -/
theorem wef_t {Q : V → Value → Nat → Hp → Prop} {x : Str} {v : V} {u : Value} (ht : (x, v, u) ∈ T) (q : ∀ M, N ≤ M → Q v u M H) (hk : X.env.kindOf x = some .local := by rfl) (hd : (x == ("__debug__" : Str)) = false := by decide) : WEF X T N (.Name x pos) σ H Q := .mk fun pins s I t n => by
  obtain ⟨m, h1, h2⟩ := id t
  obtain ⟨e1, e2⟩ := h2 _ ht
  exact wpAny_Name (wpAny_loadName_local I.ok.kind hk h1 e1 ⟨v, H, I, e2, t, n, q _ n⟩) hd
/-- any name -/
theorem wef_v {Q : V → Value → Nat → Hp → Prop} {x : Str} {v : V} (i : Nat) (h : σ[i]? = some (some v)) (q : ∀ u M, RelV v u → N ≤ M → Q v u M H) (hN : X.N[i]? = some x := by rfl) (hk : X.env.scope.names.lookup x = some .local := by rfl) (hd : (x == ("__debug__" : Str)) = false := by decide) : WEF X T N (.Name x pos) σ H Q := .mk fun pins s I t n => by
  obtain ⟨m, h1, h2⟩ := I.loc
  obtain ⟨u, r, l⟩ := h2 i x v hN h (.inl hk)
  rcases l with ⟨hk', hm⟩ | ⟨hk', _⟩
  · exact wpAny_Name (wpAny_loadName_local I.ok.kind hk' h1 hm ⟨v, H, I, r, t, n, q u _ r n⟩) hd
  · rw [show X.env.kindOf x = X.env.scope.names.lookup x from rfl, hk] at hk'
    rcases hk' with z | z <;> cases z
theorem wef_int {Q : V → Value → Nat → Hp → Prop} {i : Int} {j : Nat} (q : ∀ t M, N + 1 ≤ M → Q (.int i) (.int i t) M H) : WEF X T N (.Constant (.int i) j pos) σ H Q := .mk fun pins s I t n =>
  wpAny_Constant_int ⟨.int i, H, I.tok _, ⟨_, rfl⟩, t.tok, Nat.le_succ_of_le n, q _ _ (Nat.succ_le_succ n)⟩
/-- a written text has a token of its own -/
theorem wef_str {Q : V → Value → Nat → Hp → Prop} {z : Str} {j : Nat} (q : ∀ t, N ≤ t → Q (.str z) (.str z t) (t + 1) H) : WEF X T N (.Constant (.str z) j pos) σ H Q := .mk fun pins s I t n =>
  Calls.Constant_str ⟨.str z, H, I.tok _, ⟨_, rfl⟩, t.tok, Nat.le_succ_of_le n, q _ n⟩
theorem TkH.un {s1 : Shared} {pins : List (Addr × Obj)} {ch : List Addr} {H1 : Hp} (I : Inv X pins σ H s) (h : TkH X T s) (u : Un (frs X.stack) ch H H1 s.heap s1.heap) (hch : X.env.locals ∉ ch) : TkH X T s1 := by
  obtain ⟨m, h1, h2⟩ := h
  obtain ⟨o, es, ep, e1, e2, e3, e4⟩ := h1
  obtain ⟨sl, q⟩ := u.any e1 I.free hch
  exact ⟨m, ⟨_, es, ep, q, e2, e3, e4⟩, h2⟩
/-! ### arguments -/
structure WAF (X : Cx) (T : TT2) (N : Nat) (es : List Expr) (σ : L2.St) (H : Hp) (Q : List V → List Value → Nat → Hp → Prop) : Prop where
  run : ∀ (pos : Pos) (pins : List (Addr × Obj)) (s : Shared), Inv X pins σ H s → TkH X T s → N ≤ s.toks →
  wpAny (model X.prog X.w) X.A (spliced (backTo pos (starEach es X.env))) (fun us s1 => ∃ xs H1, Inv X pins σ H1 s1 ∧ Vals xs us ∧ TkH X T s1 ∧ N ≤ s1.toks ∧ Q xs us s1.toks H1) X.xe s
instance (X : Cx) (T : TT2) (N : Nat) (es : List Expr) (σ : L2.St) (H : Hp) (Q : List V → List Value → Nat → Hp → Prop) : CoeFun (WAF X T N es σ H Q) fun _ => ∀ (pos : Pos) (pins : List (Addr × Obj)) (s : Shared), Inv X pins σ H s → TkH X T s → N ≤ s.toks →
  wpAny (model X.prog X.w) X.A (spliced (backTo pos (starEach es X.env))) (fun us s1 => ∃ xs H1, Inv X pins σ H1 s1 ∧ Vals xs us ∧ TkH X T s1 ∧ N ≤ s1.toks ∧ Q xs us s1.toks H1) X.xe s := ⟨WAF.run⟩
theorem waf_nil {Q : List V → List Value → Nat → Hp → Prop} (q : ∀ M, N ≤ M → Q [] [] M H) : WAF X T N [] σ H Q := .mk fun _ pins s I t n => Calls.spliced_nil ⟨[], H, I, .nil, t, n, q _ n⟩
theorem waf_cons {es : List Expr} {Q : List V → List Value → Nat → Hp → Prop} (h : WEF X T N e σ H fun x u M H1 => WAF X T M es σ H1 fun xs us M2 H2 => Q (x :: xs) (u :: us) M2 H2) (hs : starEach (e :: es) X.env = (false, eval e X.env) :: starEach es X.env := by exact star_cons (by rfl)) : WAF X T N (e :: es) σ H Q := .mk fun pos pins s I t n => by
  rw [hs]
  show wpAny _ _ (spliced ((false, eval e X.env) :: backTo pos (starEach es X.env))) _ _ s
  refine Calls.spliced_cons (thn (h pins s I t n) fun v s1 ⟨x, H1, I1, r1, t1, n1, q1⟩ => ?_)
  exact thn (q1 pos pins s1 I1 t1 (Nat.le_refl _)) fun us s2 ⟨xs, H2, I2, r2, t2, n2, q2⟩ => ⟨x :: xs, H2, I2, .cons r1 r2, t2, Nat.le_trans n1 n2, q2⟩
/-- a tuple whose object is known from now on -/
theorem wef_tupZ {es : List Expr} {k : Nat} {Q : V → Value → Nat → Hp → Prop} (h : WAF X T N es σ H fun xs us M H1 => xs.length ≤ 1000 ∧ ∀ p, H1 p = none → Q (.ref p) (.ref p) M (upd H1 p (.frz { cls := .type "tuple", data := .seq us.toArray } (.tup xs)))) : WEF X T N (.Tuple es k pos) σ H Q := .mk fun pins s I t n => by
  refine wpAny_Tuple_spliced (thn (h pos pins s I t n) fun us s1 ⟨xs, H1, I1, r, t1, n1, z, q⟩ => ⟨by rw [← r.length, sizeLine_eq]; omega, ?_⟩)
  have hf : H1 s1.heap.objs.size = none := I1.hok.fresh (Nat.le_refl _)
  have hz : xs.length ≤ sizeLine := by rw [sizeLine_eq]; omega
  refine ⟨.ref s1.heap.objs.size, upd H1 s1.heap.objs.size (.frz { cls := .type "tuple", data := .seq us.toArray } (.tup xs)), I1.laid (t' := s1.toks) (fun b u e => Heap.get?_push_of_some _ e) (Nat.le_refl _) ?_, rfl, t1.kept (t' := s1.toks) fun b o e => Heap.get?_push_of_some _ e, n1, q _ hf⟩
  exact ⟨Heap.get?_push_size _ rfl, hz, us, r, ⟨_, Heap.get?_push_size _ rfl, rfl, _, rfl⟩⟩
/-! ### defs by raw values -/
abbrev SpT := List V → List Value → Nat → Hp → (V → Value → Nat → Hp → Prop) → Prop
def CRT (outer : List Env) (P : Program) (w : World) (H : Hp) (s : Shared) (Q : V → Value → Nat → Hp → Prop) (r : Result) (s' : Shared) : Prop :=
  match r with
  | .ok (.ret u) => ∃ v H', s'.os = s.os ∧ AllBare s'.gens ∧ Un (frs outer) [] H H' s.heap s'.heap ∧ HOk P w H' s'.heap ∧ RelV v u ∧ s.toks ≤ s'.toks ∧ Q v u s'.toks H'
  | _ => False
structure FnT (P : Program) (w : World) (K : PySem.W.Frag) (mg : Str → Option Value) (base : Heap) (k : Nat) (f : Addr) (fd : FuncData) (ps : List Str) (sp : SpT) : Prop where
  len : ∀ vs us N H Q, sp vs us N H Q → vs.length = ps.length
  run : ∀ (A : Around) (outer : List Env) (s : Shared) (H : Hp) (args : Args) (us : List Value) (vs : List V) (Q : V → Value → Nat → Hp → Prop), Room k A → Env0 P w K mg base A outer s H → BindsTo s fd args (ps.zip us) → Vals vs us → sp vs us s.toks H Q →
    codeAny (model P w) A (.call (.ref f) args) (CRT outer P w H s Q) s
/-- a def of the usual kind -/
theorem FnT.of {P : Program} {w : World} {K : PySem.W.Frag} {mg : Str → Option Value} {base : Heap} {k : Nat} {f : Addr} {fd : FuncData} {ps : List Str} {sp : Sp} (F : FnOk P w K mg base CX0 k f fd ps sp) :
    FnT P w K mg base k f fd ps (fun vs us N H Q => sp vs H (fun v H' => ∀ u M, RelV v u → N ≤ M → Q v u M H') (fun _ _ _ => False)) :=
  ⟨fun vs us N H Q h => F.len _ _ _ _ h, fun A outer s H args us vs Q hr e0 hb hv h => by
    refine codeAny_mono (codeAny_toks_of (Nat.le_refl _) (F.run A outer s H args us vs _ _ hr e0 hb hv h)) fun r s' ⟨hn, hq⟩ => ?_
    cases r with
    | error e => exact hq.elim
    | ok fl =>
      cases fl with
      | ret u =>
        obtain ⟨v, H', os, bare, un, hok, rv, q⟩ := hq
        exact ⟨v, H', os, bare, un, hok, rv, hn, q u _ rv hn⟩
      | next => exact hq.elim
      | brk => exact hq.elim
      | cont => exact hq.elim⟩
/-- the callee runs; the caller's names stay -/
theorem run_fnT {k : Nat} {f : Addr} {fd : FuncData} {ps : List Str} {ds : List Value} {dvs : List V} {sp : SpT} {pins : List (Addr × Obj)} {us : List Value} {vs : List V} {Q : V → Value → Nat → Hp → Prop} (F : FnT X.prog X.w X.K X.mg X.base k f fd ps sp) (hr : Room k X.A) (hb : Binds X.K fd ps ds) (hd : Vals dvs ds)
    (I : Inv X pins σ H s) (t : TkH X T s) (n : N ≤ s.toks) (r : Vals vs us) (h : sp (vs ++ dvs) (us ++ ds) s.toks H Q) :
    wpAny (model X.prog X.w) X.A (call (.ref f) us) (fun u s1 => ∃ x H1, Inv X pins σ H1 s1 ∧ RelV x u ∧ TkH X T s1 ∧ N ≤ s1.toks ∧ Q x u s1.toks H1) X.xe s := by
  have r2 : Vals (vs ++ dvs) (us ++ ds) := r.append hd
  have hl : (us ++ ds).length = ps.length := by rw [← r2.length]; exact F.len _ _ _ _ _ h
  refine wpAny_call (codeAny_mono (F.run X.A X.stack s H ⟨us, []⟩ (us ++ ds) (vs ++ dvs) Q hr I.env0 (hb s us I.kIn hl) r2 h) fun r s' hq => ?_)
  cases r with
  | error e => exact hq.elim
  | ok fl =>
    cases fl with
    | ret u =>
      obtain ⟨v, H', os, bare, un, hok, rv, hn, q⟩ := hq
      have t' := TkH.un I t un (by simp)
      obtain ⟨hh, g, d, tt, os'⟩ := s'
      obtain rfl : os' = s.os := os
      exact ⟨v, H', I.call (h' := hh) (g' := g) (d' := d) (t' := tt) (ch := []) un hok bare (fun b z => absurd z (by simp)), rv, t', Nat.le_trans n hn, q⟩
    | next => exact hq.elim
    | brk => exact hq.elim
    | cont => exact hq.elim
/-- a def, by raw values -/
structure CalT (P : Program) (w : World) (K : PySem.W.Frag) (mg : Str → Option Value) (base : Heap) (k : Nat) (x : Str) (sp : SpT) (dvs : List V) : Prop where
  ex : ∃ (f : Addr) (fd : FuncData) (ps : List Str) (ds : List Value), FnT P w K mg base k f fd ps sp ∧ mg x = some (.ref f) ∧ PySem.W.keepIn K (.ref f) = true ∧ Binds K fd ps ds ∧ Vals dvs ds
theorem CalT.of {P : Program} {w : World} {K : PySem.W.Frag} {mg : Str → Option Value} {base : Heap} {k : Nat} {x : Str} {sp : Sp} {dvs : List V} (c : Cal P w K mg base k x sp dvs) : CalT P w K mg base k x (fun vs us N H Q => sp vs H (fun v H' => ∀ u M, RelV v u → N ≤ M → Q v u M H') (fun _ _ _ => False)) dvs := by
  obtain ⟨f, fd, ps, ds, F, a, b, c, d⟩ := c.ex
  exact ⟨f, fd, ps, ds, FnT.of F, a, b, c, d⟩
theorem FnT.mono {P : Program} {w : World} {K : PySem.W.Frag} {mg : Str → Option Value} {base : Heap} {k j : Nat} {f : Addr} {fd : FuncData} {ps : List Str} {sp : SpT} (F : FnT P w K mg base j f fd ps sp) (h : j ≤ k) : FnT P w K mg base k f fd ps sp :=
  ⟨F.len, fun A outer s H args us vs Q hr => F.run A outer s H args us vs Q (hr.mono h)⟩
theorem wef_call {k j : Nat} {x : Str} {sp : SpT} {dvs : List V} {p : Pos} {es : List Expr} {Q : V → Value → Nat → Hp → Prop} (c : CalT X.prog X.w X.K X.mg X.base k x sp dvs) (hr : Room j X.A) (hk : k ≤ j) (hg : Gl X x) (h : WAF X T N (e :: es) σ H fun vs us M H1 => ∀ ds, Vals dvs ds → sp (vs ++ dvs) (us ++ ds) M H1 Q)
    (hdb : (x == ("__debug__" : Str)) = false := by decide) (he : starEach (e :: es) X.env = (false, eval e X.env) :: starEach es X.env := by exact star_cons (by rfl)) (hpl : (backTo pos (starEach es X.env)).any (·.1) = false := by exact star_any (by rfl)) : WEF X T N (.Call (.Name x p) (e :: es) [] pos) σ H Q := .mk fun pins s I t n => by
  obtain ⟨f, fd, ps, ds, F, hm, kp, b, d⟩ := c.ex
  refine wpAny_Call_Name_kw (ld_glob I hg hm ?_ hdb)
  refine PySem.W.callWith_K (h₀ := X.base) I.ok.mod.kin kp (thn (h pos pins s I t n) fun us s1 ⟨vs, H1, I1, r, t1, n1, q⟩ => ⟨I1.kIn, ?_⟩) he hpl
  exact run_fnT (F.mono hk) hr b d I1 t1 n1 r (q ds d)
/-! ### statements -/
/-- a local name has been stored: the state -/
theorem Inv.stored {pins : List (Addr × Obj)} {σ' : L2.St} {h' : Heap} {m' : Str → Option Value} (I : Inv X pins σ H s) (hs : Heap.SameBut X.env.locals s.heap h') (hn : h'.Ns X.env.locals m') (hl : σ'.length = σ.length)
    (hm : ∀ (i : Nat) (x : Str) (v : V), X.N[i]? = some x → σ'[i]? = some (some v) → Vis X.env.scope x → ∃ u, RelV v u ∧ Look X.env h' m' x u) : Inv X pins σ' H { s with heap := h' } := by
  have ne0 : ∀ b o, X.s_0.heap.get? b = some o → b ≠ X.env.locals := fun b o e => Nat.ne_of_lt (Nat.lt_of_lt_of_le (Heap.lt_size e) I.ok.above)
  have neH : ∀ b u, H b = some u → b ≠ X.env.locals := fun b u e z => by rw [z, I.free] at e; cases e
  have old : ∀ b o, b ≠ X.env.locals → s.heap.get? b = some o → h'.get? b = some o := fun b o hb e => (hs.2 b hb).trans e
  exact {
    ok := I.ok
    os := I.os
    bare := I.bare
    base := {
      keep := fun b o e n hb hx => old b o (ne0 b o e) (I.base.keep b o e n hb hx)
      slot := fun b o e n hb hx => by
        obtain ⟨sl, q⟩ := I.base.slot b o e n hb hx
        exact ⟨sl, old b _ (ne0 b o e) q⟩
      free := I.base.free
      there := fun b o e hx => by
        obtain ⟨o', q⟩ := I.base.there b o e hx
        exact ⟨o', old b _ (ne0 b o e) q⟩
      tups := I.base.tups
      frzs := I.base.frzs
      tbls := I.base.tbls }
    loc := ⟨m', hn, hm⟩
    cell := fun x c e => by
      obtain ⟨v, q⟩ := I.cell x c e
      exact ⟨v, q.sameBut hs (I.cne x c e)⟩
    free := I.free
    freeC := I.freeC
    pin := fun p hp => by
      obtain ⟨e, n, ne, nf, d⟩ := I.pin p hp
      exact ⟨old _ _ ne e, n, ne, nf, d⟩
    hok := fun b u e => (I.hok b u e).stay (fun c v hc q => old c v (by
      rcases hc with rfl | hc
      · exact neH c u e
      · exact neH c _ hc) q) (fun _ q => q) fun _ _ q => q
    len := hl.trans I.len }
structure EndF where
  nx : TT2 → Nat → L2.St → Hp → Prop
  rt : V → Value → Nat → Hp → Prop
def SPF (X : Cx) (pins : List (Addr × Obj)) (D : EndF) (f : Flow) (s' : Shared) : Prop :=
  match f with
  | .next => ∃ σ' H' T', Inv X pins σ' H' s' ∧ TkH X T' s' ∧ D.nx T' s'.toks σ' H'
  | .ret u => ∃ v σ' H', Inv X pins σ' H' s' ∧ RelV v u ∧ D.rt v u s'.toks H'
  | _ => False
structure WSF (X : Cx) (T : TT2) (N : Nat) (sts : List Stmt) (D : EndF) (σ : L2.St) (H : Hp) : Prop where
  run : ∀ (pins : List (Addr × Obj)) (s : Shared), Inv X pins σ H s → TkH X T s → N ≤ s.toks → wpAny (model X.prog X.w) X.A (execs sts X.env) (SPF X pins D) X.xe s
instance (X : Cx) (T : TT2) (N : Nat) (sts : List Stmt) (D : EndF) (σ : L2.St) (H : Hp) : CoeFun (WSF X T N sts D σ H) fun _ => ∀ (pins : List (Addr × Obj)) (s : Shared), Inv X pins σ H s → TkH X T s → N ≤ s.toks → wpAny (model X.prog X.w) X.A (execs sts X.env) (SPF X pins D) X.xe s := ⟨WSF.run⟩
variable {rest body orelse : List Stmt} {D : EndF} {c : Expr}
theorem wsf_nil (h : ∀ M, N ≤ M → D.nx T M σ H) : WSF X T N [] D σ H := .mk fun pins s I t n => wpAny_execs_nil ⟨σ, H, T, I, t, h _ n⟩
theorem wsf_ret (h : WEF X T N e σ H fun x u M H1 => D.rt x u M H1) : WSF X T N (.Return (some e) pos :: rest) D σ H := .mk fun pins s I t n =>
  wpAny_execs_cons (wpAny_Return_some (thn (h pins s I t n) fun v s1 ⟨x, H1, I1, r1, t1, n1, q1⟩ => ⟨x, σ, H1, I1, r1, q1⟩))
/-- if, what comes behind it in both branches -/
theorem wsf_if (h : WTF X T N c σ H fun b H1 => WSF X T N (if b = true then body else orelse) { nx := fun T' M σ' H' => WSF X T' M rest D σ' H', rt := D.rt } σ H1) : WSF X T N (.If c body orelse pos :: rest) D σ H := .mk fun pins s I t n => by
  refine wpAny_execs_cons (wpAny_If (thn (h pins s I t n) fun b s1 ⟨H1, I1, t1, n1, q1⟩ => ?_))
  have q2 := q1 pins s1 I1 t1 n1
  cases b with
  | true =>
    refine wpAny_mono q2 (fun f s2 q => ?_) fun _ _ z => z
    cases f with
    | next =>
      obtain ⟨σ', H', T1, I', t', q⟩ := q
      exact q pins s2 I' t' (Nat.le_refl _)
    | ret v => exact q
    | brk => exact q.elim
    | cont => exact q.elim
  | false =>
    refine wpAny_mono q2 (fun f s2 q => ?_) fun _ _ z => z
    cases f with
    | next =>
      obtain ⟨σ', H', T1, I', t', q⟩ := q
      exact q pins s2 I' t' (Nat.le_refl _)
    | ret v => exact q
    | brk => exact q.elim
    | cont => exact q.elim
/-- name = e; T' may hold the name's new value -/
theorem wsf_set {x : Str} {pos' : Pos} (i : Nat) (hN : X.N.Nodup) (h : WEF X T N e σ H fun v u M H1 => ∃ T' : TT2, (∀ q ∈ T', (q.1 ≠ x ∧ q ∈ T) ∨ q = (x, v, u)) ∧ WSF X T' M rest D (σ.set i (some v)) H1) (hi : X.N[i]? = some x := by rfl) (hk : X.env.scope.names.lookup x = some .local := by rfl)
    (hs : swapsWith e (some (.Name x pos')) pos.line X.env = pure false := by rfl) : WSF X T N (.Assign [.Name x pos'] e pos :: rest) D σ H := .mk fun pins s I t n => by
  refine wpAny_execs_cons (wpAny_Assign_Name (thn (h pins s I t n) fun u s1 ⟨v, H1, I1, r1, t1, n1, T', hT', q1⟩ => ?_) hs)
  obtain ⟨m, hm, hl⟩ := I1.loc
  obtain ⟨m2, hm2, ht2⟩ := t1
  have em : ∀ y, m2 y = m y := fun y => hm2.agree hm y
  refine wpAny_storeName_local hk hm (fun h' hn' hsb => ?_) (by rw [I1.ok.kind]; rfl)
  have hiσ : i < σ.length := by rw [I1.len]; exact (List.getElem?_eq_some_iff.mp hi).1
  have I2 : Inv X pins (σ.set i (some v)) H1 { s1 with heap := h' } := Inv.stored I1 hsb hn' (by simp) fun j y w e1 e2 e3 => by
    by_cases hj : j = i
    · subst hj
      rw [hi] at e1
      cases e1
      rw [List.getElem?_set_self hiσ] at e2
      cases e2
      exact ⟨u, r1, .inl ⟨hk, by simp⟩⟩
    · rw [List.getElem?_set_ne (Ne.symm hj)] at e2
      obtain ⟨u', r', q⟩ := hl j y w e1 e2 e3
      have hyx : y ≠ x := fun e => hj (nodup_ix hN e1 (e ▸ hi))
      refine ⟨u', r', ?_⟩
      rcases q with ⟨k, e⟩ | ⟨k, c, e, z⟩
      · exact .inl ⟨k, by simp [hyx, e]⟩
      · exact .inr ⟨k, c, e, z.sameBut hsb (I1.cne y c e)⟩
  refine q1 pins _ (I2.tok (s1.toks + 1)) ⟨_, hn', fun q hq => ?_⟩ (Nat.le_succ _)
  rcases hT' q hq with ⟨h1, h2⟩ | rfl
  · obtain ⟨h3, h4⟩ := ht2 q h2
    exact ⟨by rw [em] at h3; simp [h1, h3], h4⟩
  · exact ⟨by simp, r1⟩
end
section
variable {P : Program} {w : World} {K : PySem.W.Frag} {mg : Str → Option Value} {base : Heap}
/-- a def keeps its raw promise by its body; T: what is held of the parameters -/
theorem fnT_of {x qual : Str} {st : Stmt} {f : Addr} {fd : FuncData} {dvs : List V} {N ps : List Str} {k : Nat} {sp : SpT} (F : FunD K x qual (defArgs st) (defBody st) (defScope st) dvs [] f fd) (S : FnScope N ps (defScope st)) (len : ∀ vs us M H Q, sp vs us M H Q → vs.length = ps.length)
    (hbody : ∀ (cdv : Value) (A : Around) (outer : List Env) (s : Shared) (H : Hp) (vs : List V) (us : List Value) (Q : V → Value → Nat → Hp → Prop), Room k (A.deeper (envOfC qual (defScope st) s.heap.objs.size f cdv)) → Vals vs us → sp vs us s.toks H Q →
      ∃ T : TT2, (∀ q ∈ T, ∃ j : Nat, ps[j]? = some q.1 ∧ vs[j]? = some q.2.1 ∧ us[j]? = some q.2.2 ∧ (defScope st).names.lookup q.1 = some .local) ∧
      WSF (cxOf CX0 P w K mg base N qual (defScope st) f cdv A outer s H (fun _ _ _ => False)).nox T s.toks (defBody st) { nx := fun _ M _ H' => Q .non .none M H', rt := Q } (start N vs) H) : FnT P w K mg base (k + 1) f fd ps sp := by
  obtain ⟨oc, od, dV, kV, doc, pm, an, cdv, ct, osl, rfl, lk, hcd, _, _⟩ := F.ex
  refine ⟨len, fun A outer s H args us vs Q hr e0 hb r hsp => ?_⟩
  have hl := len _ _ _ _ _ hsp
  have KX : K.In s.heap := e0.mod.kin.keeps fun b o e => (e0.bs b o e).1
  have lim : s.heap.NoLimit := e0.mod.nolimit.keeps fun b o e => (e0.bs b o e).1
  have hkind : ∀ y ∈ ps.zip us, (defScope st).names.lookup y.1 = some .local ∨ ((defScope st).names.lookup y.1 = some .cell ∧ ((cellsFrom (s.heap.objs.size + 1) (defScope st).names []).lookup y.1).isSome = true) := fun ⟨n, v⟩ hy =>
    (S.par n (List.of_mem_zip hy).1).imp id fun q => ⟨q, PySem.W.cellsFrom_some _ _ _ (.inl q)⟩
  refine codeAny_toks_of (Nat.le_refl s.toks) (R := fun r s' => s.toks ≤ s'.toks → CRT outer P w H s Q r s') ?_ |> fun h => codeAny_mono h fun r s' q => q.2 q.1
  refine codeAny_call_function hr.depth (KX _ _ lk) rfl S.co S.gen rfl (PySem.W.codeRec_of KX hcd) (hb _ _ _ _ ?_)
  refine PySem.wpAny_with_toks (Nat.le_refl s.toks) (wpAny_newFunctionEnv_cells S.kind hkind fun env he s1 xx n1 => ?_)
  subst he
  refine ⟨lim.keeps xx.toInCall.keep, codeAny_func ?_⟩
  obtain ⟨T, hT, hw⟩ := hbody cdv A outer s H vs us Q (hr.deeper _) r hsp
  have I : Inv (cxOf CX0 P w K mg base N qual (defScope st) f cdv A outer s H (fun _ _ _ => False)) [] (start N vs) H s1 := inv_start S hr.hd e0 hl r xx
  have t1 : TkH (cxOf CX0 P w K mg base N qual (defScope st) f cdv A outer s H (fun _ _ _ => False)).nox T s1 := by
    refine ⟨_, xx.toInCall.ns, fun q hq => ?_⟩
    obtain ⟨j, h1, h2, h3, h4⟩ := hT q hq
    have nd : ps.Nodup := by
      have e : ps = N.take ps.length := S.pre.symm
      rw [e]
      exact S.nd.sublist (List.take_sublist _ _)
    obtain ⟨u, e1, e2⟩ := Vals.get r h2
    rw [h3] at e1
    cases e1
    exact ⟨bindL_get nd h1 h3 h4, e2⟩
  refine wpAny_mono (hw [] s1 (I.wish _) t1 n1) (fun fl s' hs => ?_) fun e s' hs => hs.elim
  cases fl with
  | ret u =>
    obtain ⟨v, σ', H', J, rv, q⟩ := hs
    exact fun hn => ⟨v, H', J.os, J.bare, J.base, J.hok, rv, hn, q⟩
  | next =>
    obtain ⟨σ', H', T1, J, _, q⟩ := hs
    exact fun hn => ⟨.non, H', J.os, J.bare, J.base, J.hok, rfl, hn, q⟩
  | brk => exact hs.elim
  | cont => exact hs.elim
end
section
variable {X : Cx} {T T' : TT2} {N : Nat} {σ : L2.St} {H H' : Hp} {e a b' : Expr} {pos p : Pos} {s : Shared}
end
end K10
set_option maxHeartbeats 4000000
/-! Framed rules: tests, ints, subscripts of tuples. -/
namespace K10
open PySem PySem.Spec PyProof.Rows L2 SX
open C8 (Cal pe_c)
section
variable {X : Cx} {T T' : TT2} {N : Nat} {σ : L2.St} {H H' : Hp} {e a b' : Expr} {pos p : Pos} {s : Shared}
/-- gives b, changes nothing -/
def PureB (X : Cx) (t : Sem Value) (b : Bool) : Prop := ∀ (s : Shared) (Q : Value → Shared → Prop) (E : Value → Shared → Prop), Q (.bool b) s → wpAny (model X.prog X.w) X.A t Q E s
/-- gives the int z, draws a token -/
def PureI (X : Cx) (t : Sem Value) (z : Int) : Prop := ∀ (s : Shared) (Q : Value → Shared → Prop) (E : Value → Shared → Prop), Q (.int z s.toks) { s with toks := s.toks + 1 } → wpAny (model X.prog X.w) X.A t Q E s
theorem pb_eqI {i j : Int} {t u : Tok} : PureB X (compareOp .Eq (.int i t) (.int j u)) (i == j) := fun _ _ _ q => eq_int q
theorem pb_eqS {i j : Str} {t u : Tok} : PureB X (compareOp .Eq (.str i t) (.str j u)) (i == j) := fun _ _ _ q => eq_str q
theorem pb_gtI {i j : Int} {t u : Tok} : PureB X (compareOp .Gt (.int i t) (.int j u)) (decide (j < i)) := fun _ _ _ q => gt_int q
theorem pi_add {i j : Int} {t u : Tok} : PureI X (binaryOp .Add (.int i t) (.int j u)) (i + j) := fun _ _ _ q => add_int q
theorem pi_sub {i j : Int} {t u : Tok} : PureI X (binaryOp .Sub (.int i t) (.int j u)) (i - j) := fun _ _ _ q => sub_int q
theorem pi_mod {i j : Int} {t u : Tok} (h : 0 < j) : PureI X (binaryOp .Mod (.int i t) (.int j u)) (i % j) := fun _ _ _ q => mod_int' (by omega) (by rw [Int.fmod_eq_emod_of_nonneg i (by omega)]; exact q)
theorem wtf_cmp {op : CmpOp} {Q : Bool → Hp → Prop} (h : WEF X T N a σ H fun x u M H1 => WEF X T M b' σ H1 fun y v M2 H2 => ∃ c, PureB X (compareOp op u v) c ∧ Q c H2) (hm : behindInMarks op b' = false := by first | exact nomark _ | rfl) : WTF X T N (.Compare a [op] [b'] pos) σ H Q := .mk fun pins s I t n =>
  wpAny_isTrue_Compare1 (thn (h pins s I t n) fun u s1 ⟨x, H1, I1, r1, t1, n1, q1⟩ => thn (q1 pins s1 I1 t1 (Nat.le_refl _)) fun v s2 ⟨y, H2, I2, r2, t2, n2, c, pb, q⟩ => pb s2 _ _ (wpAny_truthy_bool ⟨H2, I2, t2, Nat.le_trans n1 n2, q⟩)) hm
theorem wtf_mono {Q Q' : Bool → Hp → Prop} (h : WTF X T N e σ H Q) (k : ∀ b H1, Q b H1 → Q' b H1) : WTF X T N e σ H Q' := .mk fun pins s I t n => thn (h pins s I t n) fun b s1 ⟨H1, I1, t1, n1, q⟩ => ⟨H1, I1, t1, n1, k b H1 q⟩
/-- a op b, ints -/
theorem wef_opI {op : Operator} {Q : V → Value → Nat → Hp → Prop} (h : WEF X T N a σ H fun x u M H1 => WEF X T M b' σ H1 fun y v M2 H2 => ∃ z, PureI X (binaryOp op u v) z ∧ ∀ t M3, M2 ≤ M3 → Q (.int z) (.int z t) M3 H2) : WEF X T N (.BinOp a op b' pos) σ H Q := .mk fun pins s I t n =>
  wpAny_BinOp (thn (h pins s I t n) fun u s1 ⟨x, H1, I1, r1, t1, n1, q1⟩ => thn (q1 pins s1 I1 t1 (Nat.le_refl _)) fun v s2 ⟨y, H2, I2, r2, t2, n2, z, pi, q⟩ => pi s2 _ _ ⟨.int z, H2, I2.tok _, ⟨_, rfl⟩, t2.tok, Nat.le_succ_of_le (Nat.le_trans n1 n2), q _ _ (Nat.le_succ _)⟩)
/-- the same with data: an int, whatever its token -/
def WI (X : Cx) (T : TT2) (N : Nat) (e : Expr) (σ : L2.St) (H : Hp) (z : Int) : Prop := ∀ (N' : Nat) (H' : Hp), N ≤ N' → Same H H' → WEF X T N' e σ H' fun v u M H1 => Same H' H1 ∧ v = .int z ∧ (∃ t, u = .int z t) ∧ N' ≤ M
theorem wi_int {i : Int} {j : Nat} : WI X T N (.Constant (.int i) j pos) σ H i := fun N' H' _ _ => wef_int fun t M hM => ⟨Same.refl _, rfl, ⟨t, rfl⟩, by omega⟩
theorem wi_v {x : Str} {i : Int} (j : Nat) (h : σ[j]? = some (some (.int i))) (hN : X.N[j]? = some x := by rfl) (hk : X.env.scope.names.lookup x = some .local := by rfl) (hd : (x == ("__debug__" : Str)) = false := by decide) : WI X T N (.Name x pos) σ H i := fun N' H' _ _ => wef_v j h (fun u M r hM => ⟨Same.refl _, rfl, r, hM⟩) hN hk hd
theorem wi_op {op : Operator} {i j z : Int} (ha : WI X T N a σ H i) (hb : WI X T N b' σ H j) (ho : ∀ t u, PureI X (binaryOp op (.int i t) (.int j u)) z) : WI X T N (.BinOp a op b' pos) σ H z := fun N' H' hn hs => wef_opI ((ha N' H' hn hs).mono fun v u M H1 hM ⟨s1, e1, ⟨t, e2⟩, n1⟩ => (hb M H1 (Nat.le_trans hn n1) (hs.trans s1)).mono fun v2 u2 M2 H2 hM2 ⟨s2, e3, ⟨t2, e4⟩, n2⟩ => ⟨z, by rw [e2, e4]; exact ho t t2, fun t M3 h3 => ⟨s1.trans s2, rfl, ⟨t, rfl⟩, by omega⟩⟩)
theorem wt_eqI {i j : Int} {Q : Bool → Hp → Prop} (ha : WI X T N a σ H i) (hb : WI X T N b' σ H j) (q : ∀ H1, Same H H1 → Q (decide (i = j)) H1) : WTF X T N (.Compare a [.Eq] [b'] pos) σ H Q :=
  wtf_cmp ((ha N H (Nat.le_refl _) (Same.refl H)).mono fun v u M H1 hM ⟨s1, e1, ⟨t, e2⟩, n1⟩ => (hb M H1 n1 s1).mono fun v2 u2 M2 H2 hM2 ⟨s2, e3, ⟨t2, e4⟩, n2⟩ => ⟨i == j, by rw [e2, e4]; exact pb_eqI, by
    have : (i == j) = decide (i = j) := by rw [Bool.eq_iff_iff]; simp
    rw [this]; exact q H2 (s1.trans s2)⟩)
end
end K10
set_option maxHeartbeats 4000000
/-! Framed rules: int(..), signs of texts, list displays, drawn numbers. -/
namespace K10
open PySem PySem.Spec PyProof.Rows L2 SX
open C8 (Cal pe_c)
section
variable {X : Cx} {T T' : TT2} {N : Nat} {σ : L2.St} {H H' : Hp} {e a b' : Expr} {pos p p2 : Pos} {s : Shared}
/-- int(e), e an int: the value itself -/
theorem wef_intc {Q : V → Value → Nat → Hp → Prop} (h : WEF X T N e σ H fun v u M H1 => (∃ z t, v = .int z ∧ u = .int z t) ∧ ∀ M2, M ≤ M2 → Q v u M2 H1) (hm : X.mg "int" = none) (hg : Gl X "int" := by rfl) (he : starEach [e] X.env = (false, eval e X.env) :: starEach [] X.env := by exact star_cons (by rfl)) (hpl : (backTo pos (starEach [] X.env)).any (·.1) = false := by exact star_any (by rfl)) : WEF X T N (.Call (.Name "int" p) [e] [] pos) σ H Q := .mk fun pins s I t n => by
  refine wpAny_Call_Name_kw (ld_blt (u := .type "int") I hg hm (by decide +kernel) ?_ (by decide) (by decide))
  refine PyProof.Rows.callWith_type1 (thn ((waf_cons (T := T) (N := N) (Q := fun xs us M H1 => ∃ v u, xs = [v] ∧ us = [u] ∧ (∃ z t, v = .int z ∧ u = .int z t) ∧ Q v u M H1) (h.mono fun v u M H1 hM ⟨e1, q⟩ => waf_nil fun M2 hM2 => ⟨v, u, rfl, rfl, e1, q M2 hM2⟩) he) pos pins s I t n) fun us s1 ⟨vs, H1, I1, r1, t1, n1, v, u, e1, e2, ⟨z, tt, e3, e4⟩, q⟩ => ?_) he hpl
  subst e1 e2 e3 e4
  exact call_int_int ⟨.int z, H1, I1, ⟨_, rfl⟩, t1, n1, q⟩
/-- z[i], a text in a held or plain name: the sign has a token of its own -/
theorem wef_ixS {Q : V → Value → Nat → Hp → Prop} {z : Str} (hz : z.length ≤ 1000000) (h : WEF X T N a σ H fun v u M H1 => v = .str z ∧ WEF X T M b' σ H1 fun y w M2 H2 => ∃ i : Nat, y = .int (i : Int) ∧ ∃ c, z.cps.toList[i]? = some c ∧ ∀ t, M2 ≤ t → Q (.str ⟨#[c]⟩) (.str ⟨#[c]⟩ t) (t + 1) H2) (hs : PlainIx b' := by exact fun _ _ => rfl) : WEF X T N (.Subscript a b' pos) σ H Q := .mk fun pins s I t n => by
  refine Subscript_ (thn (h pins s I t n) fun u s1 ⟨x, H1, I1, r1, t1, n1, e1, q1⟩ => thn (q1 pins s1 I1 t1 (Nat.le_refl _)) fun w s2 ⟨y, H2, I2, r2, t2, n2, i, e2, c, hc, q⟩ => ?_)
  subst e1 e2
  obtain ⟨tz, rfl⟩ := r1
  obtain ⟨ti, rfl⟩ := r2
  obtain ⟨hi, _⟩ := List.getElem?_eq_some_iff.mp hc
  have hl : z.cps.toList.length = z.length := by simp [Str.length]
  rw [hl] at hi
  have h1 : seqIndex? (i : Int) z.length = some i := by
    have := seqIndex_of (n := z.length) (k := (i : Int)) (by omega) (by omega)
    rw [this, Int.toNat_natCast]
  exact tail_any (typeIs_str s2 z tz) slot_str_getitem.lookup (getItem_str (c := c) (by
    have e1 : decide ((i : Int) < -(2 ^ 63 : Int)) = false := decide_eq_false (by omega)
    have e2 : decide ((i : Int) ≥ 2 ^ 63) = false := decide_eq_false (by omega)
    rw [e1, e2, Bool.or_false]) (by rw [h1]; simpa using hc) ⟨.str ⟨#[c]⟩, H2, I2.tok _, ⟨_, rfl⟩, t2.tok, by show N ≤ s2.toks + 1; omega, q s2.toks (Nat.le_refl _)⟩) (hs _ _)
/-- a drawn number, names held -/
theorem wef_pick {j : Nat} {x : Str} {dd : Addr} {n : Nat} {Q : V → Value → Nat → Hp → Prop} (C : Cal X.prog X.w X.K X.mg X.base 2 "_law_pick" (spPick X.K) []) (hr : Room j X.A) (i : Nat) (hσ : σ[i]? = some (some (.ref dd))) (hd : DrawOk X.K H dd) (he : WI X T N e σ H (n : Int)) (hn1 : 1 ≤ n) (hn2 : n < 1000000)
    (q : ∀ (r : Nat) t M H1, r < n → N ≤ M → Same H H1 → Q (.int (r : Int)) (.int (r : Int) t) M H1) (hk : 2 ≤ j := by decide) (hN : X.N[i]? = some x := by rfl) (hkn : X.env.scope.names.lookup x = some .local := by rfl) (hdb : (x == ("__debug__" : Str)) = false := by decide) (hg : Gl X "_law_pick" := by rfl)
    (hs : starEach [.Name x p2, e] X.env = (false, eval (.Name x p2) X.env) :: starEach [e] X.env := by exact star_cons (by rfl)) (hs2 : starEach [e] X.env = (false, eval e X.env) :: starEach [] X.env := by exact star_cons (by rfl)) (hpl : (backTo pos (starEach [e] X.env)).any (·.1) = false := by exact star_any (by rfl)) :
    WEF X T N (.Call (.Name "_law_pick" p) [.Name x p2, e] [] pos) σ H Q := by
  refine wef_call (CalT.of C) hr hk hg (waf_cons (wef_v i hσ (fun u M r hM => waf_cons ((he M H hM (Same.refl H)).mono fun v2 u2 M2 H2 hM2 ⟨s2, e1, ⟨t, e2⟩, _⟩ => waf_nil fun M3 hM3 ds hds => ?_) hs2) hN hkn hdb) hs) (by decide) hs hpl
  cases hds
  subst e1
  refine ⟨dd, (n : Int), rfl, hd.same s2, by omega, by omega, fun r H3 h1 h2 s3 u M4 ru hM4 => ?_⟩
  obtain ⟨t4, rfl⟩ := ru
  have e : ((r.toNat : Nat) : Int) = r := by omega
  have := q r.toNat t4 M4 H3 (by omega) (by omega) (s2.trans s3)
  rw [e] at this
  exact this
/-- len(z), a text -/
theorem wi_lenS {z : Str} {x : Str} (i : Nat) (hσ : σ[i]? = some (some (.str z))) (hz : z.length ≤ 1000000) (hm : X.mg "len" = none) (hN : X.N[i]? = some x := by rfl) (hk : X.env.scope.names.lookup x = some .local := by rfl) (hdb : (x == ("__debug__" : Str)) = false := by decide) (hg : Gl X "len" := by rfl)
    (he : starEach [.Name x p2] X.env = (false, eval (.Name x p2) X.env) :: starEach [] X.env := by exact star_cons (by rfl)) (hpl : (backTo pos (starEach [] X.env)).any (·.1) = false := by exact star_any (by rfl)) : WI X T N (.Call (.Name "len" p) [.Name x p2] [] pos) σ H (z.length : Nat) := fun N' H' hn hs => .mk fun pins s I t n => by
  refine wpAny_Call_Name_kw (ld_blt I hg hm boot_len ?_ (by decide) (by decide))
  refine PyProof.Rows.callWith_builtin1 (thn ((waf_cons (T := T) (N := N') (Q := fun xs us M H1 => H1 = H' ∧ ∃ tz, us = [.str z tz]) (wef_v i hσ (fun u M r hM => waf_nil fun M2 hM2 => ⟨rfl, by obtain ⟨tz, e⟩ := r; exact ⟨tz, by rw [e]⟩⟩) hN hk hdb) he) pos pins s I t n) fun us s1 ⟨vs, H1, I1, r1, t1, n1, e1, tz, e2⟩ => ?_) he hpl
  subst e1 e2
  exact len_str (by have := line63; have := sizeLine_eq; omega) ⟨.int _, H1, I1.tok _, ⟨_, rfl⟩, t1.tok, (by show N' ≤ s1.toks + 1 + 1; omega), Same.refl _, rfl, ⟨_, rfl⟩, (by show N' ≤ s1.toks + 1 + 1; omega)⟩
end
end K10
set_option maxHeartbeats 4000000
/-! Steps drawn, their kinds' tokens known. -/
namespace K10
open PySem PySem.Spec PyProof.Rows L2 SX
open C8 (Cal pe_c)
section
variable {X : Cx} {T T' : TT2} {N : Nat} {σ : L2.St} {H H' : Hp} {e a b' : Expr} {pos p p2 : Pos} {s : Shared}
/-- one of several ints; at least d tokens are drawn on the way -/
def WZ (X : Cx) (T : TT2) (N : Nat) (e : Expr) (σ : L2.St) (H : Hp) (d : Nat) (Φ : Int → Prop) : Prop := ∀ (N' : Nat) (H' : Hp), N ≤ N' → Same H H' → WEF X T N' e σ H' fun v u M H1 => Same H' H1 ∧ N' + d ≤ M ∧ ∃ z t, v = .int z ∧ u = .int z t ∧ Φ z
theorem wz_wi {z : Int} (h : WI X T N e σ H z) : WZ X T N e σ H 0 fun x => x = z := fun N' H' hn hs => (h N' H' hn hs).mono fun v u M H1 hM ⟨s1, e1, ⟨t, e2⟩, n1⟩ => ⟨s1, n1, z, t, e1, e2, rfl⟩
theorem wz_int {i : Int} {j : Nat} : WZ X T N (.Constant (.int i) j pos) σ H 1 fun x => x = i := fun N' H' _ _ => wef_int fun t M hM => ⟨Same.refl _, hM, i, t, rfl, rfl, rfl⟩
theorem wz_op {op : Operator} {d1 d2 : Nat} {Φ1 Φ2 Φ : Int → Prop} (ha : WZ X T N a σ H d1 Φ1) (hb : WZ X T N b' σ H d2 Φ2) (ho : ∀ i j, Φ1 i → Φ2 j → ∃ z, (∀ t u, PureI X (binaryOp op (.int i t) (.int j u)) z) ∧ Φ z) : WZ X T N (.BinOp a op b' pos) σ H (d1 + d2) Φ := fun N' H' hn hs =>
  wef_opI ((ha N' H' hn hs).mono fun v u M H1 hM ⟨s1, n1, i, t, e1, e2, p1⟩ => (hb M H1 (by omega) (hs.trans s1)).mono fun v2 u2 M2 H2 hM2 ⟨s2, n2, j, t2, e3, e4, p2⟩ => by
    obtain ⟨z, pz, ph⟩ := ho i j p1 p2
    exact ⟨z, by rw [e2, e4]; exact pz t t2, fun t M3 h3 => ⟨s1.trans s2, by omega, z, t, rfl, rfl, ph⟩⟩)
theorem wz_pick {j : Nat} {x : Str} {dd : Addr} {n : Nat} (C : Cal X.prog X.w X.K X.mg X.base 2 "_law_pick" (spPick X.K) []) (hr : Room j X.A) (i : Nat) (hσ : σ[i]? = some (some (.ref dd))) (hd : DrawOk X.K H dd) (he : WI X T N e σ H (n : Int)) (hn1 : 1 ≤ n) (hn2 : n < 1000000)
    (hk : 2 ≤ j := by decide) (hN : X.N[i]? = some x := by rfl) (hkn : X.env.scope.names.lookup x = some .local := by rfl) (hdb : (x == ("__debug__" : Str)) = false := by decide) (hg : Gl X "_law_pick" := by rfl)
    (hs : starEach [.Name x p2, e] X.env = (false, eval (.Name x p2) X.env) :: starEach [e] X.env := by exact star_cons (by rfl)) (hs2 : starEach [e] X.env = (false, eval e X.env) :: starEach [] X.env := by exact star_cons (by rfl)) (hpl : (backTo pos (starEach [e] X.env)).any (·.1) = false := by exact star_any (by rfl)) :
    WZ X T N (.Call (.Name "_law_pick" p) [.Name x p2, e] [] pos) σ H 0 (fun z => ∃ r : Nat, r < n ∧ z = (r : Int)) := fun N' H' hn hsm =>
  wef_pick C hr i hσ (hd.same hsm) (fun N2 H2 h1 h2 => he N2 H2 (Nat.le_trans hn h1) (hsm.trans h2)) hn1 hn2 (fun r t M H1 h1 h2 h3 => ⟨h3, h2, (r : Int), t, rfl, rfl, r, h1, rfl⟩) hk hN hkn hdb hg hs hs2 hpl
theorem wz_intc {d : Nat} {Φ : Int → Prop} (h : WZ X T N e σ H d Φ) (hm : X.mg "int" = none) (hg : Gl X "int" := by rfl) (he : starEach [e] X.env = (false, eval e X.env) :: starEach [] X.env := by exact star_cons (by rfl)) (hpl : (backTo pos (starEach [] X.env)).any (·.1) = false := by exact star_any (by rfl)) : WZ X T N (.Call (.Name "int" p) [e] [] pos) σ H d Φ := fun N' H' hn hs =>
  wef_intc ((h N' H' hn hs).mono fun v u M H1 hM ⟨s1, n1, z, t, e1, e2, p1⟩ => ⟨⟨z, t, e1, e2⟩, fun M2 h2 => ⟨s1, by omega, z, t, e1, e2, p1⟩⟩) hm hg he hpl
theorem wi_lenL {l : List Nat} {x : Str} (i : Nat) (hσ : σ[i]? = some (some (.str (S l)))) (hz : l.length ≤ 1000000) (hm : X.mg "len" = none) (hN : X.N[i]? = some x := by rfl) (hk : X.env.scope.names.lookup x = some .local := by rfl) (hdb : (x == ("__debug__" : Str)) = false := by decide) (hg : Gl X "len" := by rfl)
    (he : starEach [.Name x p2] X.env = (false, eval (.Name x p2) X.env) :: starEach [] X.env := by exact star_cons (by rfl)) (hpl : (backTo pos (starEach [] X.env)).any (·.1) = false := by exact star_any (by rfl)) : WI X T N (.Call (.Name "len" p) [.Name x p2] [] pos) σ H (l.length : Nat) := by
  have := wi_lenS (X := X) (T := T) (N := N) (σ := σ) (H := H) (p := p) (p2 := p2) (pos := pos) i hσ (by rw [S_len]; exact hz) hm hN hk hdb hg he hpl
  rw [S_len] at this
  exact this
/-- x = an int -/
theorem wsf_setZ {x : Str} {pos' : Pos} {d : Nat} {Φ : Int → Prop} {rest : List Stmt} {D : EndF} (i : Nat) (hN : X.N.Nodup) (h : WZ X T N e σ H d Φ) (hT : ∀ q ∈ T, q.1 ≠ x) (k : ∀ z M H1, Φ z → Same H H1 → N + d ≤ M → WSF X T M rest D (σ.set i (some (.int z))) H1) (hi : X.N[i]? = some x := by rfl) (hk : X.env.scope.names.lookup x = some .local := by rfl)
    (hs : swapsWith e (some (.Name x pos')) pos.line X.env = pure false := by rfl) : WSF X T N (.Assign [.Name x pos'] e pos :: rest) D σ H :=
  wsf_set i hN ((h N H (Nat.le_refl _) (Same.refl H)).mono fun v u M H1 hM ⟨s1, n1, z, t, e1, e2, p1⟩ => ⟨T, fun q hq => .inl ⟨hT q hq, hq⟩, by rw [e1]; exact k z M H1 p1 s1 n1⟩) hi hk hs
end
/-- what a step may name -/
def whatOk (c : Nat) : Prop := c ∈ LET ∨ c = 42 ∨ c = 126
/-- a step's tuple, its text's token good -/
def StepAt (K : PySem.W.Frag) (M : Nat) (H : Hp) (a : Addr) (x : Nat × Nat × Nat) : Prop := ∃ (o : Obj) (n : Nat) (t t1 t2 : Tok), H a = some (.frz o (.tup [.str (S [x.1]), .int (x.2.1 : Int), .int (x.2.2 : Int)])) ∧ o.cls = .type "tuple" ∧ o.data = .seq [Value.str (S [x.1]) t, .int (x.2.1 : Int) t1, .int (x.2.2 : Int) t2].toArray n ∧ Gtok M t
section
variable {P : Program} {w : World} {K : PySem.W.Frag} {mg : Str → Option Value} {base : Heap}
def spStep (K : PySem.W.Frag) : SpT := fun vs us N H Q => ∃ (dd : Addr) (n : Nat) (l : List Nat), vs = [.ref dd, .int (n : Int), .str (S l)] ∧ DrawOk K H dd ∧ 2 ≤ n ∧ n ≤ 6 ∧ l ≠ [] ∧ l.length ≤ 100 ∧ (∀ c ∈ l, c ∈ LET) ∧
  ∀ a x M H', N ≤ M → Same H H' → StepAt K M H' a x → whatOk x.1 → stepOk n x → Q (.ref a) (.ref a) M H'
theorem c_step (V : Ev mg) (G : Gd K mg "_law_step" s_L_step) (Cp : Cal P w K mg base 2 "_law_pick" (spPick K) []) : CalT P w K mg base 3 "_law_step" (spStep K) [] := by
  obtain ⟨f, fd, F, g⟩ := G.ex
  refine ⟨f, fd, p_L_step, [], ?_, g, F.kp, F.bindsN (fun _ _ _ _ _ _ us hl => match us, hl with | [_, _, _], _ => rfl), .nil⟩
  refine fnT_of F sc_L_step (fun vs us M H Q ⟨_, _, _, h, _⟩ => by rw [h]; rfl) fun cdv A outer s H vs us Q hr hv h => ⟨[], (fun q hq => by cases hq), ?_⟩
  obtain ⟨dd, n, l, rfl, hd, hn2, hn6, hl0, hl1, hl2, hk⟩ := h
  have hN := sc_L_step.nd
  generalize s.toks = N0 at hk
  refine wsf_setZ 3 hN (wz_pick Cp hr 0 rfl hd (wi_v 1 rfl) (by omega) (by omega)) (fun q hq => by cases hq) fun z1 M1 H1 ⟨r1, hr1, e1⟩ s1 n1 => ?_
  subst e1
  refine wsf_setZ (Φ := fun z => ∃ r2 : Nat, r2 < n - 1 ∧ z = ((r1 : Int) + 1 + r2) % n) 4 hN (wz_op (wz_intc (wz_op (wz_op (wz_wi (wi_v 3 rfl)) wz_int (Φ := fun z => z = (r1 : Int) + 1) fun i j hi hj => ⟨i + j, fun _ _ => pi_add, by rw [hi, hj]⟩) (wz_pick (n := n - 1) Cp hr 0 rfl (hd.same s1) (show WI _ _ _ _ _ _ ((n - 1 : Nat) : Int) by
      rw [show ((n - 1 : Nat) : Int) = (n : Int) - 1 by omega]
      exact wi_op (wi_v 1 rfl) wi_int fun _ _ => pi_sub) (by omega) (by omega)) (Φ := fun z => ∃ r2 : Nat, r2 < n - 1 ∧ z = (r1 : Int) + 1 + r2) fun i j hi ⟨r2, h2, hj⟩ => ⟨i + j, fun _ _ => pi_add, r2, h2, by rw [hi, hj]⟩) V.int) (wz_wi (wi_v 1 rfl)) fun i j ⟨r2, h2, hi⟩ hj => ⟨i % j, fun _ _ => pi_mod (by omega), r2, h2, by rw [hi, hj]⟩) (fun q hq => by cases hq) fun z2 M2 H2 ⟨r2, hr2, e2⟩ s2 n2 => ?_
  have s12 := s1.trans s2
  have hM2 : 1 ≤ M2 := by omega
  obtain ⟨two, htwo, hne, hz2⟩ : ∃ two : Nat, two < n ∧ r1 ≠ two ∧ z2 = (two : Int) := by
    refine ⟨(r1 + 1 + r2) % n, Nat.mod_lt _ (by omega), ?_, ?_⟩
    · by_cases h : r1 + 1 + r2 < n
      · rw [Nat.mod_eq_of_lt h]; omega
      · rw [Nat.mod_eq_sub_mod (by omega), Nat.mod_eq_of_lt (by omega)]; omega
    · rw [e2, Int.natCast_emod]
      congr 1
  subst hz2
  have hlp : 0 < l.length := List.length_pos_iff.mpr hl0
  refine wsf_set 5 hN (wef_ixS (z := S l) (by rw [S_len]; omega) (wef_v 2 rfl fun u M hu hM => ⟨rfl, wef_pick (n := l.length) Cp hr 0 rfl (hd.same s12) (wi_lenL 2 rfl (by omega) V.len) (by omega) (by omega) fun r3 t3 M3 H3 hr3 hM3 s3 => ⟨r3, rfl, l[r3], by simp [hr3], fun t4 ht4 => ⟨[("_law_what", .str (S [l[r3]]), .str (S [l[r3]]) t4)], (fun q hq => .inr (by simpa using hq)), ?_⟩⟩⟩))
  have s13 := s12.trans s3
  -- the tuple
  have fin : ∀ (c : Nat) (t : Tok) (M : Nat) (H5 : Hp) (x6 : Option L2.V) (v5 : L2.V), N0 ≤ M → Gtok M t → Same H H5 → whatOk c → WSF (cxOf CX0 P w K mg base n_L_step "_law_step" (defScope s_L_step) f cdv A outer s H (fun _ _ _ => False)).nox [("_law_what", .str (S [c]), .str (S [c]) t)] M ((defBody s_L_step).drop 6) { nx := fun _ M _ H' => Q .non .none M H', rt := Q } [some (.ref dd), some (.int (n : Int)), some (.str (S l)), some (.int (r1 : Int)), some (.int (two : Int)), some v5, x6] H5 := fun c t M H5 x6 v5 hM ht hs hw => by
    refine wsf_ret (wef_tupZ (waf_cons (wef_t (v := .str (S [c])) (u := .str (S [c]) t) (List.mem_singleton.mpr rfl) fun M2 h2 => waf_cons (wef_v 3 rfl fun u3 M3 e3 h3 => waf_cons (wef_v 4 rfl fun u4 M4 e4 h4 => waf_nil fun M5 h5 => ⟨by simp, fun p hp => ?_⟩)))))
    obtain ⟨t3, rfl⟩ := e3
    obtain ⟨t4, rfl⟩ := e4
    exact hk p (c, r1, two) M5 _ (by omega) (hs.trans (same_new hp)) ⟨_, _, t, t3, t4, upd_same, rfl, rfl, ht.1, Nat.lt_of_lt_of_le ht.2 (by omega)⟩ hw ⟨hr1, htwo, hne⟩
  have fin2 : ∀ (c : Nat) (t : Tok) (M : Nat) (H5 : Hp) (z6 : Int) (v5 : L2.V), N0 ≤ M → Gtok M t → Same H H5 → whatOk c → WSF (cxOf CX0 P w K mg base n_L_step "_law_step" (defScope s_L_step) f cdv A outer s H (fun _ _ _ => False)).nox [("_law_what", .str (S [c]), .str (S [c]) t)] M ((defBody s_L_step).drop 5) { nx := fun _ M _ H' => Q .non .none M H', rt := Q } [some (.ref dd), some (.int (n : Int)), some (.str (S l)), some (.int (r1 : Int)), some (.int (two : Int)), some v5, some (.int z6)] H5 := fun c t M H5 z6 v5 hM ht hs hw => by
    refine wsf_if (wt_eqI (wi_v 6 rfl) wi_int fun H6 s6 => ?_)
    by_cases hz : z6 = 8
    · rw [if_pos (by simpa using hz)]
      refine wsf_set 5 hN (wef_str fun t' ht' => ⟨[("_law_what", .str (S [126]), .str (S [126]) t')], (fun q hq => .inr (by rw [tilde_S]; simpa using hq)), wsf_nil fun M2 h2 => fin 126 t' M2 H6 _ _ (by omega) ⟨by intro e; rw [e] at ht'; exact absurd (Nat.lt_of_lt_of_le ht.2 ht') (Nat.not_lt_zero _), h2⟩ (hs.trans s6) (.inr (.inr rfl))⟩)
    · rw [if_neg (by simpa using hz)]
      exact wsf_nil fun M2 h2 => fin c t M2 H6 _ _ (by omega) ⟨ht.1, Nat.lt_of_lt_of_le ht.2 h2⟩ (hs.trans s6) hw
  refine wsf_setZ 6 hN (wz_pick (n := 9) Cp hr 0 rfl (hd.same s13) (show WI _ _ _ _ _ _ ((9 : Nat) : Int) from wi_int) (by decide) (by decide)) (fun q hq => by rw [List.mem_singleton.mp hq]; show (PySem.Str.ofString "_law_what") ≠ PySem.Str.ofString "_law_way"; decide) fun z6 M6 H6 _ s6 n6 => ?_
  have ht4' : Gtok M6 t4 := ⟨by intro e; rw [e] at ht4; omega, Nat.lt_of_lt_of_le (Nat.lt_succ_self t4) (by omega)⟩
  have hc : whatOk l[r3] := .inl (hl2 _ (List.getElem_mem hr3))
  refine wsf_if (wt_eqI (wi_v 6 rfl) wi_int fun H7 s7 => ?_)
  by_cases hz : z6 = 7
  · rw [if_pos (by simpa using hz)]
    refine wsf_set 5 hN (wef_str fun t' ht' => ⟨[("_law_what", .str (S [42]), .str (S [42]) t')], (fun q hq => .inr (by rw [star_S]; simpa using hq)), wsf_nil fun M2 h2 => fin2 42 t' M2 H7 _ _ (by omega) ⟨by intro e; rw [e] at ht'; exact absurd (Nat.lt_of_lt_of_le ht4'.2 ht') (Nat.not_lt_zero _), h2⟩ (s13.trans (s6.trans s7)) (.inr (.inl rfl))⟩)
  · rw [if_neg (by simpa using hz)]
    exact wsf_nil fun M2 h2 => fin2 _ t4 M2 H7 _ _ (by omega) ⟨ht4'.1, Nat.lt_of_lt_of_le ht4'.2 h2⟩ (s13.trans (s6.trans s7)) hc
end
end K10
set_option maxHeartbeats 4000000
/-! Framed rules: items of known tuples. -/
namespace K10
open PySem PySem.Spec PyProof.Rows L2 SX
open C8 (Cal pe_c)
section
variable {X : Cx} {T T' : TT2} {N : Nat} {σ : L2.St} {H H' : Hp} {e a b' : Expr} {pos p p2 : Pos} {s : Shared}
/-- the tuple at q is known: its items -/
def Ktup (H : Hp) (q : Addr) (xs : List V) (its : List Value) : Prop := ∃ (o : Obj) (n : Nat), H q = some (.frz o (.tup xs)) ∧ o.cls = .type "tuple" ∧ o.data = .seq its.toArray n
theorem Ktup.same {q : Addr} {xs : List V} {its : List Value} (h : Ktup H q xs its) (s : Same H H') : Ktup H' q xs its := by
  obtain ⟨o, n, h1, h2⟩ := h
  exact ⟨o, n, s _ _ h1, h2⟩
theorem Ktup.is {q : Addr} {xs : List V} {its : List Value} {pins : List (Addr × Obj)} (h : Ktup H q xs its) (I : Inv X pins σ H s) : Vals xs its ∧ s.heap.IsTuple q its.toArray ∧ xs.length ≤ sizeLine := by
  obtain ⟨o, n, h1, h2, h3⟩ := h
  obtain ⟨e1, hz, its', hv, ht⟩ := I.hok q _ h1
  obtain ⟨o', g1, g2, n', g3⟩ := id ht
  rw [e1] at g1
  cases g1
  rw [h3] at g3
  cases g3
  exact ⟨hv, ⟨o, e1, h2, n, h3⟩, hz⟩
/-- e[i], e the known tuple at q: the very item -/
theorem wef_ixK {Q : V → Value → Nat → Hp → Prop} {q : Addr} {xs : List V} {its : List Value} {i : Nat} {v : V} {u : Value} (h : WEF X T N a σ H fun x w M H1 => x = .ref q ∧ Ktup H1 q xs its ∧ WEF X T M b' σ H1 fun y w2 M2 H2 => y = .int (i : Int) ∧ Same H1 H2 ∧ Q v u M2 H2) (hi : xs[i]? = some v) (hu : its[i]? = some u) (hs : PlainIx b' := by exact fun _ _ => rfl) : WEF X T N (.Subscript a b' pos) σ H Q := .mk fun pins s I t n => by
  refine Subscript_ (thn (h pins s I t n) fun w s1 ⟨x, H1, I1, r1, t1, n1, e1, kt, q1⟩ => thn (q1 pins s1 I1 t1 (Nat.le_refl _)) fun w2 s2 ⟨y, H2, I2, r2, t2, n2, e2, sm, q2⟩ => ?_)
  subst e1 e2
  obtain rfl : w = Value.ref q := r1
  obtain ⟨ti, rfl⟩ := r2
  obtain ⟨hv, pl, hz⟩ := (kt.same sm).is I2
  have hl := hv.length
  have hn := line63
  have hlt : i < its.length := (List.getElem?_eq_some_iff.mp hu).1
  have hr : RelV v u := by
    obtain ⟨u', e1, e2⟩ := hv.get hi
    rw [hu] at e1
    cases e1
    exact e2
  have h1 : seqIndex? (i : Int) its.toArray.size = some i := by
    have := seqIndex_of (n := its.toArray.size) (k := (i : Int)) (by omega) (by rw [List.size_toArray]; omega)
    rw [this, Int.toNat_natCast]
  exact subscriptTail_builtinR (x := u) pl.typeIs slot_tuple_getitem.lookup
    (getItem_tuple (j := i) (Q := fun r s' => r = u ∧ (∃ x H1, Inv X pins σ H1 s' ∧ RelV x r ∧ TkH X T s' ∧ N ≤ s'.toks ∧ Q x r s'.toks H1)) pl (by omega) (by omega) h1 (by simpa using hu) ⟨rfl, v, H2, I2, hr, t2, Nat.le_trans n1 n2, q2⟩) (hs _ _)
/-- a local name is stored: the state, the names held -/
theorem store_step {pins : List (Addr × Obj)} {i : Nat} {x : Str} {v : V} {u : Value} {Q : Unit → Shared → Prop} {E : Value → Shared → Prop} (I : Inv X pins σ H s) (t : TkH X T s) (hN : X.N.Nodup) (hi : X.N[i]? = some x) (hk : X.env.scope.names.lookup x = some .local) (r : RelV v u)
    (q : ∀ s', Inv X pins (σ.set i (some v)) H s' → (∀ T' : TT2, (∀ q ∈ T', (q.1 ≠ x ∧ q ∈ T) ∨ q = (x, v, u)) → TkH X T' s') → s.toks ≤ s'.toks → Q () s') : wpAny (model X.prog X.w) X.A (storeName X.env x u) Q E s := by
  obtain ⟨m, hm, hl⟩ := I.loc
  obtain ⟨m2, hm2, ht2⟩ := t
  have em : ∀ y, m2 y = m y := fun y => hm2.agree hm y
  refine wpAny_storeName_local hk hm (fun h' hn' hsb => ?_) (by rw [I.ok.kind]; rfl)
  have hiσ : i < σ.length := by rw [I.len]; exact (List.getElem?_eq_some_iff.mp hi).1
  have I2 : Inv X pins (σ.set i (some v)) H { s with heap := h' } := Inv.stored I hsb hn' (by simp) fun j y w e1 e2 e3 => by
    by_cases hj : j = i
    · subst hj
      rw [hi] at e1
      cases e1
      rw [List.getElem?_set_self hiσ] at e2
      cases e2
      exact ⟨u, r, .inl ⟨hk, by simp⟩⟩
    · rw [List.getElem?_set_ne (Ne.symm hj)] at e2
      obtain ⟨u', r', q⟩ := hl j y w e1 e2 e3
      have hyx : y ≠ x := fun e => hj (nodup_ix hN e1 (e ▸ hi))
      refine ⟨u', r', ?_⟩
      rcases q with ⟨k, e⟩ | ⟨k, c, e, z⟩
      · exact .inl ⟨k, by simp [hyx, e]⟩
      · exact .inr ⟨k, c, e, z.sameBut hsb (I.cne y c e)⟩
  refine q _ (I2.tok (s.toks + 1)) (fun T' hT' => ⟨_, hn', fun q hq => ?_⟩) (Nat.le_succ _)
  rcases hT' q hq with ⟨h1, h2⟩ | rfl
  · obtain ⟨h3, h4⟩ := ht2 q h2
    exact ⟨by rw [em] at h3; simp [h1, h3], h4⟩
  · exact ⟨by simp, r⟩
variable {rest : List Stmt} {D : EndF}
/-- a, b, c = e, e a tuple: the three items, names held by the caller's choice -/
theorem wsf_unpack3 {x y z : Str} {p1 p3 p4 : Pos} {kk : Nat} (i j k : Nat) (hN : X.N.Nodup) (h : WEF X T N e σ H fun v u M H1 => ∃ q v1 v2 v3, v = .ref q ∧ SqT X.K H1 q [v1, v2, v3] ∧ ∀ u1 u2 u3, RelV v1 u1 → RelV v2 u2 → RelV v3 u3 → (∀ its, Ktup H1 q [v1, v2, v3] its → its = [u1, u2, u3]) → ∀ M2, M ≤ M2 → ∃ T' : TT2, (∀ q ∈ T', (q.1 ≠ x ∧ q.1 ≠ y ∧ q.1 ≠ z ∧ q ∈ T) ∨ q = (x, v1, u1) ∨ q = (y, v2, u2) ∨ q = (z, v3, u3)) ∧ WSF X T' M2 rest D (((σ.set i (some v1)).set j (some v2)).set k (some v3)) H1)
    (hxy : x ≠ y) (hxz : x ≠ z) (hyz : y ≠ z) (hi : X.N[i]? = some x := by rfl) (hj : X.N[j]? = some y := by rfl) (hk : X.N[k]? = some z := by rfl) (lx : X.env.scope.names.lookup x = some .local := by rfl) (ly : X.env.scope.names.lookup y = some .local := by rfl) (lz : X.env.scope.names.lookup z = some .local := by rfl) (hc : X.calm = true := by rfl)
    (hs : swapsWithSole [.Tuple [.Name x p1, .Name y p2, .Name z p3] kk p4] e pos.line X.env = pure false := by rfl) (hw : swappedStores [.Tuple [.Name x p1, .Name y p2, .Name z p3] kk p4] e X.env = pure none := by rfl) (h1 : (assignEach [.Tuple [.Name x p1, .Name y p2, .Name z p3] kk p4] X.env).map (·.2) = [assign (.Tuple [.Name x p1, .Name y p2, .Name z p3] kk p4) X.env] := by rfl)
    (hn : (assignEach [.Name x p1, .Name y p2, .Name z p3] X.env).length = 3 := by rfl) (hst : (assignEach [.Name x p1, .Name y p2, .Name z p3] X.env).findIdx? (·.1) = none := by rfl) (ha : (assignEach [.Name x p1, .Name y p2, .Name z p3] X.env).map (·.2) = [assign (.Name x p1) X.env, assign (.Name y p2) X.env, assign (.Name z p3) X.env] := by rfl) :
    WSF X T N (.Assign [.Tuple [.Name x p1, .Name y p2, .Name z p3] kk p4] e pos :: rest) D σ H := by
  refine .mk ?_
  intro pins s I t n
  refine wpAny_execs_cons (wpAny_Assign_stores (thn (h pins s I t n) fun w s1 ⟨v, H1, I1, r1, t1, n1, q, v1, v2, v3, e1, sq, kf⟩ => ?_) hs hw)
  subst e1
  obtain rfl : w = Value.ref q := r1
  rw [h1]
  obtain ⟨its, rv, ht, hz⟩ := I1.tuple sq
  obtain ⟨u1, u2, u3, rfl, ru1, ru2, ru3⟩ : ∃ u1 u2 u3, its = [u1, u2, u3] ∧ RelV v1 u1 ∧ RelV v2 u2 ∧ RelV v3 u3 := by
    cases rv with
    | cons a1 b1 => cases b1 with
      | cons a2 b2 => cases b2 with
        | cons a3 b3 => cases b3; exact ⟨_, _, _, rfl, a1, a2, a3⟩
  refine assign_Tuple_tuple (I1.ok.hd hc) ht (by simp [hn]) hst fun h' hx => ?_
  have I2 : Inv X pins σ H1 { s1 with heap := h' } := I1.kept (t' := s1.toks) fun b o e => hx b o (Nat.ne_of_lt (Heap.lt_size e)) e
  have t2 : TkH X T { s1 with heap := h' } := t1.kept (t' := s1.toks) fun b o e => hx b o (Nat.ne_of_lt (Heap.lt_size e)) e
  rw [ha]
  have f1 : ∀ (T0 : TT2) (a : Str) (b : V) (c : Value), ∀ q ∈ T0.filter (fun q => !decide (q.1 = a)) ++ [(a, b, c)], (q.1 ≠ a ∧ q ∈ T0) ∨ q = (a, b, c) := fun T0 a b c q hq => by
    rcases List.mem_append.mp hq with h | h
    · obtain ⟨h1, h2⟩ := List.mem_filter.mp h
      exact .inl ⟨by simpa using h2, h1⟩
    · exact .inr (List.mem_singleton.mp h)
  refine assignInOrder_cons (wpAny_assign_Name (store_step I2 t2 hN hi lx ru1 fun s3 I3 t3 n3 => ?_))
  have t3' := t3 _ (f1 T x v1 u1)
  refine assignInOrder_cons (wpAny_assign_Name (store_step I3 t3' hN hj ly ru2 fun s4 I4 t4 n4 => ?_))
  have t4' := t4 _ (f1 _ y v2 u2)
  refine assignInOrder_cons (wpAny_assign_Name (store_step I4 t4' hN hk lz ru3 fun s5 I5 t5 n5 => ?_))
  have t5' := t5 _ (f1 _ z v3 u3)
  refine assignInOrder_nil ?_
  obtain ⟨T', hT', hw'⟩ := kf u1 u2 u3 ru1 ru2 ru3 (fun its kt => by
    obtain ⟨_, ⟨o1, g1, _, m1, g2⟩, _⟩ := kt.is I1
    obtain ⟨o2, k1, _, m2, k2⟩ := ht
    rw [g1] at k1
    cases k1
    rw [g2] at k2
    have := congrArg (fun d => match d with | Data.seq a _ => a.toList | _ => []) k2
    simpa using this) s5.toks (by have : s1.toks ≤ s3.toks := n3; omega)
  refine hw' pins s5 I5 (t5'.sub fun q hq => ?_) (Nat.le_refl _)
  rcases hT' q hq with ⟨a1, a2, a3, a4⟩ | rfl | rfl | rfl
  · simp [a1, a2, a3, a4]
  · simp [hxy, hxz]
  · simp [hyz]
  · simp
/-- a, b = e, e a tuple: the two items, names held by the caller's choice -/
theorem wsf_unpack2 {x y : Str} {p1 p4 : Pos} {kk : Nat} (i j : Nat) (hN : X.N.Nodup) (h : WEF X T N e σ H fun v u M H1 => ∃ q v1 v2, v = .ref q ∧ SqT X.K H1 q [v1, v2] ∧ ∀ u1 u2, RelV v1 u1 → RelV v2 u2 → (∀ its, Ktup H1 q [v1, v2] its → its = [u1, u2]) → ∀ M2, M ≤ M2 → ∃ T' : TT2, (∀ q ∈ T', (q.1 ≠ x ∧ q.1 ≠ y ∧ q ∈ T) ∨ q = (x, v1, u1) ∨ q = (y, v2, u2)) ∧ WSF X T' M2 rest D ((σ.set i (some v1)).set j (some v2)) H1)
    (hxy : x ≠ y) (hi : X.N[i]? = some x := by rfl) (hj : X.N[j]? = some y := by rfl) (lx : X.env.scope.names.lookup x = some .local := by rfl) (ly : X.env.scope.names.lookup y = some .local := by rfl) (hc : X.calm = true := by rfl)
    (hs : swapsWithSole [.Tuple [.Name x p1, .Name y p2] kk p4] e pos.line X.env = pure false := by rfl) (hw : swappedStores [.Tuple [.Name x p1, .Name y p2] kk p4] e X.env = pure none := by rfl) (h1 : (assignEach [.Tuple [.Name x p1, .Name y p2] kk p4] X.env).map (·.2) = [assign (.Tuple [.Name x p1, .Name y p2] kk p4) X.env] := by rfl)
    (hn : (assignEach [.Name x p1, .Name y p2] X.env).length = 2 := by rfl) (hst : (assignEach [.Name x p1, .Name y p2] X.env).findIdx? (·.1) = none := by rfl) (ha : (assignEach [.Name x p1, .Name y p2] X.env).map (·.2) = [assign (.Name x p1) X.env, assign (.Name y p2) X.env] := by rfl) :
    WSF X T N (.Assign [.Tuple [.Name x p1, .Name y p2] kk p4] e pos :: rest) D σ H := by
  refine .mk ?_
  intro pins s I t n
  refine wpAny_execs_cons (wpAny_Assign_stores (thn (h pins s I t n) fun w s1 ⟨v, H1, I1, r1, t1, n1, q, v1, v2, e1, sq, kf⟩ => ?_) hs hw)
  subst e1
  obtain rfl : w = Value.ref q := r1
  rw [h1]
  obtain ⟨its, rv, ht, hz⟩ := I1.tuple sq
  obtain ⟨u1, u2, rfl, ru1, ru2⟩ : ∃ u1 u2, its = [u1, u2] ∧ RelV v1 u1 ∧ RelV v2 u2 := by
    cases rv with
    | cons a1 b1 => cases b1 with
      | cons a2 b2 => cases b2; exact ⟨_, _, rfl, a1, a2⟩
  refine assign_Tuple_tuple (I1.ok.hd hc) ht (by simp [hn]) hst fun h' hx => ?_
  have I2 : Inv X pins σ H1 { s1 with heap := h' } := I1.kept (t' := s1.toks) fun b o e => hx b o (Nat.ne_of_lt (Heap.lt_size e)) e
  have t2 : TkH X T { s1 with heap := h' } := t1.kept (t' := s1.toks) fun b o e => hx b o (Nat.ne_of_lt (Heap.lt_size e)) e
  rw [ha]
  have f1 : ∀ (T0 : TT2) (a : Str) (b : V) (c : Value), ∀ q ∈ T0.filter (fun q => !decide (q.1 = a)) ++ [(a, b, c)], (q.1 ≠ a ∧ q ∈ T0) ∨ q = (a, b, c) := fun T0 a b c q hq => by
    rcases List.mem_append.mp hq with h | h
    · obtain ⟨h1, h2⟩ := List.mem_filter.mp h
      exact .inl ⟨by simpa using h2, h1⟩
    · exact .inr (List.mem_singleton.mp h)
  refine assignInOrder_cons (wpAny_assign_Name (store_step I2 t2 hN hi lx ru1 fun s3 I3 t3 n3 => ?_))
  have t3' := t3 _ (f1 T x v1 u1)
  refine assignInOrder_cons (wpAny_assign_Name (store_step I3 t3' hN hj ly ru2 fun s4 I4 t4 n4 => ?_))
  have t4' := t4 _ (f1 _ y v2 u2)
  refine assignInOrder_nil ?_
  obtain ⟨T', hT', hw'⟩ := kf u1 u2 ru1 ru2 (fun its kt => by
    obtain ⟨_, ⟨o1, g1, _, m1, g2⟩, _⟩ := kt.is I1
    obtain ⟨o2, k1, _, m2, k2⟩ := ht
    rw [g1] at k1
    cases k1
    rw [g2] at k2
    have := congrArg (fun d => match d with | Data.seq a _ => a.toList | _ => []) k2
    simpa using this) s4.toks (by have : s1.toks ≤ s3.toks := n3; omega)
  refine hw' pins s4 I4 (t4'.sub fun q hq => ?_) (Nat.le_refl _)
  rcases hT' q hq with ⟨a1, a2, a4⟩ | rfl | rfl
  · simp [a1, a2, a4]
  · simp [hxy]
  · simp
end
end K10
set_option maxHeartbeats 4000000
/-! back_again: a deed that comes back. -/
namespace K10
open PySem PySem.Spec PyProof.Rows L2 SX
open C8 (Cal pe_c)
/-- a deed: a tuple of steps, the steps' tokens good -/
def DeedAt (K : PySem.W.Frag) (M : Nat) (H : Hp) (a : Addr) (deed : List (Nat × Nat × Nat)) : Prop := ∃ as : List Addr, SqT K H a (as.map .ref) ∧ Paired (fun q x => StepAt K M H q x) as deed
theorem StepAt.same {K : PySem.W.Frag} {M : Nat} {H H' : Hp} {a : Addr} {x : Nat × Nat × Nat} (h : StepAt K M H a x) (s : Same H H') : StepAt K M H' a x := by
  obtain ⟨o, n, t, t1, t2, h1, h2⟩ := h
  exact ⟨o, n, t, t1, t2, s _ _ h1, h2⟩
theorem StepAt.mono {K : PySem.W.Frag} {M M' : Nat} {H : Hp} {a : Addr} {x : Nat × Nat × Nat} (h : StepAt K M H a x) (n : M ≤ M') : StepAt K M' H a x := by
  obtain ⟨o, m, t, t1, t2, h1, h2, h3, h4⟩ := h
  exact ⟨o, m, t, t1, t2, h1, h2, h3, h4.1, Nat.lt_of_lt_of_le h4.2 n⟩
theorem StepAt.dp {K : PySem.W.Frag} {M : Nat} {H : Hp} {a : Addr} {x : Nat × Nat × Nat} (h : StepAt K M H a x) : Dp K H (.ref a) (stepD x) := by
  obtain ⟨o, m, t, t1, t2, h1, h2, h3, h4⟩ := h
  exact .tup (.inl (.inr ⟨_, h1⟩)) (.cons (.str _) (.cons (.int _) (.cons (.int _) .nil)))
theorem DeedAt.dp {K : PySem.W.Frag} {M : Nat} {H : Hp} {a : Addr} {deed : List (Nat × Nat × Nat)} (h : DeedAt K M H a deed) : Dp K H (.ref a) (.tuple (deed.map stepD)) := by
  obtain ⟨as, h1, h2⟩ := h
  refine .tup h1 ?_
  clear h1
  induction h2 with
  | nil => exact .nil
  | cons r _ ih => exact .cons r.dp ih
theorem DeedAt.same {K : PySem.W.Frag} {M : Nat} {H H' : Hp} {a : Addr} {deed : List (Nat × Nat × Nat)} (h : DeedAt K M H a deed) (s : Same H H') : DeedAt K M H' a deed := by
  obtain ⟨as, h1, h2⟩ := h
  exact ⟨as, same_seqT (same_tx s) h1, Paired.mapP h2 fun q x r => r.same s⟩
theorem DeedAt.mono {K : PySem.W.Frag} {M M' : Nat} {H : Hp} {a : Addr} {deed : List (Nat × Nat × Nat)} (h : DeedAt K M H a deed) (n : M ≤ M') : DeedAt K M' H a deed := by
  obtain ⟨as, h1, h2⟩ := h
  exact ⟨as, h1, Paired.mapP h2 fun q x r => r.mono n⟩
section
variable {X : Cx} {T T' : TT2} {N : Nat} {σ : L2.St} {H H' : Hp} {e a0 a1 a2 : Expr} {pos p p2 : Pos} {s : Shared}
/-- one sign, its token good -/
def WG (X : Cx) (T : TT2) (N : Nat) (e : Expr) (σ : L2.St) (H : Hp) (Φ : Nat → Prop) : Prop := ∀ (N' : Nat) (H' : Hp), N ≤ N' → Same H H' → WEF X T N' e σ H' fun v u M H1 => Same H' H1 ∧ N' ≤ M ∧ ∃ c t, Φ c ∧ v = .str (S [c]) ∧ u = .str (S [c]) t ∧ Gtok M t
/-- a step's tuple -/
def WStep (X : Cx) (T : TT2) (N : Nat) (e : Expr) (σ : L2.St) (H : Hp) (Ψ : Nat × Nat × Nat → Prop) : Prop := ∀ (N' : Nat) (H' : Hp), N ≤ N' → Same H H' → WEF X T N' e σ H' fun v u M H1 => Same H' H1 ∧ N' ≤ M ∧ ∃ q x, Ψ x ∧ v = .ref q ∧ u = .ref q ∧ StepAt X.K M H1 q x
theorem WStep.at {N' : Nat} {Ψ : Nat × Nat × Nat → Prop} (h : WStep X T N e σ H Ψ) (hn : N ≤ N') (hs : Same H H') : WEF X T N' e σ H' fun v u M H1 => Same H' H1 ∧ N' ≤ M ∧ ∃ q x, Ψ x ∧ v = .ref q ∧ u = .ref q ∧ StepAt X.K M H1 q x := h N' H' hn hs
theorem Gtok.mono {M M' : Nat} {t : Tok} (h : Gtok M t) (n : M ≤ M') : Gtok M' t := ⟨h.1, Nat.lt_of_lt_of_le h.2 n⟩
theorem wg_t {x : Str} {c : Nat} {t : Tok} (ht : (x, .str (S [c]), .str (S [c]) t) ∈ T) (g : Gtok N t) (hk : X.env.kindOf x = some .local := by rfl) (hd : (x == ("__debug__" : Str)) = false := by decide) : WG X T N (.Name x pos) σ H (fun y => y = c) := fun N' H' hn _ =>
  wef_t ht (fun M hM => ⟨Same.refl _, hM, c, t, rfl, rfl, rfl, g.mono (Nat.le_trans hn hM)⟩) hk hd
theorem wg_str {z : Str} {c : Nat} {j : Nat} (h1 : 1 ≤ N) (hz : z = S [c]) : WG X T N (.Constant (.str z) j pos) σ H (fun y => y = c) := fun N' H' hn _ => by
  subst hz
  exact wef_str fun t ht => ⟨Same.refl _, by omega, c, t, rfl, rfl, rfl, by intro e; rw [e] at ht; exact absurd (Nat.le_trans h1 (Nat.le_trans hn ht)) (by decide), Nat.lt_succ_self t⟩
theorem wstep_tup {k d1 d2 : Nat} {Φ : Nat → Prop} {Φ1 Φ2 : Int → Prop} {Ψ : Nat × Nat × Nat → Prop} (h0 : WG X T N a0 σ H Φ) (h1 : WZ X T N a1 σ H d1 Φ1) (h2 : WZ X T N a2 σ H d2 Φ2) (hp : ∀ c i j, Φ c → Φ1 i → Φ2 j → ∃ m n : Nat, i = (m : Int) ∧ j = (n : Int) ∧ Ψ (c, m, n))
    (hs0 : starEach [a0, a1, a2] X.env = (false, eval a0 X.env) :: starEach [a1, a2] X.env := by exact star_cons (by rfl)) (hs1 : starEach [a1, a2] X.env = (false, eval a1 X.env) :: starEach [a2] X.env := by exact star_cons (by rfl)) (hs2 : starEach [a2] X.env = (false, eval a2 X.env) :: starEach [] X.env := by exact star_cons (by rfl)) :
    WStep X T N (.Tuple [a0, a1, a2] k pos) σ H Ψ := fun N' H' hn hs =>
  wef_tupZ (waf_cons ((h0 N' H' hn hs).mono fun v0 u0 M0 H0 hM0 ⟨s0, n0, c, t, pc, e0, f0, g0⟩ => waf_cons ((h1 M0 H0 (by omega) (hs.trans s0)).mono fun v1 u1 M1 H1 hM1 ⟨s1, n1, i, t1, e1, f1, pi⟩ => waf_cons ((h2 M1 H1 (by omega) (hs.trans (s0.trans s1))).mono fun v2 u2 M2 H2 hM2 ⟨s2, n2, j, t2, e2, f2, pj⟩ => waf_nil fun M3 hM3 => ⟨by simp, fun q hq => by
    obtain ⟨m, n, rfl, rfl, ps⟩ := hp c i j pc pi pj
    subst e0 e1 e2 f0 f1 f2
    exact ⟨s0.trans (s1.trans (s2.trans (same_new hq))), by omega, q, (c, m, n), ps, rfl, rfl, _, _, t, t1, t2, upd_same, rfl, rfl, g0.mono (by omega)⟩⟩) hs2) hs1) hs0)
end
section
variable {P : Program} {w : World} {K : PySem.W.Frag} {mg : Str → Option Value} {base : Heap}
/-- a drawn deed's steps -/
def deedOk (n : Nat) (deed : List (Nat × Nat × Nat)) : Prop := deed.length ≤ 3 ∧ ∀ x ∈ deed, whatOk x.1 ∧ stepOk n x
def spBack (K : PySem.W.Frag) : SpT := fun vs us N H Q => ∃ (dd : Addr) (n : Nat) (l : List Nat), vs = [.ref dd, .int (n : Int), .str (S l)] ∧ DrawOk K H dd ∧ 2 ≤ n ∧ n ≤ 6 ∧ l ≠ [] ∧ l.length ≤ 100 ∧ (∀ c ∈ l, c ∈ LET) ∧
  ∀ a deed M H', N ≤ M → Same H H' → DeedAt K M H' a deed → deedOk n deed → Q (.ref a) (.ref a) M H'
theorem two_of {n r1 r2 : Nat} (h1 : r1 < n) (h2 : r2 < n - 1) : ∃ two : Nat, two < n ∧ r1 ≠ two ∧ ((r1 : Int) + 1 + r2) % n = (two : Int) := by
  refine ⟨(r1 + 1 + r2) % n, Nat.mod_lt _ (by omega), ?_, ?_⟩
  · by_cases h : r1 + 1 + r2 < n
    · rw [Nat.mod_eq_of_lt h]; omega
    · rw [Nat.mod_eq_sub_mod (by omega), Nat.mod_eq_of_lt (by omega)]; omega
  · rw [Int.natCast_emod]
    congr 1
theorem c_back (V : Ev mg) (G : Gd K mg "_law_back_again" s_L_back_again) (Cp : Cal P w K mg base 2 "_law_pick" (spPick K) []) : CalT P w K mg base 3 "_law_back_again" (spBack K) [] := by
  obtain ⟨f, fd, F, g⟩ := G.ex
  refine ⟨f, fd, p_L_back_again, [], ?_, g, F.kp, F.bindsN (fun _ _ _ _ _ _ us hl => match us, hl with | [_, _, _], _ => rfl), .nil⟩
  refine fnT_of F sc_L_back_again (fun vs us M H Q ⟨_, _, _, h, _⟩ => by rw [h]; rfl) fun cdv A outer s H vs us Q hr hv h => ⟨[], (fun q hq => by cases hq), ?_⟩
  obtain ⟨dd, n, l, rfl, hd, hn2, hn6, hl0, hl1, hl2, hk⟩ := h
  have hN := sc_L_back_again.nd
  generalize s.toks = N0 at hk
  refine wsf_setZ 3 hN (wz_pick Cp hr 0 rfl hd (wi_v 1 rfl) (by omega) (by omega)) (fun q hq => by cases hq) fun z1 M1 H1 ⟨r1, hr1, e1⟩ s1 n1 => ?_
  subst e1
  refine wsf_setZ (Φ := fun z => ∃ r2 : Nat, r2 < n - 1 ∧ z = ((r1 : Int) + 1 + r2) % n) 4 hN (wz_op (wz_intc (wz_op (wz_op (wz_wi (wi_v 3 rfl)) wz_int (Φ := fun z => z = (r1 : Int) + 1) fun i j hi hj => ⟨i + j, fun _ _ => pi_add, by rw [hi, hj]⟩) (wz_pick (n := n - 1) Cp hr 0 rfl (hd.same s1) (show WI _ _ _ _ _ _ ((n - 1 : Nat) : Int) by
      rw [show ((n - 1 : Nat) : Int) = (n : Int) - 1 by omega]
      exact wi_op (wi_v 1 rfl) wi_int fun _ _ => pi_sub) (by omega) (by omega)) (Φ := fun z => ∃ r2 : Nat, r2 < n - 1 ∧ z = (r1 : Int) + 1 + r2) fun i j hi ⟨r2, h2, hj⟩ => ⟨i + j, fun _ _ => pi_add, r2, h2, by rw [hi, hj]⟩) V.int) (wz_wi (wi_v 1 rfl)) fun i j ⟨r2, h2, hi⟩ hj => ⟨i % j, fun _ _ => pi_mod (by omega), r2, h2, by rw [hi, hj]⟩) (fun q hq => by cases hq) fun z2 M2 H2 ⟨r2, hr2, e2⟩ s2 n2 => ?_
  have s12 := s1.trans s2
  obtain ⟨two, htwo, hne, hz2⟩ := two_of hr1 hr2
  rw [hz2] at e2
  subst e2
  refine wsf_unpack2 5 6 hN (wef_of ((EP.imp (ep_ixL (ds := [.tuple [iN two, iN r1], .tuple [iN r1, iN two]]) (EN.ee (en_lst (ea_cons (ee_tup (ea_cons (ee_var 4 rfl (.int _)) (ea_1 (ee_var 3 rfl (.int _))))) (ea_1 (ee_tup (ea_cons (ee_var 3 rfl (.int _)) (ea_1 (ee_var 4 rfl (.int _))))))))) (ep_pick (n := 2) Cp hr 0 rfl (hd.same s12) (ee_int (i := (2 : Nat))) (by decide) (by decide))) (Ψ := fun d => ∃ st gl : Nat, d = .tuple [iN st, iN gl] ∧ st < n ∧ gl < n ∧ st ≠ gl) fun d hdm => ?_) H2 (Same.refl H2) |>.mono fun v H3 ⟨s3, d, ⟨st, gl, e3, h1, h2, h3⟩, dv⟩ => ?_)) (by decide)
  · simp only [List.mem_cons, List.not_mem_nil, or_false] at hdm
    rcases hdm with rfl | rfl
    · exact ⟨two, r1, rfl, htwo, hr1, Ne.symm hne⟩
    · exact ⟨r1, two, rfl, hr1, htwo, hne⟩
  subst e3
  obtain ⟨q, ys, rfl, hq, hys⟩ := dp_tup dv
  obtain ⟨w1, w2, rfl, dw1, dw2⟩ := dpAll_2 hys
  have ew1 := dp_int dw1
  have ew2 := dp_int dw2
  subst ew1 ew2
  intro u M hu hM
  refine ⟨q, _, _, rfl, hq, fun u1 u2 _ _ _ M3 hM3 => ⟨[], (fun q hq => by cases hq), ?_⟩⟩
  have s13 := s12.trans s3
  have hlp : 0 < l.length := List.length_pos_iff.mpr hl0
  refine wsf_set 7 hN (wef_ixS (z := S l) (by rw [S_len]; omega) (wef_v 2 rfl fun u M hu hM => ⟨rfl, wef_pick (n := l.length) Cp hr 0 rfl (hd.same s13) (wi_lenL 2 rfl (by omega) V.len) (by omega) (by omega) fun r3 t3 M3 H3 hr3 hM3 s3 => ⟨r3, rfl, l[r3], by simp [hr3], fun t4 ht4 => ⟨[("_law_what", .str (S [l[r3]]), .str (S [l[r3]]) t4)], (fun q hq => .inr (by simpa using hq)), ?_⟩⟩⟩))
  have s14 := s13.trans s3
  refine wsf_setZ (Φ := fun z => ∃ r2 : Nat, r2 < n - 1 ∧ z = ((gl : Int) + 1 + r2) % n) 8 hN (wz_op (wz_intc (wz_op (wz_op (wz_wi (wi_v 6 rfl)) wz_int (Φ := fun z => z = (gl : Int) + 1) fun i j hi hj => ⟨i + j, fun _ _ => pi_add, by rw [hi, hj]⟩) (wz_pick (n := n - 1) Cp hr 0 rfl (hd.same s14) (show WI _ _ _ _ _ _ ((n - 1 : Nat) : Int) by
      rw [show ((n - 1 : Nat) : Int) = (n : Int) - 1 by omega]
      exact wi_op (wi_v 1 rfl) wi_int fun _ _ => pi_sub) (by omega) (by omega)) (Φ := fun z => ∃ r2 : Nat, r2 < n - 1 ∧ z = (gl : Int) + 1 + r2) fun i j hi ⟨r2, h2, hj⟩ => ⟨i + j, fun _ _ => pi_add, r2, h2, by rw [hi, hj]⟩) V.int) (wz_wi (wi_v 1 rfl)) fun i j ⟨r2, h2, hi⟩ hj => ⟨i % j, fun _ _ => pi_mod (by omega), r2, h2, by rw [hi, hj]⟩) (fun q hq => by rw [List.mem_singleton.mp hq]; show (PySem.Str.ofString "_law_what") ≠ PySem.Str.ofString "_law_last"; decide) fun z5 M5 H5 ⟨r5, hr5, e5⟩ s5 n5 => ?_
  obtain ⟨last, hlast, hne2, hz5⟩ := two_of h2 hr5
  rw [hz5] at e5
  subst e5
  have s15 := s14.trans s5
  have ht4' : Gtok M5 t4 := ⟨by intro e; rw [e] at ht4; omega, Nat.lt_of_lt_of_le (Nat.lt_succ_self t4) (by omega)⟩
  have hc : whatOk l[r3] := .inl (hl2 _ (List.getElem_mem hr3))
  have hM5 : 1 ≤ M5 := Nat.lt_of_le_of_lt (Nat.zero_le t4) ht4'.2
  refine wsf_ret (wef_tupZ (waf_cons ((WStep.at (wstep_tup (Ψ := fun x => x = (l[r3], r1, two)) (wg_t (List.mem_singleton.mpr rfl) ht4') (wz_wi (wi_v 3 rfl)) (wz_wi (wi_v 4 rfl)) fun c i j hc hi hj => ⟨r1, two, hi, hj, by rw [hc]⟩) (Nat.le_refl _) (Same.refl _)).mono fun v6 u6 M6 H6 hM6 ⟨s6, n6, q6, x6, e6, f6, g6, k6⟩ =>
    waf_cons ((WStep.at (wstep_tup (Ψ := fun x => x = (42, st, gl)) (wg_str hM5 star_S) (wz_wi (wi_v 5 rfl)) (wz_wi (wi_v 6 rfl)) fun c i j hc hi hj => ⟨st, gl, hi, hj, by rw [hc]⟩) n6 s6).mono fun v7 u7 M7 H7 hM7 ⟨s7, n7, q7, x7, e7, f7, g7, k7⟩ =>
    waf_cons ((WStep.at (wstep_tup (Ψ := fun x => x = (l[r3], gl, last)) (wg_t (List.mem_singleton.mpr rfl) (Gtok.mono ht4' (Nat.le_trans n6 n7))) (wz_wi (wi_v 6 rfl)) (wz_wi (wi_v 8 rfl)) fun c i j hc hi hj => ⟨gl, last, hi, hj, by rw [hc]⟩) (Nat.le_refl M7) (Same.refl H7)).mono fun v8 u8 M8 H8 hM8 ⟨s8, n8, q8, x8, e8, f8, g8, k8⟩ =>
    waf_nil fun M9 hM9 => ⟨by simp, fun pp hpp => ?_⟩)))))
  subst e6 e7 e8 f6 f7 f8 g6 g7 g8
  refine hk pp [(l[r3], r1, two), (42, st, gl), (l[r3], gl, last)] M9 _ (by omega) (s15.trans (s6.trans (s7.trans (s8.trans (same_new hpp))))) ⟨[q6, q7, q8], .inl (.inr ⟨_, upd_same⟩), .cons ?_ (.cons ?_ (.cons ?_ .nil))⟩ ⟨by simp, fun x hx => ?_⟩
  · exact (k6.mono (by omega)).same (s7.trans (s8.trans (same_new hpp)))
  · exact (k7.mono (by omega)).same (s8.trans (same_new hpp))
  · exact (k8.mono (by omega)).same (same_new hpp)
  · simp only [List.mem_cons, List.not_mem_nil, or_false] at hx
    rcases hx with rfl | rfl | rfl
    · exact ⟨hc, hr1, htwo, hne⟩
    · exact ⟨.inr (.inl rfl), h1, h2, h3⟩
    · exact ⟨hc, h2, hlast, hne2⟩
end
end K10
set_option maxHeartbeats 4000000
/-! Framed rules: for, tests joined, statements lifted. -/
namespace K10
open PySem PySem.Spec PyProof.Rows L2 SX
open C8 (Cal pe_c)
section
variable {X : Cx} {T T' : TT2} {N : Nat} {σ : L2.St} {H H' : Hp} {e a b' : Expr} {pos p p2 : Pos} {s : Shared} {rest body : List Stmt} {D : EndF} {tg iter : Expr}
/-! ### lifted -/
theorem wi_of {z : Int} (h : EE X σ H e (.int z)) : WI X [] N e σ H z := fun N' H' hn hs => wef_of ((h H' hs).mono fun v H1 ⟨s1, dv⟩ u M hu hM => by
  have := dp_int dv
  subst this
  exact ⟨s1, rfl, hu, hM⟩)
theorem wz_of {Φ : PyData → Prop} {Ψ : Int → Prop} (h : EP X σ H e Φ) (k : ∀ d, Φ d → ∃ z, d = .int z ∧ Ψ z) : WZ X [] N e σ H 0 Ψ := fun N' H' hn hs => wef_of ((h H' hs).mono fun v H1 ⟨s1, d, pd, dv⟩ u M hu hM => by
  obtain ⟨z, rfl, pz⟩ := k d pd
  have := dp_int dv
  subst this
  obtain ⟨t, rfl⟩ := hu
  exact ⟨s1, hM, z, t, rfl, rfl, pz⟩)
/-- a statement without names held -/
theorem wsf_st {st : Stmt} (h : WS X st { nx := fun σ' H' => ∀ M, N ≤ M → WSF X [] M rest D σ' H', rt := fun v H' => ∀ u M, RelV v u → N ≤ M → D.rt v u M H' } σ H) : WSF X T N (st :: rest) D σ H := .mk fun pins s I t n =>
  wpAny_execs_cons (wpAny_mono (PySem.wpAny_toks_of n (h pins s I)) (fun f s1 ⟨n1, q⟩ => by
    cases f with
    | next =>
      obtain ⟨σ', H', I', q⟩ := q
      exact q _ n1 pins s1 I' (TkH.nil I') (Nat.le_refl _)
    | ret v =>
      obtain ⟨x, σ', H', I', r, q⟩ := q
      exact ⟨x, σ', H', I', r, q v _ r n1⟩
    | brk => obtain ⟨_, _, _, q⟩ := q; exact q.elim
    | cont => obtain ⟨_, _, _, q⟩ := q; exact q.elim) fun _ _ z => z.2)
theorem wsf_mono {N' : Nat} (h : WSF X T N body D σ H) (n : N ≤ N') : WSF X T N' body D σ H := .mk fun pins s I t m => h pins s I t (Nat.le_trans n m)
theorem wsf_drop (h : WSF X [] N body D σ H) : WSF X T N body D σ H := .mk fun pins s I _ m => h pins s I (TkH.nil I) m
theorem wsf_conseq {D' : EndF} (h : WSF X T N body D σ H) (k1 : ∀ T' M σ' H', N ≤ M → D.nx T' M σ' H' → D'.nx T' M σ' H') (k2 : ∀ v u M H', N ≤ M → D.rt v u M H' → D'.rt v u M H') : WSF X T N body D' σ H := .mk fun pins s I t n =>
  wpAny_mono (PySem.wpAny_toks_of n (h pins s I t n)) (fun f s1 ⟨n1, q⟩ => by
    cases f with
    | next =>
      obtain ⟨σ', H', T', I', t', q⟩ := q
      exact ⟨σ', H', T', I', t', k1 _ _ _ _ n1 q⟩
    | ret v =>
      obtain ⟨x, σ', H', I', r, q⟩ := q
      exact ⟨x, σ', H', I', r, k2 _ _ _ _ n1 q⟩
    | brk => exact q.elim
    | cont => exact q.elim) fun _ _ z => z.2
/-- target: an item is stored -/
structure WTG (X : Cx) (T : TT2) (N : Nat) (tg : Expr) (x : V) (u : Value) (σ : L2.St) (H : Hp) (Q : TT2 → Nat → L2.St → Hp → Prop) : Prop where
  run : ∀ (pins : List (Addr × Obj)) (s : Shared), Inv X pins σ H s → TkH X T s → N ≤ s.toks → RelV x u →
  wpAny (model X.prog X.w) X.A (assign tg X.env u) (fun _ s' => ∃ σ' H' T', Inv X pins σ' H' s' ∧ TkH X T' s' ∧ N ≤ s'.toks ∧ Q T' s'.toks σ' H') X.xe s
instance (X : Cx) (T : TT2) (N : Nat) (tg : Expr) (x : V) (u : Value) (σ : L2.St) (H : Hp) (Q : TT2 → Nat → L2.St → Hp → Prop) : CoeFun (WTG X T N tg x u σ H Q) fun _ => ∀ (pins : List (Addr × Obj)) (s : Shared), Inv X pins σ H s → TkH X T s → N ≤ s.toks → RelV x u →
  wpAny (model X.prog X.w) X.A (assign tg X.env u) (fun _ s' => ∃ σ' H' T', Inv X pins σ' H' s' ∧ TkH X T' s' ∧ N ≤ s'.toks ∧ Q T' s'.toks σ' H') X.xe s := ⟨WTG.run⟩
theorem wtg_of {g : TG} {x : V} {u : Value} {Q : TT2 → Nat → L2.St → Hp → Prop} (h : PG X tg g) (k : g x σ H fun σ' H' => ∀ M, N ≤ M → Q [] M σ' H') : WTG X T N tg x u σ H Q := .mk fun pins s I t n r =>
  wpAny_mono (PySem.wpAny_toks_of n (h.run pins s σ H x u _ I r k)) (fun _ s' ⟨n1, σ', H', I', q⟩ => ⟨σ', H', [], I', TkH.nil I', n1, q _ n1⟩) fun _ _ z => z.2
theorem wtg_name {x : Str} {v : V} {u : Value} {p1 : Pos} {Q : TT2 → Nat → L2.St → Hp → Prop} (i : Nat) (hN : X.N.Nodup) (k : ∀ M, N ≤ M → ∃ T' : TT2, (∀ q ∈ T', (q.1 ≠ x ∧ q ∈ T) ∨ q = (x, v, u)) ∧ Q T' M (σ.set i (some v)) H) (hi : X.N[i]? = some x := by rfl) (hk : X.env.scope.names.lookup x = some .local := by rfl) : WTG X T N (.Name x p1) v u σ H Q := .mk fun pins s I t n r =>
  wpAny_assign_Name (store_step I t hN hi hk r fun s' I' t' n' => by
    obtain ⟨T', h1, h2⟩ := k s'.toks (Nat.le_trans n n')
    exact ⟨_, H, T', I', t' T' h1, Nat.le_trans n n', h2⟩)
/-- x, y = the item, a known tuple -/
theorem wtg_pair {x y : Str} {p1 p4 : Pos} {kk : Nat} {q : Addr} {v1 v2 : V} {u1 u2 : Value} {Q : TT2 → Nat → L2.St → Hp → Prop} (i j : Nat) (hN : X.N.Nodup) (kt : Ktup H q [v1, v2] [u1, u2]) (k : ∀ M, N ≤ M → ∃ T' : TT2, (∀ q ∈ T', (q.1 ≠ x ∧ q.1 ≠ y ∧ q ∈ T) ∨ q = (x, v1, u1) ∨ q = (y, v2, u2)) ∧ Q T' M ((σ.set i (some v1)).set j (some v2)) H)
    (hxy : x ≠ y) (hi : X.N[i]? = some x := by rfl) (hj : X.N[j]? = some y := by rfl) (lx : X.env.scope.names.lookup x = some .local := by rfl) (ly : X.env.scope.names.lookup y = some .local := by rfl) (hc : X.calm = true := by rfl)
    (hn : (assignEach [.Name x p1, .Name y p2] X.env).length = 2 := by rfl) (hst : (assignEach [.Name x p1, .Name y p2] X.env).findIdx? (·.1) = none := by rfl) (ha : (assignEach [.Name x p1, .Name y p2] X.env).map (·.2) = [assign (.Name x p1) X.env, assign (.Name y p2) X.env] := by rfl) :
    WTG X T N (.Tuple [.Name x p1, .Name y p2] kk p4) (.ref q) (.ref q) σ H Q := .mk fun pins s I t n r => by
  obtain ⟨rv, ht, hz⟩ := kt.is I
  obtain ⟨ru1, ru2⟩ : RelV v1 u1 ∧ RelV v2 u2 := by
    cases rv with
    | cons a1 b1 => cases b1 with
      | cons a2 b2 => exact ⟨a1, a2⟩
  refine assign_Tuple_tuple (I.ok.hd hc) ht (by simp [hn]) hst fun h' hx => ?_
  have I2 : Inv X pins σ H { s with heap := h' } := I.kept (t' := s.toks) fun b o e => hx b o (Nat.ne_of_lt (Heap.lt_size e)) e
  have t2 : TkH X T { s with heap := h' } := t.kept (t' := s.toks) fun b o e => hx b o (Nat.ne_of_lt (Heap.lt_size e)) e
  rw [ha]
  have f1 : ∀ (T0 : TT2) (a : Str) (b : V) (c : Value), ∀ q ∈ T0.filter (fun q => !decide (q.1 = a)) ++ [(a, b, c)], (q.1 ≠ a ∧ q ∈ T0) ∨ q = (a, b, c) := fun T0 a b c q hq => by
    rcases List.mem_append.mp hq with h | h
    · obtain ⟨h1, h2⟩ := List.mem_filter.mp h
      exact .inl ⟨by simpa using h2, h1⟩
    · exact .inr (List.mem_singleton.mp h)
  refine assignInOrder_cons (wpAny_assign_Name (store_step I2 t2 hN hi lx ru1 fun s3 I3 t3 n3 => ?_))
  have t3' := t3 _ (f1 T x v1 u1)
  refine assignInOrder_cons (wpAny_assign_Name (store_step I3 t3' hN hj ly ru2 fun s4 I4 t4 n4 => ?_))
  have t4' := t4 _ (f1 _ y v2 u2)
  refine assignInOrder_nil ?_
  have hm : N ≤ s4.toks := by have : s.toks ≤ s3.toks := n3; omega
  obtain ⟨T', hT', hw'⟩ := k s4.toks hm
  refine ⟨_, H, T', I4, t4'.sub fun q hq => ?_, hm, hw'⟩
  rcases hT' q hq with ⟨a1, a2, a4⟩ | rfl | rfl
  · simp [a1, a2, a4]
  · simp [hxy]
  · simp
/-! ### for -/
/-- an iterator's turns, names held -/
structure TurnF (X : Cx) (T : TT2) (tg : Expr) (J : It) (fp : List Addr) (it : Addr) (tn : Nat → Heap → Prop) : Prop where
  obj : ∀ i h, tn i h → ∀ b ∈ fp, ∃ o, h.get? b = some o ∧ ∀ v, o.data ≠ .cell v
  keep : ∀ i h h', tn i h → (∀ b ∈ fp, ∀ o, h.get? b = some o → h'.get? b = some o) → tn i h'
  item : ∀ (i : Nat) (pins : List (Addr × Obj)) (s : Shared) (σ : L2.St) (H : Hp) (E : Value → Shared → Prop), Inv X pins σ H s → TkH X T s → (∀ b ∈ fp, FpOk X pins H b) → tn i s.heap → J.go i H →
    wpAny (model X.prog X.w) X.A (pyNext (.ref it)) (fun r s1 => ∃ u, r = some u ∧
      wpAny (model X.prog X.w) X.A (letOwnedTupleGo tg (.ref it) u) (fun _ s2 => ∃ x H', Inv X pins σ H' s2 ∧ TkH X T s2 ∧ RelV x u ∧ J.yld i H x H' ∧ tn (i + 1) s2.heap ∧ ∀ b ∈ fp, H' b = none) E s1) E s
  done : ∀ (i : Nat) (pins : List (Addr × Obj)) (s : Shared) (σ : L2.St) (H : Hp) (E : Value → Shared → Prop), Inv X pins σ H s → TkH X T s → (∀ b ∈ fp, FpOk X pins H b) → tn i s.heap → J.stop i H →
    wpAny (model X.prog X.w) X.A (pyNext (.ref it)) (fun r s1 => r = none ∧ Inv X pins σ H s1 ∧ TkH X T s1) E s
theorem TurnF.of {K : PySem.W.Frag} {J : It} {fp : List Addr} {it : Addr} {tn : Nat → Heap → Prop} (h : Turn X.prog X.w X.K tg J fp it tn) (hc : X.calm = true) : TurnF X [] tg J fp it tn where
  obj := h.obj
  keep := h.keep
  item := fun i pins s σ H E I _ hf st go => thnF (h.item X rfl rfl rfl hc i pins s σ H (fun _ _ => False) I hf st go) fun r s1 ⟨u, hr, q⟩ => ⟨u, hr, thnF q fun _ s2 ⟨x, H', I', q⟩ => ⟨x, H', I', TkH.nil I', q⟩⟩
  done := fun i pins s σ H E I _ hf st go => thnF (h.done X rfl rfl rfl hc i pins s σ H (fun _ _ => False) I hf st go) fun r s1 ⟨hr, I'⟩ => ⟨hr, I', TkH.nil I'⟩
/-- what is walked -/
structure WIF (X : Cx) (T : TT2) (N : Nat) (tg iter : Expr) (σ : L2.St) (H : Hp) (R : It → Nat → Hp → Prop) : Prop where
  run : ∀ (pins : List (Addr × Obj)) (s : Shared), Inv X pins σ H s → TkH X T s → N ≤ s.toks →
  wpAny (model X.prog X.w) X.A (eval iter X.env) (fun v s1 => wpAny (model X.prog X.w) X.A (pyIter v) (fun itv s2 => ∃ (it : Addr) (fp : List Addr) (tn : Nat → Heap → Prop) (J : It) (H' : Hp), itv = .ref it ∧ Inv X pins σ H' s2 ∧ TkH X T s2 ∧ N ≤ s2.toks ∧ TurnF X T tg J fp it tn ∧ tn 0 s2.heap ∧ (∀ b ∈ fp, FpOk X pins H' b) ∧ R J s2.toks H') X.xe s1) X.xe s
instance (X : Cx) (T : TT2) (N : Nat) (tg iter : Expr) (σ : L2.St) (H : Hp) (R : It → Nat → Hp → Prop) : CoeFun (WIF X T N tg iter σ H R) fun _ => ∀ (pins : List (Addr × Obj)) (s : Shared), Inv X pins σ H s → TkH X T s → N ≤ s.toks →
  wpAny (model X.prog X.w) X.A (eval iter X.env) (fun v s1 => wpAny (model X.prog X.w) X.A (pyIter v) (fun itv s2 => ∃ (it : Addr) (fp : List Addr) (tn : Nat → Heap → Prop) (J : It) (H' : Hp), itv = .ref it ∧ Inv X pins σ H' s2 ∧ TkH X T s2 ∧ N ≤ s2.toks ∧ TurnF X T tg J fp it tn ∧ tn 0 s2.heap ∧ (∀ b ∈ fp, FpOk X pins H' b) ∧ R J s2.toks H') X.xe s1) X.xe s := ⟨WIF.run⟩
theorem wif_of {wi : TI} {R : It → Nat → Hp → Prop} (h : PI X tg iter wi) (k : wi σ H fun J H1 => ∀ M, N ≤ M → R J M H1) (hc : X.calm = true := by rfl) : WIF X [] N tg iter σ H R := .mk fun pins s I t n =>
  wpAny_mono (PySem.wpAny_toks_of n (h.run pins s σ H _ I k)) (fun v s1 ⟨n1, q⟩ => wpAny_mono (PySem.wpAny_toks_of n1 q) (fun itv s2 ⟨n2, it, fp, tn, J, H', e1, I2, tu, st, fo, r⟩ => ⟨it, fp, tn, J, H', e1, I2, TkH.nil I2, n2, TurnF.of (K := X.K) tu hc, st, fo, r _ n2⟩) fun _ _ z => z.2) fun _ _ z => z.2
/-- for: Pv by the turn and the tokens out -/
theorem wsf_for (hp : PassesOwn (model X.prog X.w) X.A X.env X.xe) (h : WIF X T N tg iter σ H fun J M H1 => ∃ (len : Nat) (Pv : Nat → Nat → L2.St → Hp → Prop), Pv 0 M σ H1 ∧ (∀ M' σ' H', Pv len M' σ' H' → J.stop len H' ∧ WSF X T M' rest D σ' H') ∧
      ∀ i M' σ' H', i < len → Pv i M' σ' H' → J.go i H' ∧ ∀ x u H'' M'', J.yld i H' x H'' → RelV x u → M' ≤ M'' → WTG X T M'' tg x u σ' H'' fun T2 M2 σ2 H2 => WSF X T2 M2 body { nx := fun T3 M3 σ3 H3 => (∀ q ∈ T, q ∈ T3) ∧ Pv (i + 1) M3 σ3 H3, rt := D.rt } σ2 H2)
    (hfs : ∀ x, foldedSetIterable iter X.env x = pure x := by intro _; rfl) : WSF X T N (.For tg iter body [] pos :: rest) D σ H := by
  refine .mk ?_
  intro pins s I t n
  refine wpAny_execs_cons (wpAny_mono (?_ : wpAny (model X.prog X.w) X.A (exec (.For tg iter body [] pos) X.env) (SPF X pins { nx := fun T' M σ' H' => WSF X T' M rest D σ' H', rt := D.rt }) X.xe s) (fun f s2 q => ?_) fun _ _ z => z)
  · refine wpAny_For (thn (h pins s I t n) fun v s1 h1 => thn h1 fun itv s2 h2 => ?_) hfs
    obtain ⟨it, fp, tn, J, H2, e, I2, t2, n2, tu, st2, f2, len, Pv, p0, fin, turn⟩ := h2
    subst e
    have stat : ∀ {H' : Hp}, (∀ b ∈ fp, H' b = none) → ∀ b ∈ fp, FpOk X pins H' b := fun hn b hb => ⟨hn b hb, (f2 b hb).2⟩
    refine codeAny_forLoop_any (fun k s' => ∃ i σ' H', k = len - i ∧ i ≤ len ∧ Inv X pins σ' H' s' ∧ TkH X T s' ∧ tn i s'.heap ∧ (∀ b ∈ fp, H' b = none) ∧ Pv i s'.toks σ' H') ?_ len ⟨0, σ, H2, rfl, Nat.zero_le _, I2, t2, st2, fun b hb => (f2 b hb).1, p0⟩
    rintro k s3 ⟨i, σ3, H3, ek, il, I3, t3, st3, fr3, w3⟩
    by_cases hi : i < len
    · obtain ⟨go, step⟩ := turn i _ σ3 H3 hi w3
      refine wpAny_passesOwn hp (wpAny_mono (PySem.wpAny_toks_of (Nat.le_refl s3.toks) (tu.item i pins s3 σ3 H3 X.xe I3 t3 (stat fr3) st3 go)) (fun r s4 ⟨n4, u, hr, h4⟩ => ?_) fun _ _ z => z.2)
      subst hr
      refine wpAny_passesOwn hp (wpAny_mono (PySem.wpAny_toks_of n4 h4) (fun _ s5 ⟨n5, x, H5, I5, t5, r5, y5, st5, fr5⟩ => ?_) fun _ _ z => z.2)
      have I5' := I5.pinned (stat fr5) (tu.obj _ _ st5)
      refine wpAny_passesOwn hp (thn (step x u H5 s5.toks y5 r5 n5 _ s5 I5' t5 (Nat.le_refl _) r5) fun _ s6 ⟨σ6, H6, T6, I6, t6, n6, q6⟩ => ?_)
      refine wpAny_passesOwn hp (thn (q6 _ s6 I6 t6 (Nat.le_refl _)) fun f s7 q7 => ?_)
      cases f with
      | next =>
        obtain ⟨σ7, H7, T7, I7, t7, k7, p7⟩ := q7
        refine ⟨len - (i + 1), by omega, i + 1, σ7, H7, rfl, hi, I7.unpinned, t7.sub k7, tu.keep _ _ _ st5 fun b hb o e => (I7.pin (b, o) (List.mem_append_right _ (List.mem_append_right _ (mem_pinsAt hb e)))).1, fun b hb => ?_, p7⟩
        obtain ⟨o, e, d⟩ := tu.obj _ _ st5 b hb
        exact (I7.pin (b, o) (List.mem_append_right _ (List.mem_append_right _ (mem_pinsAt hb e)))).2.1
      | ret v =>
        obtain ⟨x7, σ7, H7, I7, r7, p7⟩ := q7
        exact ⟨x7, σ7, H7, I7.unpinned, r7, p7⟩
      | brk => exact q7.elim
      | cont => exact q7.elim
    · have hl : i = len := by omega
      subst hl
      obtain ⟨stop, wr⟩ := fin _ σ3 H3 w3
      refine wpAny_passesOwn hp (wpAny_mono (PySem.wpAny_toks_of (Nat.le_refl s3.toks) (tu.done i pins s3 σ3 H3 X.xe I3 t3 (stat fr3) st3 stop)) (fun r s4 ⟨n4, hr, I4, t4⟩ => ?_) fun _ _ z => z.2)
      subst hr
      exact wpAny_execs_nil ⟨σ3, H3, T, I4, t4, wsf_mono wr n4⟩
  · cases f with
    | next =>
      obtain ⟨σ', H', T', I', t', q⟩ := q
      exact q pins s2 I' t' (Nat.le_refl _)
    | ret v => exact q
    | brk => exact q.elim
    | cont => exact q.elim
/-- for x in range(a drawn number) -/
theorem wsf_forR {e : Expr} {Nm : Nat} (hp : PassesOwn (model X.prog X.w) X.A X.env X.xe) (he : EP X σ H e (fun d => ∃ r : Nat, r ≤ Nm ∧ d = .int (r : Int))) (hNm : Nm ≤ 100000) (hm : X.mg "range" = none) (Pv : Nat → Nat → L2.St → Hp → Prop) (h0 : ∀ M H1, N ≤ M → Same H H1 → Pv 0 M σ H1)
    (step : ∀ i M σ' H', i < Nm → Pv i M σ' H' → ∀ t M', M ≤ M' → WTG X [] M' tg (.int (i : Int)) (.int (i : Int) t) σ' H' fun T2 M2 σ2 H2 => WSF X T2 M2 body { nx := fun _ M3 σ3 H3 => Pv (i + 1) M3 σ3 H3, rt := D.rt } σ2 H2) (hd : ∀ r M σ' H', r ≤ Nm → Pv r M σ' H' → WSF X [] M rest D σ' H')
    (hc : X.calm = true := by rfl) (hfs : ∀ x, foldedSetIterable (.Call (.Name "range" p) [e] [] p2) X.env x = pure x := by intro _; rfl) (hgl : Gl X "range" := by rfl) (hs : starEach [e] X.env = [(false, eval e X.env)] := by exact star_one (by rfl)) : WSF X T N (.For tg (.Call (.Name "range" p) [e] [] p2) body [] pos :: rest) D σ H := by
  refine wsf_drop (wsf_for hp (wif_of (pi_range1 hgl hm (pa_cons (pw e) pa_nil hs) hs) ?_ hc) hfs)
  refine (he H (Same.refl H)).mono fun v H2 ⟨s2, d, ⟨r, hr, e⟩, dv⟩ => ?_
  subst e
  refine ⟨(r : Int), by rw [dp_int dv], by omega, by omega, fun M hM => ⟨r, Pv, h0 M H2 hM s2, fun M' σ' H' pv => ⟨Nat.le_refl _, hd r M' σ' H' hr pv⟩, fun i M' σ' H' hi pv => ⟨hi, fun x u H'' M'' y ru hM' => ?_⟩⟩⟩
  obtain ⟨rfl, rfl⟩ := y
  obtain ⟨t, rfl⟩ := ru
  have e0 : (0 : Int) + (i : Int) = (i : Int) := by omega
  rw [e0]
  refine .mk ?_
  intro pins s I t' n r'
  exact thn (step i M' σ' H'' (by omega) pv t M'' hM' pins s I t' n r') fun _ s' ⟨σ2, H2, T2, I2, t2, n2, q⟩ => ⟨σ2, H2, T2, I2, t2, n2, wsf_conseq q (fun T3 M3 σ3 H3 _ p3 => ⟨fun q hq => (by cases hq), p3⟩) fun _ _ _ _ _ z => z⟩
end
end K10
set_option maxHeartbeats 4000000
/-! some_deed: a deed drawn, its steps' tokens good. -/
namespace K10
open PySem PySem.Spec PyProof.Rows L2 SX
open C8 (Cal pe_c)
section
variable {X : Cx} {T T' : TT2} {N : Nat} {σ : L2.St} {H H' : Hp} {e a b' c : Expr} {pos p p2 apos : Pos} {s : Shared} {rest body orelse : List Stmt} {D : EndF}
theorem wsf_ifJ (J : TT2 → Nat → L2.St → Hp → Prop) (h : WTF X T N c σ H fun b H1 => WSF X T N (if b = true then body else orelse) { nx := J, rt := D.rt } σ H1) (k : ∀ T' M σ' H', N ≤ M → J T' M σ' H' → WSF X T' M rest D σ' H') : WSF X T N (.If c body orelse pos :: rest) D σ H :=
  wsf_if (wtf_mono h fun b H1 q => wsf_conseq q k fun _ _ _ _ _ z => z)
theorem wtf_et {b : Bool} {Q : Bool → Hp → Prop} (h : ET X σ H c b) (k : ∀ H1, Same H H1 → Q b H1) : WTF X [] N c σ H Q := wtf_of (h.run k)
theorem wtf_eqZ {d : Nat} {k : Int} {j : Nat} {Φ : Int → Prop} {Q : Bool → Hp → Prop} {p3 : Pos} (ha : WZ X T N a σ H d Φ) (q : ∀ z H1, Φ z → Same H H1 → Q (decide (z = k)) H1) : WTF X T N (.Compare a [.Eq] [.Constant (.int k) j p3] pos) σ H Q :=
  wtf_cmp ((ha N H (Nat.le_refl _) (Same.refl H)).mono fun v u M H1 hM ⟨s1, n1, z, t, e1, e2, p1⟩ => wef_int fun t2 M2 hM2 => ⟨z == k, by rw [e2]; exact pb_eqI, by
    have : (z == k) = decide (z = k) := by rw [Bool.eq_iff_iff]; simp
    rw [this]; exact q z H1 p1 s1⟩)
/-- xs.append(e) -/
theorem wsf_append {x : Str} {l : Addr} {p1 : Pos} (i : Nat) (hl : σ[i]? = some (some (.ref l))) {xs : List V} (hx : H l = some (.lst xs)) (hz : xs.length < 100000) (h : WE X e σ H fun v H1 => Same H H1 ∧ ∀ M, N ≤ M → WSF X [] M rest D σ (upd H1 l (.lst (xs ++ [v]))))
    (hN : X.N[i]? = some x := by rfl) (hv : Vis X.env.scope x := by first | exact Or.inl rfl | exact Or.inr (Or.inl rfl) | exact Or.inr (Or.inr rfl)) (hd1 : (x == ("__debug__" : Str)) = false := by decide) (hd2 : (x == ("__classdict__" : Str)) = false := by decide)
    (hs : swapsWith (.Call (.Attribute (.Name x p1) "append" apos) [e] [] p2) none pos.line X.env = pure false := by rfl) (he : starEach [e] X.env = (false, eval e X.env) :: starEach [] X.env := by exact star_cons (by rfl)) (hpl : (backTo p2 (starEach [] X.env)).any (·.1) = false := by exact star_any (by rfl))
    (hb : attributeBase (.Name x p1) "append" X.env (eval (.Name x p1) X.env) = eval (.Name x p1) X.env := by rfl) (hline : (apos.endLine == p2.line) = true := by rfl)
    (hfew : ((backTo p2 (starEach [e] X.env)).all (fun x => !x.1) && (backToKw p2 (keywordEach [] X.env)).all (fun x => x.1.isSome) && decide (([e] : List Expr).length + ([] : List Keyword).length + (if ([] : List Keyword).isEmpty then 0 else 1) < 30)) = true := by rfl) :
    WSF X T N (.Expr (.Call (.Attribute (.Name x p1) "append" apos) [e] [] p2) pos :: rest) D σ H := by
  refine wsf_st (ws_of (ps_expr (pe_bm PySem.F.plainAttrs_list PySem.F.slot_list_append PySem.F.type_list_append mt_append (pe_var hN hv hd1 hd2) (pa_cons (pw e) pa_nil he) hb hfew hline he hpl) hs) ?_)
  exact ⟨.ref l, hl, .inl ⟨rfl, _, .of hx⟩, h.mono fun v H1 ⟨s1, q⟩ => ⟨l, xs, v, rfl, rfl, s1 _ _ hx, Nat.lt_of_lt_of_le hz (by decide), q⟩⟩
/-- tuple(xs), xs a list in a slot: the items -/
theorem we_tupleL {x : Str} {l : Addr} {xs : List V} {p1 : Pos} {Q : VK} (i : Nat) (hl : σ[i]? = some (some (.ref l))) (hx : H l = some (.lst xs)) (k : ∀ q, H q = none → Q (.ref q) (upd H q (.tup xs))) (hm : X.mg "tuple" = none) (hN : X.N[i]? = some x := by rfl) (hv : Vis X.env.scope x := by first | exact Or.inl rfl | exact Or.inr (Or.inl rfl) | exact Or.inr (Or.inr rfl)) (hd1 : (x == ("__debug__" : Str)) = false := by decide) (hd2 : (x == ("__classdict__" : Str)) = false := by decide)
    (hg : Gl X "tuple" := by rfl) (he : starEach [.Name x p1] X.env = (false, eval (.Name x p1) X.env) :: starEach [] X.env := by exact star_cons (by rfl)) (hpl : (backTo pos (starEach [] X.env)).any (·.1) = false := by exact star_any (by rfl)) : WE X (.Call (.Name "tuple" p) [.Name x p1] [] pos) σ H Q :=
  we_of (pe_callTy call_tuple_of hg hm (by decide +kernel) (pa_cons (pe_var hN hv hd1 hd2) pa_nil he) (by decide) (by decide) he hpl) ⟨.ref l, hl, l, xs, rfl, .inl ⟨.of hx, fun q hq => k q hq⟩⟩
/-- [..], its object known from now on -/
theorem wef_lstZ {es : List Expr} {Q : V → Value → Nat → Hp → Prop} (h : WAF X T N es σ H fun xs us M H1 => xs.length ≤ 1000 ∧ ∀ p, H1 p = none → Q (.ref p) (.ref p) M (upd H1 p (.frz { cls := .type "list", data := .seq us.toArray 0 } (.lst xs)))) : WEF X T N (.List es pos) σ H Q := .mk fun pins s I t n => by
  refine wpAny_List_spliced (thn (h pos pins s I t n) fun us s1 ⟨xs, H1, I1, r, t1, n1, z, q⟩ => ⟨by rw [← r.length, sizeLine_eq]; omega, ?_⟩)
  have hf : H1 s1.heap.objs.size = none := I1.hok.fresh (Nat.le_refl _)
  have hz : xs.length ≤ sizeLine := by rw [sizeLine_eq]; omega
  refine ⟨.ref s1.heap.objs.size, upd H1 s1.heap.objs.size (.frz { cls := .type "list", data := .seq us.toArray 0 } (.lst xs)), I1.laid (t' := s1.toks) (fun b u e => Heap.get?_push_of_some _ e) (Nat.le_refl _) ?_, rfl, t1.kept (t' := s1.toks) fun b o e => Heap.get?_push_of_some _ e, n1, q _ hf⟩
  exact ⟨Heap.get?_push_size _ rfl, hz, us, 0, r, Heap.get?_push_size _ rfl⟩
/-- e[i], e the known list at q -/
theorem wef_ixKL {Q : V → Value → Nat → Hp → Prop} (h : WEF X T N a σ H fun x w M H1 => ∃ (q : Addr) (o : Obj) (n : Nat) (xs : List V) (its : List Value), x = .ref q ∧ H1 q = some (.frz o (.lst xs)) ∧ o.cls = .type "list" ∧ o.data = .seq its.toArray n ∧ xs.length ≤ 1000 ∧ WEF X T M b' σ H1 fun y w2 M2 H2 => ∃ i v u, y = .int ((i : Nat) : Int) ∧ Same H1 H2 ∧ xs[i]? = some v ∧ its[i]? = some u ∧ Q v u M2 H2) (hs : PlainIx b' := by exact fun _ _ => rfl) : WEF X T N (.Subscript a b' pos) σ H Q := .mk fun pins s I t n => by
  refine Subscript_ (thn (h pins s I t n) fun w s1 ⟨x, H1, I1, r1, t1, n1, q, o, m, xs, its, e1, hq, oc, od, hz, q1⟩ => thn (q1 pins s1 I1 t1 (Nat.le_refl _)) fun w2 s2 ⟨y, H2, I2, r2, t2, n2, i, v, u, e2, sm, hi, hu, q2⟩ => ?_)
  subst e1 e2
  obtain rfl : w = Value.ref q := r1
  obtain ⟨ti, rfl⟩ := r2
  obtain ⟨e3, _, its', n', rv, e4⟩ := I2.hok q _ (sm _ _ hq)
  have e5 : o.data = .seq its'.toArray n' := by
    rw [e3] at e4
    cases e4
    rfl
  rw [od] at e5
  have e6 : its = its' := by
    have := congrArg (fun d => match d with | Data.seq a _ => a.toList | _ => []) e5
    simpa using this
  subst e6
  have hl : s2.heap.IsList q its.toArray := ⟨o, e3, oc, m, od⟩
  have hr : RelV v u := by
    obtain ⟨u', e1, e2⟩ := rv.get hi
    rw [hu] at e1
    cases e1
    exact e2
  have hlt := (List.getElem?_eq_some_iff.mp hi).1
  exact item_listR hl (by omega) (by have : (i : Int) < 1000 := by omega
                                     exact Int.lt_trans this (by decide)) (by simpa using hu) ⟨v, H2, I2, hr, t2, Nat.le_trans n1 n2, q2⟩ (hs _ _)
/-- the kind of a known step -/
theorem wg_ix0 {x : Str} {q : Addr} {y : Nat × Nat × Nat} {j : Nat} {p1 p3 : Pos} (i : Nat) (hσ : σ[i]? = some (some (.ref q))) (h : StepAt X.K N H q y) (hN : X.N[i]? = some x := by rfl) (hk : X.env.scope.names.lookup x = some .local := by rfl) (hd : (x == ("__debug__" : Str)) = false := by decide) :
    WG X T N (.Subscript (.Name x p1) (.Constant (.int 0) j p3) pos) σ H (fun z => z = y.1) := fun N' H' hn hs => by
  obtain ⟨o, n, t, t1, t2, h1, h2, h3, h4⟩ := h
  exact wef_ixK (q := q) (xs := [.str (S [y.1]), .int (y.2.1 : Int), .int (y.2.2 : Int)]) (its := [Value.str (S [y.1]) t, .int (y.2.1 : Int) t1, .int (y.2.2 : Int) t2]) (i := 0) (v := .str (S [y.1])) (u := Value.str (S [y.1]) t) (wef_v i hσ (fun u M hu hM => ⟨rfl, ⟨o, n, hs _ _ h1, h2, h3⟩, wef_int fun t' M' hM' => ⟨rfl, Same.refl _, Same.refl _, by omega, y.1, t, rfl, rfl, rfl, h4.mono (by omega)⟩⟩) hN hk hd) rfl rfl
/-- ["*", "~"][a drawn number] -/
theorem wg_star {j0 j1 : Nat} {p0 p1 p3 : Pos} {z0 z1 : Str} (h1 : 1 ≤ N) (hz0 : z0 = S [42]) (hz1 : z1 = S [126]) (hb : WZ X [] N b' σ H 0 (fun z => ∃ r : Nat, r < 2 ∧ z = (r : Int)))
    (hs0 : starEach [.Constant (.str z0) j0 p0, .Constant (.str z1) j1 p1] X.env = (false, eval (.Constant (.str z0) j0 p0) X.env) :: starEach [.Constant (.str z1) j1 p1] X.env := by exact star_cons (by rfl)) (hs1 : starEach [.Constant (.str z1) j1 p1] X.env = (false, eval (.Constant (.str z1) j1 p1) X.env) :: starEach [] X.env := by exact star_cons (by rfl))
    (hs : PlainIx b' := by exact fun _ _ => rfl) : WG X [] N (.Subscript (.List [.Constant (.str z0) j0 p0, .Constant (.str z1) j1 p1] p3) b' pos) σ H (fun c => c = 42 ∨ c = 126) := fun N' H' hn hsm => by
  subst hz0 hz1
  refine wef_ixKL (wef_lstZ (waf_cons (wef_str fun t0 ht0 => waf_cons (wef_str fun t1 ht1 => waf_nil fun M hM => ⟨by simp, fun q hq => ⟨q, _, 0, _, _, rfl, upd_same, rfl, rfl, by simp, ?_⟩⟩) hs1) hs0)) hs
  refine (hb M _ (by omega) (hsm.trans (same_new hq))).mono fun y w M2 H2 hM2 ⟨s2, n2, z, t, e1, e2, r, hr, e3⟩ => ?_
  subst e1 e2 e3
  have nz : ∀ {t : Nat}, N' ≤ t → t ≠ 0 := fun h e => by rw [e] at h; omega
  have hr' : r = 0 ∨ r = 1 := by omega
  rcases hr' with rfl | rfl
  · exact ⟨0, _, _, rfl, s2, rfl, rfl, (same_new hq).trans s2, by omega, 42, t0, .inl rfl, rfl, rfl, nz ht0, by show t0 < M2; omega⟩
  · exact ⟨1, _, _, rfl, s2, rfl, rfl, (same_new hq).trans s2, by omega, 126, t1, .inr rfl, rfl, rfl, nz (by omega), by show t1 < M2; omega⟩
def lastS (deed : List (Nat × Nat × Nat)) : Nat × Nat × Nat := (deed[deed.length - 1]?).getD (0, 0, 0)
theorem last_mem {deed : List (Nat × Nat × Nat)} (h : deed ≠ []) : lastS deed ∈ deed ∧ deed[deed.length - 1]? = some (lastS deed) := by
  have hl : deed.length - 1 < deed.length := by have := List.length_pos_iff.mpr h; omega
  unfold lastS
  rw [List.getElem?_eq_getElem hl]
  exact ⟨List.getElem_mem hl, rfl⟩
theorem ee_last {x : Str} {q : Addr} {deed : List (Nat × Nat × Nat)} {j : Nat} {p1 p3 p4 p5 : Pos} (i : Nat) (hσ : σ[i]? = some (some (.ref q))) (hd : Dp X.K H (.ref q) (.list (deed.map stepD))) (h : deed ≠ []) (hN : X.N[i]? = some x := by rfl) (hv : Vis X.env.scope x := by first | exact Or.inl rfl | exact Or.inr (Or.inl rfl) | exact Or.inr (Or.inr rfl)) (hd1 : (x == ("__debug__" : Str)) = false := by decide) (hd2 : (x == ("__classdict__" : Str)) = false := by decide) :
    EE X σ H (.Subscript (.Name x p1) (.UnaryOp .USub (.Constant (.int 1) j p3) p4) p5) (stepD (lastS deed)) := by
  have hl := List.length_pos_iff.mpr h
  refine ee_ixL (j := deed.length - 1) (ee_var i hσ hd hN hv hd1 hd2) (ee_neg ee_int) (by rw [List.getElem?_map, (last_mem h).2]; rfl) (.inr ⟨by decide, by rw [List.length_map]; omega⟩)
end
section
variable {P : Program} {w : World} {K : PySem.W.Frag} {mg : Str → Option Value} {base : Heap}
theorem c_some (V : Ev mg) (G : Gd K mg "_law_some_deed" s_L_some_deed) (Cp : Cal P w K mg base 2 "_law_pick" (spPick K) []) (Cs : CalT P w K mg base 3 "_law_step" (spStep K) []) (Cb : CalT P w K mg base 3 "_law_back_again" (spBack K) []) : CalT P w K mg base 4 "_law_some_deed" (spBack K) [] := by
  obtain ⟨f, fd, F, g⟩ := G.ex
  refine ⟨f, fd, p_L_some_deed, [], ?_, g, F.kp, F.bindsN (fun _ _ _ _ _ _ us hl => match us, hl with | [_, _, _], _ => rfl), .nil⟩
  refine fnT_of F sc_L_some_deed (fun vs us M H Q ⟨_, _, _, h, _⟩ => by rw [h]; rfl) fun cdv A outer s H vs us Q hr hv h => ⟨[], (fun q hq => by cases hq), ?_⟩
  obtain ⟨dd, n, l, rfl, hd, hn2, hn6, hl0, hl1, hl2, hk⟩ := h
  have hN := sc_L_some_deed.nd
  generalize s.toks = N0 at hk
  refine wsf_ifJ (fun T M σ' H' => T = [] ∧ N0 ≤ M ∧ σ' = start n_L_some_deed [.ref dd, .int (n : Int), .str (S l)] ∧ Same H H') (wtf_eqZ (wz_pick (n := 7) Cp hr 0 rfl hd (show WI _ _ _ _ _ _ ((7 : Nat) : Int) from wi_int) (by decide) (by decide)) fun z H1 _ s1 => ?_) ?_
  · by_cases hz : z = 0
    · rw [if_pos (by simpa using hz)]
      exact wsf_ret (wef_call Cb hr (by decide) rfl (waf_cons (wef_v 0 rfl fun u0 M0 r0 n0 => waf_cons (wef_v 1 rfl fun u1 M1 r1 n1 => waf_cons (wef_v 2 rfl fun u2 M2 r2 n2 => waf_nil fun M3 n3 ds hds => by
        cases hds
        exact ⟨dd, n, l, rfl, hd.same s1, hn2, hn6, hl0, hl1, hl2, fun a deed M H' hM hs da ok => hk a deed M H' (by omega) (s1.trans hs) da ok⟩)))))
    · rw [if_neg (by simpa using hz)]
      exact wsf_nil fun M hM => ⟨rfl, hM, rfl, s1⟩
  rintro T M0 σ' H1 hM0 ⟨rfl, hN0, rfl, s1⟩
  have hd1 := hd.same s1
  -- deed = []
  refine wsf_st (ws_of (ps_set (i := 3) hN rfl (.inl rfl) (pe_lst pa_nil) rfl (.inr rfl)) ?_)
  refine ⟨by decide, fun p hp M1 hM1 => ?_⟩
  have s2 : Same H1 (upd H1 p (.lst [])) := same_new hp
  let St : Nat → Nat → L2.St → Hp → Prop := fun i M σ' H' => Same H1 H' ∧ N0 ≤ M ∧ ∃ (as : List Addr) (deed : List (Nat × Nat × Nat)) (x4 x5 x6 : Option L2.V), σ' = [some (.ref dd), some (.int (n : Int)), some (.str (S l)), some (.ref p), x4, x5, x6] ∧ H' p = some (.lst (as.map .ref)) ∧ Paired (fun q x => StepAt K M H' q x) as deed ∧ deed.length = i ∧ ∀ x ∈ deed, whatOk x.1 ∧ stepOk n x
  have pick : ∀ (m : Nat) {M : Nat} {H2 : Hp} {w3 w4 w5 w6 : Option L2.V} {j : Nat} {p5 p6 p7 p8 : Pos}, Same H1 H2 → 1 ≤ m → m < 1000 → WZ (cxOf CX0 P w K mg base n_L_some_deed "_law_some_deed" (defScope s_L_some_deed) f cdv A outer s H (fun _ _ _ => False)).nox [] M (.Call (.Name "_law_pick" p5) [.Name "_law_draw_here" p6, .Constant (.int (m : Int)) j p7] [] p8) [some (.ref dd), some (.int (n : Int)), some (.str (S l)), w3, w4, w5, w6] H2 0 (fun z => ∃ r : Nat, r < m ∧ z = (r : Int)) := fun m M H2 w3 w4 w5 w6 j p5 p6 p7 p8 hs h1 h2 =>
    wz_pick (n := m) Cp hr 0 rfl (hd1.same hs) wi_int h1 (by omega)
  refine wsf_forR (Nm := 3) PassesOwn.never (EP.imp (ep_ixL (ds := [.int 3, .int 2, .int 3, .int 1, .int 3, .int 2, .int 0]) (en_lst (ea_cons ee_int (ea_cons ee_int (ea_cons ee_int (ea_cons ee_int (ea_cons ee_int (ea_cons ee_int (ea_1 ee_int)))))))).ee (ep_pick (n := 7) Cp hr 0 rfl (hd1.same s2) (ee_int (i := (7 : Nat))) (by decide) (by decide))) (fun d hd => ?_)) (by decide) V.range (fun i M σ' H' => i ≤ 3 ∧ St i M σ' H') ?_ ?_ ?_
  · have hd' : d = .int 0 ∨ d = .int 1 ∨ d = .int 2 ∨ d = .int 3 := by
      simp at hd
      rcases hd with h | h | h | h | h | h | h <;> simp [h]
    rcases hd' with rfl | rfl | rfl | rfl
    · exact ⟨0, by decide, rfl⟩
    · exact ⟨1, by decide, rfl⟩
    · exact ⟨2, by decide, rfl⟩
    · exact ⟨3, by decide, rfl⟩
  · intro M H2 hM hs
    exact ⟨by decide, s2.trans hs, by omega, [], [], none, none, none, rfl, hs _ _ upd_same, .nil, rfl, fun x hx => (by cases hx)⟩
  · rintro i M σ' H2 hi ⟨_, s3, nM, as, deed, x4, x5, x6, rfl, hp2, hpd, hdl, hdo⟩ t4 M3 hM3
    refine wtg_name 4 hN fun M4 hM4 => ⟨[], (fun q hq => by cases hq), ?_⟩
    -- a step drawn
    refine wsf_set 5 hN (wef_call Cs hr (by decide) rfl (waf_cons (wef_v 0 rfl fun u0 M0 r0 n0 => waf_cons (wef_v 1 rfl fun u1 M1 r1 n1 => waf_cons (wef_v 2 rfl fun u2 M2 r2 n2 => waf_nil fun M5 n5 ds hds => by
        cases hds
        refine ⟨dd, n, l, rfl, hd1.same s3, hn2, hn6, hl0, hl1, hl2, fun q x M6 H6 hM6 s6 sx wx ox => ⟨[], (fun q hq => by cases hq), ?_⟩⟩
        -- what holds from here on
        let J : TT2 → Nat → L2.St → Hp → Prop := fun T M' σ' H' => T = [] ∧ M6 ≤ M' ∧ Same H6 H' ∧ ∃ (q : Addr) (x : Nat × Nat × Nat) (w6 : Option L2.V), σ' = [some (.ref dd), some (.int (n : Int)), some (.str (S l)), some (.ref p), some (.int (i : Int)), some (.ref q), w6] ∧ StepAt K M' H' q x ∧ whatOk x.1 ∧ stepOk n x
        let Jw : TT2 → Nat → L2.St → Hp → Prop := fun T M' σ' H' => T = [] ∧ M6 ≤ M' ∧ Same H6 H' ∧ ∃ (q : Addr) (x : Nat × Nat × Nat) (z6 : Int), σ' = [some (.ref dd), some (.int (n : Int)), some (.str (S l)), some (.ref p), some (.int (i : Int)), some (.ref q), some (.int z6)] ∧ StepAt K M' H' q x ∧ whatOk x.1 ∧ stepOk n x
        have m1 : 1 ≤ M6 := by
          obtain ⟨o, m, t, t1, t2, _, _, _, g⟩ := sx
          exact Nat.lt_of_le_of_lt (Nat.zero_le _) g.2
        have s36 : Same H1 H6 := s3.trans s6
        have h6p : ∀ {H'}, Same H6 H' → H' p = some (.lst (as.map .ref)) := fun s => s _ _ (s6 _ _ hp2)
        have hpd6 : ∀ {M' H'}, M6 ≤ M' → Same H6 H' → Paired (fun q x => StepAt K M' H' q x) as deed := fun hm s => Paired.mapP hpd fun a b r => (r.mono (by omega)).same (s6.trans s)
        have dpd : ∀ {M' H'}, M6 ≤ M' → Same H6 H' → Dp K H' (.ref p) (.list (deed.map stepD)) := fun hm s => by
          refine .lst (.of (h6p s)) ?_
          have := hpd6 hm s
          clear hpd hp2 h6p hpd6 hdl hdo
          induction this with
          | nil => exact .nil
          | cons r _ ih => exact .cons r.dp ih
        have g0 : ∀ {M' : Nat} {H' : Hp} {q : Addr} {x : Nat × Nat × Nat} {w6 : Option L2.V} {p5 p6 p7 : Pos}, StepAt K M' H' q x → WG (cxOf CX0 P w K mg base n_L_some_deed "_law_some_deed" (defScope s_L_some_deed) f cdv A outer s H (fun _ _ _ => False)).nox [] M' (.Subscript (.Name "_law_step_here" p5) (.Constant (.int 0) 0 p6) p7) [some (.ref dd), some (.int (n : Int)), some (.str (S l)), some (.ref p), some (.int (i : Int)), some (.ref q), w6] H' (fun z => z = x.1) := fun h => wg_ix0 5 rfl h
        have stE : ∀ {M' : Nat} {H' : Hp} {q : Addr} {x : Nat × Nat × Nat} {w6 : Option L2.V} {p5 p6 p7 : Pos}, StepAt K M' H' q x → EE (cxOf CX0 P w K mg base n_L_some_deed "_law_some_deed" (defScope s_L_some_deed) f cdv A outer s H (fun _ _ _ => False)).nox [some (.ref dd), some (.int (n : Int)), some (.str (S l)), some (.ref p), some (.int (i : Int)), some (.ref q), w6] H' (.Subscript (.Name "_law_step_here" p5) (.Constant (.int 1) 0 p6) p7) (iN x.2.1) ∧
            EE (cxOf CX0 P w K mg base n_L_some_deed "_law_some_deed" (defScope s_L_some_deed) f cdv A outer s H (fun _ _ _ => False)).nox [some (.ref dd), some (.int (n : Int)), some (.str (S l)), some (.ref p), some (.int (i : Int)), some (.ref q), w6] H' (.Subscript (.Name "_law_step_here" p5) (.Constant (.int 2) 0 p6) p7) (iN x.2.2) := fun h => ⟨ee_ixT (j := 1) (ee_var 5 rfl h.dp) ee_int rfl, ee_ixT (j := 2) (ee_var 5 rfl h.dp) ee_int rfl⟩
        refine wsf_ifJ J (wtf_eqZ (pick 4 s36 (by decide) (by decide)) fun z H7 _ s7 => ?_) ?_
        · by_cases hz : z = 0
          · rw [if_pos (by simpa using hz)]
            have sx7 := sx.same s7
            refine wsf_set 5 hN ((WStep.at (wstep_tup (Ψ := fun y => (y.1 = 42 ∨ y.1 = 126) ∧ y.2 = x.2) (wg_star m1 star_S tilde_S (pick 2 (s36.trans s7) (by decide) (by decide))) (wz_wi (wi_of (stE sx7).1)) (wz_wi (wi_of (stE sx7).2)) fun c i j hc hi hj => ⟨x.2.1, x.2.2, hi, hj, hc, rfl⟩) (Nat.le_refl _) (Same.refl _)).mono fun v u M8 H8 hM8 ⟨s8, n8, q8, x8, ⟨e8, e8'⟩, f8, g8, k8⟩ => ⟨[], (fun q hq => by cases hq), wsf_nil fun M9 hM9 => ⟨rfl, by omega, s7.trans s8, q8, x8, x6, by subst f8; rfl, k8.mono hM9, e8.elim (fun e => .inr (.inl e)) (fun e => .inr (.inr e)), by unfold stepOk; rw [e8']; exact ox⟩⟩)
          · rw [if_neg (by simpa using hz)]
            exact wsf_nil fun M hM => ⟨rfl, hM, s7, q, x, x6, rfl, (sx.mono hM).same s7, wx, ox⟩
        rintro T M7 σ7 H7 hM7 ⟨rfl, hM7', s7, q7, x7, w6, rfl, sx7, wx7, ox7⟩
        refine wsf_setZ 6 hN (pick 4 (s36.trans s7) (by decide) (by decide)) (fun q hq => by cases hq) fun z6 M8 H8 _ s8 n8 => ?_
        have hlast : ∀ {a : Prop}, (!(deed.map stepD).isEmpty) = true → deed ≠ [] := fun h e => by rw [e] at h; cases h
        have hM8 : M6 ≤ M8 := by omega
        have sx8 := (sx7.mono (show M7 ≤ M8 by omega)).same s8
        replace s8 := s7.trans s8
        refine wsf_ifJ Jw (wtf_et (b := !(deed.map stepD).isEmpty && (decide (z6 = 0) && !decide (((lastS deed).2.2 : Int) = x7.2.2))) (EW.et (ew_and (et_seqE (ee_var 3 rfl (dpd hM8 s8))) fun h1 => ew_and (et_eqI (ee_var 6 rfl (.int _)) ee_int) fun _ => ew_and1 (et_neI (ee_ixT (j := 2) (ee_last 3 rfl (dpd hM8 s8) (hlast (a := True) h1)) ee_int rfl) (stE sx8).2))) fun H9 s9 => ?_) ?_
        · by_cases hb : (!(deed.map stepD).isEmpty && (decide (z6 = 0) && !decide (((lastS deed).2.2 : Int) = x7.2.2))) = true
          · rw [if_pos hb]
            rw [Bool.and_eq_true, Bool.and_eq_true] at hb
            have hne := hlast (a := True) hb.1
            have hly := hdo _ (last_mem hne).1
            have hnq : ¬ ((lastS deed).2.2 : Int) = x7.2.2 := by simpa using hb.2.2
            have sx9 := sx8.same s9
            refine wsf_set 5 hN ((WStep.at (wstep_tup (Ψ := fun y => y = (x7.1, (lastS deed).2.2, x7.2.2)) (wg_ix0 5 rfl sx9) (wz_wi (wi_of (ee_ixT (j := 2) (ee_last 3 rfl (dpd hM8 (s8.trans s9)) hne) ee_int rfl))) (wz_wi (wi_of (stE sx9).2)) fun c i j hc hi hj => ⟨_, _, hi, hj, by rw [hc]⟩) (Nat.le_refl _) (Same.refl _)).mono fun v u M10 H10 hM10 ⟨s10, n10, q10, x10, e10, f10, g10, k10⟩ => ⟨[], (fun q hq => by cases hq), wsf_nil fun M11 hM11 => ⟨rfl, by omega, s8.trans (s9.trans s10), q10, x10, z6, by subst f10; rfl, k10.mono hM11, by rw [e10]; exact wx7, by rw [e10]; exact ⟨hly.2.2.1, ox7.2.1, fun e => hnq (congrArg (fun k : Nat => (k : Int)) e)⟩⟩⟩)
          · rw [if_neg hb]
            exact wsf_nil fun M hM => ⟨rfl, by omega, s8.trans s9, q7, x7, z6, rfl, (sx8.mono hM).same s9, wx7, ox7⟩
        rintro T M8' σ8 H8' _ ⟨rfl, hM8, s8, q8, x8, z8, rfl, sx8, wx8, ox8⟩
        refine wsf_ifJ Jw (wtf_et (b := !(deed.map stepD).isEmpty && (decide (z8 = 1) && !decide (((lastS deed).2.2 : Int) = x8.2.1))) (EW.et (ew_and (et_seqE (ee_var 3 rfl (dpd hM8 s8))) fun h1 => ew_and (et_eqI (ee_var 6 rfl (.int _)) ee_int) fun _ => ew_and1 (et_neI (ee_ixT (j := 2) (ee_last 3 rfl (dpd hM8 s8) (hlast (a := True) h1)) ee_int rfl) (stE sx8).1))) fun H9 s9 => ?_) ?_
        · by_cases hb : (!(deed.map stepD).isEmpty && (decide (z8 = 1) && !decide (((lastS deed).2.2 : Int) = x8.2.1))) = true
          · rw [if_pos hb]
            rw [Bool.and_eq_true, Bool.and_eq_true] at hb
            have hne := hlast (a := True) hb.1
            have hly := hdo _ (last_mem hne).1
            have hnq : ¬ ((lastS deed).2.2 : Int) = x8.2.1 := by simpa using hb.2.2
            have sx9 := sx8.same s9
            refine wsf_set 5 hN ((WStep.at (wstep_tup (Ψ := fun y => y = (x8.1, x8.2.1, (lastS deed).2.2)) (wg_ix0 5 rfl sx9) (wz_wi (wi_of (stE sx9).1)) (wz_wi (wi_of (ee_ixT (j := 2) (ee_last 3 rfl (dpd hM8 (s8.trans s9)) hne) ee_int rfl))) fun c i j hc hi hj => ⟨_, _, hi, hj, by rw [hc]⟩) (Nat.le_refl _) (Same.refl _)).mono fun v u M10 H10 hM10 ⟨s10, n10, q10, x10, e10, f10, g10, k10⟩ => ⟨[], (fun q hq => by cases hq), wsf_nil fun M11 hM11 => ⟨rfl, by omega, s8.trans (s9.trans s10), q10, x10, z8, by subst f10; rfl, k10.mono hM11, by rw [e10]; exact wx8, by rw [e10]; exact ⟨ox8.1, hly.2.2.1, fun e => hnq (congrArg (fun k : Nat => (k : Int)) (Eq.symm e))⟩⟩⟩)
          · rw [if_neg hb]
            exact wsf_nil fun M hM => ⟨rfl, by omega, s8.trans s9, q8, x8, z8, rfl, (sx8.mono hM).same s9, wx8, ox8⟩
        rintro T M8' σ8 H8' _ ⟨rfl, hM8, s8, q8, x8, z8, rfl, sx8, wx8, ox8⟩
        refine wsf_ifJ Jw (wtf_et (b := !(deed.map stepD).isEmpty && (decide (z8 = 2) && !decide (((lastS deed).2.1 : Int) = x8.2.2))) (EW.et (ew_and (et_seqE (ee_var 3 rfl (dpd hM8 s8))) fun h1 => ew_and (et_eqI (ee_var 6 rfl (.int _)) ee_int) fun _ => ew_and1 (et_neI (ee_ixT (j := 1) (ee_last 3 rfl (dpd hM8 s8) (hlast (a := True) h1)) ee_int rfl) (stE sx8).2))) fun H9 s9 => ?_) ?_
        · by_cases hb : (!(deed.map stepD).isEmpty && (decide (z8 = 2) && !decide (((lastS deed).2.1 : Int) = x8.2.2))) = true
          · rw [if_pos hb]
            rw [Bool.and_eq_true, Bool.and_eq_true] at hb
            have hne := hlast (a := True) hb.1
            have hly := hdo _ (last_mem hne).1
            have hnq : ¬ ((lastS deed).2.1 : Int) = x8.2.2 := by simpa using hb.2.2
            have sx9 := sx8.same s9
            refine wsf_set 5 hN ((WStep.at (wstep_tup (Ψ := fun y => y = (x8.1, (lastS deed).2.1, x8.2.2)) (wg_ix0 5 rfl sx9) (wz_wi (wi_of (ee_ixT (j := 1) (ee_last 3 rfl (dpd hM8 (s8.trans s9)) hne) ee_int rfl))) (wz_wi (wi_of (stE sx9).2)) fun c i j hc hi hj => ⟨_, _, hi, hj, by rw [hc]⟩) (Nat.le_refl _) (Same.refl _)).mono fun v u M10 H10 hM10 ⟨s10, n10, q10, x10, e10, f10, g10, k10⟩ => ⟨[], (fun q hq => by cases hq), wsf_nil fun M11 hM11 => ⟨rfl, by omega, s8.trans (s9.trans s10), q10, x10, z8, by subst f10; rfl, k10.mono hM11, by rw [e10]; exact wx8, by rw [e10]; exact ⟨hly.2.1, ox8.2.1, fun e => hnq (congrArg (fun k : Nat => (k : Int)) e)⟩⟩⟩)
          · rw [if_neg hb]
            exact wsf_nil fun M hM => ⟨rfl, by omega, s8.trans s9, q8, x8, z8, rfl, (sx8.mono hM).same s9, wx8, ox8⟩
        rintro T M8' σ8 H8' _ ⟨rfl, hM8, s8, q8, x8, z8, rfl, sx8, wx8, ox8⟩
        -- deed.append(step_here)
        refine wsf_append 3 rfl (h6p s8) (by have e1 := Paired.length hpd; rw [List.length_map]; omega) (we_var 5 rfl ⟨Same.refl _, fun M hM => wsf_nil fun M' hM' => ⟨by omega, ?_, by omega, as ++ [q8], deed ++ [x8], _, _, _, rfl, ?_, ?_, by rw [List.length_append, hdl]; rfl, fun y hy => ?_⟩⟩)
        · exact same_mut (s36.trans s8) hp
        · rw [upd_same, List.map_append]; rfl
        · have hst : ∀ {a b}, StepAt K M8' H8' a b → StepAt K M' (upd H8' p (.lst (as.map L2.V.ref ++ [L2.V.ref q8]))) a b := fun {a b} r => by
            obtain ⟨o, m, t, t1, t2, h1, h2, h3, h4⟩ := r.mono (show M8' ≤ M' by omega)
            refine ⟨o, m, t, t1, t2, ?_, h2, h3, h4⟩
            rw [upd_ne]
            · exact h1
            · intro e
              rw [e, h6p s8] at h1
              cases h1
          exact paired_app (hst sx8) (Paired.mapP (hpd6 hM8 s8) fun a b r => hst r)
        · rcases List.mem_append.mp hy with hy | hy
          · exact hdo y hy
          · rw [List.mem_singleton.mp hy]; exact ⟨wx8, ox8⟩)))))
  · rintro r M σ' H2 hr3 ⟨_, s3, nM, as, deed, x4, x5, x6, rfl, hp2, hpd, hdl, hdo⟩
    refine wsf_ret (wef_of (we_tupleL 3 rfl hp2 (fun q hq u M' hu hM' => ?_) V.tuple))
    obtain rfl : u = Value.ref q := hu
    have sq : Same H2 (upd H2 q (.tup (as.map .ref))) := same_new hq
    exact hk q deed M' _ (by omega) (s1.trans (s3.trans sq)) ⟨as, .of upd_same, Paired.mapP hpd fun a b r => (r.mono hM').same sq⟩ ⟨by omega, hdo⟩
end
end K10
set_option maxHeartbeats 4000000
/-! Framed rules over data: names, tuples, dicts. -/
namespace K10
open PySem PySem.Spec PyProof.Rows L2 SX
open C8 (Cal pe_c)
section
variable {X : Cx} {T T' : TT2} {N : Nat} {σ : L2.St} {H H' : Hp} {e e1 e2 f a b' c : Expr} {pos p p1 p2 p3 apos : Pos} {s : Shared} {rest body orelse : List Stmt} {D : EndF} {d : PyData}
theorem WEF.monoR {Q Q' : V → Value → Nat → Hp → Prop} (h : WEF X T N e σ H Q) (k : ∀ x u M H1, RelV x u → N ≤ M → Q x u M H1 → Q' x u M H1) : WEF X T N e σ H Q' := .mk fun pins s I t n => thn (h pins s I t n) fun u s1 ⟨x, H1, I1, r, t1, n1, q⟩ => ⟨x, H1, I1, r, t1, n1, k x u _ H1 r n1 q⟩
/-- e gives the data d, names held -/
def WD (X : Cx) (T : TT2) (N : Nat) (e : Expr) (σ : L2.St) (H : Hp) (d : PyData) : Prop := ∀ (N' : Nat) (H' : Hp), N ≤ N' → Same H H' → WEF X T N' e σ H' fun v u M H1 => Same H' H1 ∧ N' ≤ M ∧ Dp X.K H1 v d
theorem WD.at {N' : Nat} (h : WD X T N e σ H d) (n : N ≤ N') (s : Same H H') : WEF X T N' e σ H' fun v u M H1 => Same H' H1 ∧ N' ≤ M ∧ Dp X.K H1 v d := h N' H' n s
theorem WI.at {N' : Nat} {z : Int} (h : WI X T N e σ H z) (n : N ≤ N') (s : Same H H') : WEF X T N' e σ H' fun v u M H1 => Same H' H1 ∧ v = .int z ∧ (∃ t, u = .int z t) ∧ N' ≤ M := h N' H' n s
theorem wi_wd {z : Int} (h : WD X T N e σ H (.int z)) : WI X T N e σ H z := fun N' H' hn hs => (h N' H' hn hs).monoR fun v u M H1 r hM ⟨s1, n1, dv⟩ => by
  have := dp_int dv
  subst this
  exact ⟨s1, rfl, r, n1⟩
theorem wd_wi {z : Int} (h : WI X T N e σ H z) : WD X T N e σ H (.int z) := fun N' H' hn hs => (h N' H' hn hs).mono fun v u M H1 hM ⟨s1, e1, e2, n1⟩ => ⟨s1, n1, by rw [e1]; exact .int z⟩
theorem wd_v {x : Str} {v : V} (i : Nat) (h : σ[i]? = some (some v)) (hd : Dp X.K H v d) (hN : X.N[i]? = some x := by rfl) (hk : X.env.scope.names.lookup x = some .local := by rfl) (hdb : (x == ("__debug__" : Str)) = false := by decide) : WD X T N (.Name x pos) σ H d := fun N' H' hn hs =>
  wef_v i h (fun u M r hM => ⟨Same.refl _, hM, hd.same hs⟩) hN hk hdb
theorem wd_of (h : EE X σ H e d) : WD X [] N e σ H d := fun N' H' hn hs => wef_of ((h H' hs).mono fun v H1 ⟨s1, dv⟩ u M hu hM => ⟨s1, hM, dv⟩)
theorem WD.is {d' : PyData} (h : WD X T N e σ H d) (q : d = d') : WD X T N e σ H d' := q ▸ h
def WDs (X : Cx) (T : TT2) (N : Nat) (es : List Expr) (σ : L2.St) (H : Hp) (ds : List PyData) : Prop := ∀ (N' : Nat) (H' : Hp), N ≤ N' → Same H H' → WAF X T N' es σ H' fun vs us M H1 => Same H' H1 ∧ N' ≤ M ∧ DpAll X.K H1 vs ds
theorem wds_nil : WDs X T N [] σ H [] := fun N' H' hn hs => waf_nil fun M hM => ⟨Same.refl _, hM, .nil⟩
theorem WAF.mono {es : List Expr} {Q Q' : List V → List Value → Nat → Hp → Prop} (h : WAF X T N es σ H Q) (k : ∀ x u M H1, N ≤ M → Q x u M H1 → Q' x u M H1) : WAF X T N es σ H Q' := .mk fun pos pins s I t n => thn (h pos pins s I t n) fun u s1 ⟨x, H1, I1, r, t1, n1, q⟩ => ⟨x, H1, I1, r, t1, n1, k x u _ H1 n1 q⟩
theorem wds_cons {es : List Expr} {ds : List PyData} (h : WD X T N e σ H d) (hr : WDs X T N es σ H ds) (hs : starEach (e :: es) X.env = (false, eval e X.env) :: starEach es X.env := by exact star_cons (by rfl)) : WDs X T N (e :: es) σ H (d :: ds) := fun N' H' hn hsm =>
  waf_cons ((h N' H' hn hsm).mono fun v u M H1 hM ⟨s1, n1, dv⟩ => WAF.mono (hr M H1 (by omega) (hsm.trans s1)) fun vs us M2 H2 hM2 ⟨s2, n2, dvs⟩ => ⟨s1.trans s2, by omega, .cons (dv.same s2) dvs⟩) hs
theorem wd_tup {es : List Expr} {k : Nat} {ds : List PyData} (h : WDs X T N es σ H ds) (hl : ds.length ≤ 1000 := by simp) : WD X T N (.Tuple es k pos) σ H (.tuple ds) := fun N' H' hn hs =>
  wef_tupZ (WAF.mono (h N' H' hn hs) fun vs us M H1 hM ⟨s1, n1, dvs⟩ => ⟨by rw [dpAll_len dvs]; exact hl, fun q hq => ⟨s1.trans (same_new hq), n1, .tup (.inl (.inr ⟨_, upd_same⟩)) (dvs.same (same_new hq))⟩⟩)
/-- e[i], e a tuple -/
theorem wd_ixT {ds : List PyData} {i : Nat} (ha : WD X T N a σ H (.tuple ds)) (hb : WI X T N b' σ H (i : Int)) (hd : ds[i]? = some d) (hz : ds.length ≤ 1000) (hs : PlainIx b' := by exact fun _ _ => rfl) : WD X T N (.Subscript a b' pos) σ H d := fun N' H' hn hsm => .mk fun pins s I t n => by
  refine Subscript_ (thn (ha N' H' hn hsm pins s I t n) fun w s1 ⟨x, H1, I1, r1, t1, n1, sm1, m1, dv⟩ => thn (hb _ H1 (Nat.le_trans hn n1) (hsm.trans sm1) pins s1 I1 t1 (Nat.le_refl _)) fun w2 s2 ⟨y, H2, I2, r2, t2, n2, sm2, e1, ⟨ti, e2⟩, m2⟩ => ?_)
  obtain ⟨q, xs, rfl, hq, hx⟩ := dp_tup (dv.same sm2)
  subst e2
  obtain rfl : w = Value.ref q := r1
  obtain ⟨its, rv, pl, hzz⟩ := I2.tuple hq
  have hl := rv.length
  have hxl := dpAll_len hx
  obtain ⟨v, hv, dvv⟩ := dpAll_at hx hd
  obtain ⟨u, hu, ru⟩ := rv.get hv
  have hlt : i < its.length := (List.getElem?_eq_some_iff.mp hu).1
  have hn63 := line63
  have h1 : seqIndex? (i : Int) its.toArray.size = some i := by
    have := seqIndex_of (n := its.toArray.size) (k := (i : Int)) (by omega) (by rw [List.size_toArray]; omega)
    rw [this, Int.toNat_natCast]
  exact subscriptTail_builtinR (x := u) pl.typeIs slot_tuple_getitem.lookup
    (getItem_tuple (j := i) (Q := fun r s' => r = u ∧ (∃ x H1, Inv X pins σ H1 s' ∧ RelV x r ∧ TkH X T s' ∧ N' ≤ s'.toks ∧ Same H' H1 ∧ N' ≤ s'.toks ∧ Dp X.K H1 x d)) pl (by omega) (by omega) h1 (by simpa using hu) ⟨rfl, v, H2, I2, ru, t2, Nat.le_trans n1 n2, sm1.trans sm2, Nat.le_trans n1 n2, dvv⟩) (hs _ _)
/-- len(e), e a tuple -/
theorem wi_lenT {ds : List PyData} (ha : WD X T N a σ H (.tuple ds)) (hz : ds.length ≤ 1000) (hm : X.mg "len" = none) (hg : Gl X "len" := by rfl)
    (he : starEach [a] X.env = (false, eval a X.env) :: starEach [] X.env := by exact star_cons (by rfl)) (hpl : (backTo pos (starEach [] X.env)).any (·.1) = false := by exact star_any (by rfl)) : WI X T N (.Call (.Name "len" p) [a] [] pos) σ H (ds.length : Nat) := fun N' H' hn hs => .mk fun pins s I t n => by
  refine wpAny_Call_Name_kw (ld_blt I hg hm boot_len ?_ (by decide) (by decide))
  refine PyProof.Rows.callWith_builtin1 (thn ((wds_cons ha wds_nil he) N' H' hn hs pos pins s I t n) fun us s1 ⟨vs, H1, I1, r1, t1, n1, sm, m1, dvs⟩ => ?_) he hpl
  obtain ⟨v, rfl, dv⟩ := dpAll_1 dvs
  obtain ⟨q, xs, rfl, hq, hx⟩ := dp_tup dv
  cases r1 with
  | cons ra rb =>
    cases rb
    obtain rfl := (show _ = Value.ref q from ra)
    obtain ⟨its, rv, pl, _⟩ := I1.tuple hq
    have hl : its.length = ds.length := by rw [← rv.length, dpAll_len hx]
    have hn63 := line63
    have hse := sizeLine_eq
    refine len_tuple pl (by rw [List.size_toArray, hl]; omega) ?_
    rw [List.size_toArray, hl]
    exact ⟨.int _, H1, I1.tok _, ⟨_, rfl⟩, t1.tok, (by show N' ≤ s1.toks + 1 + 1; omega), sm, rfl, ⟨_, rfl⟩, (by show N' ≤ s1.toks + 1 + 1; omega)⟩
/-- tuple + tuple, the second one not empty -/
theorem wd_catT {ds es : List PyData} (ha : WD X T N a σ H (.tuple ds)) (hb : WD X T N b' σ H (.tuple es)) (hne : es ≠ []) (hz : ds.length + es.length ≤ 1000) : WD X T N (.BinOp a .Add b' pos) σ H (.tuple (ds ++ es)) := fun N' H' hn hs => .mk fun pins s I t n => by
  refine wpAny_BinOp (thn (ha N' H' hn hs pins s I t n) fun u s1 ⟨x, H1, I1, r1, t1, n1, sm1, m1, dx⟩ => thn (hb _ H1 (Nat.le_trans hn n1) (hs.trans sm1) pins s1 I1 t1 (Nat.le_refl _)) fun v s2 ⟨y, H2, I2, r2, t2, n2, sm2, m2, dy⟩ => ?_)
  obtain ⟨q, xs, rfl, hq, hx⟩ := dp_tup (dx.same sm2)
  obtain ⟨r, ys, rfl, hr, hy⟩ := dp_tup dy
  obtain rfl : u = Value.ref q := r1
  obtain rfl : v = Value.ref r := r2
  obtain ⟨its, rv, pl, _⟩ := I2.tuple hq
  obtain ⟨its2, rv2, pl2, _⟩ := I2.tuple hr
  have l1 := dpAll_len hx
  have l2 := dpAll_len hy
  have r1' := rv.length
  have r2' := rv2.length
  have hyne : its2 ≠ [] := fun e => by
    rw [e] at r2'
    have : es.length = 0 := by rw [← l2]; exact r2'
    exact hne (List.eq_nil_of_length_eq_zero this)
  have nn : N' ≤ s2.toks := Nat.le_trans n1 n2
  by_cases h0 : its = []
  · subst h0
    have : ds = [] := List.eq_nil_of_length_eq_zero (by rw [← l1]; exact r1')
    subst this
    exact cat_tup0 pl pl2 ⟨.ref r, H2, I2, rfl, t2, nn, sm1.trans sm2, nn, dy⟩
  · refine HT.cat_tup pl pl2 h0 (fun z => absurd z hyne) (fun z => ?_) (by rw [← r1', ← r2', l1, l2, sizeLine_eq]; omega)
    have hf : H2 s2.heap.objs.size = none := I2.hok.fresh (Nat.le_refl _)
    refine ⟨.ref s2.heap.objs.size, _, I2.laid (t' := s2.toks) (o := .tup (xs ++ ys)) (fun b ob q => Heap.get?_push_of_some _ q) (Nat.le_refl _) ?_, rfl, t2.kept (t' := s2.toks) fun b o e => Heap.get?_push_of_some _ e, nn, (sm1.trans sm2).trans (same_new hf), nn, .tup (.of upd_same) ((dpAll_app hx hy).same (same_new hf))⟩
    exact ⟨by rw [List.length_append, l1, l2, sizeLine_eq]; omega, _, rv.append rv2, IsTup.new _ _⟩
/-! ### tests -/
structure WW2 (X : Cx) (T : TT2) (N : Nat) (e : Expr) (σ : L2.St) (H : Hp) (Q : Bool → Hp → Prop) : Prop where
  run : ∀ (whole : Sem Value) (pins : List (Addr × Obj)) (s : Shared), Inv X pins σ H s → TkH X T s → N ≤ s.toks →
  wpAny (model X.prog X.w) X.A (isTrue e X.env whole) (fun c s1 => ∃ H1, Inv X pins σ H1 s1 ∧ TkH X T s1 ∧ N ≤ s1.toks ∧ Q c H1) X.xe s
instance (X : Cx) (T : TT2) (N : Nat) (e : Expr) (σ : L2.St) (H : Hp) (Q : Bool → Hp → Prop) : CoeFun (WW2 X T N e σ H Q) fun _ => ∀ (whole : Sem Value) (pins : List (Addr × Obj)) (s : Shared), Inv X pins σ H s → TkH X T s → N ≤ s.toks →
  wpAny (model X.prog X.w) X.A (isTrue e X.env whole) (fun c s1 => ∃ H1, Inv X pins σ H1 s1 ∧ TkH X T s1 ∧ N ≤ s1.toks ∧ Q c H1) X.xe s := ⟨WW2.run⟩
/-- a test's answer b -/
def WB (X : Cx) (T : TT2) (N : Nat) (e : Expr) (σ : L2.St) (H : Hp) (b : Bool) : Prop := ∀ (N' : Nat) (H' : Hp), N ≤ N' → Same H H' → WTF X T N' e σ H' fun c H1 => Same H' H1 ∧ c = b
theorem wb_and {x y : Bool} (h1 : WB X T N e1 σ H x) (h2 : x = true → WB X T N e2 σ H y) : WB X T N (.BoolOp .And [e1, e2] pos) σ H (x && y) := fun N' H' hn hs => .mk fun pins s I t n => by
  refine isTrue_and (thn (h1 N' H' hn hs pins s I t n) fun c s1 ⟨H1, I1, t1, n1, s01, e⟩ => ?_)
  subst e
  cases c with
  | true =>
    refine isTrue_and (thn (h2 rfl _ H1 (Nat.le_trans hn n1) (hs.trans s01) pins s1 I1 t1 (Nat.le_refl _)) fun c2 s2 ⟨H2, I2, t2, n2, s12, e2⟩ => ?_)
    subst e2
    cases c2 with
    | true => exact isTrue_and_nil ⟨H2, I2, t2, Nat.le_trans n1 n2, s01.trans s12, rfl⟩
    | false => exact ⟨H2, I2, t2, Nat.le_trans n1 n2, s01.trans s12, rfl⟩
  | false => exact ⟨H1, I1, t1, n1, s01, rfl⟩
theorem wb_gtI {i j : Int} (ha : WI X T N a σ H i) (hb : WI X T N b' σ H j) : WB X T N (.Compare a [.Gt] [b'] pos) σ H (decide (j < i)) := fun N' H' hn hs =>
  wtf_cmp ((WI.at ha hn hs).mono fun v u M H1 hM ⟨s1, e1, ⟨t, e2⟩, n1⟩ => (WI.at hb (by omega) (hs.trans s1)).mono fun v2 u2 M2 H2 hM2 ⟨s2, e3, ⟨t2, e4⟩, n2⟩ => ⟨decide (j < i), by rw [e2, e4]; exact pb_gtI, s1.trans s2, rfl⟩)
theorem wb_eqI {i j : Int} (ha : WI X T N a σ H i) (hb : WI X T N b' σ H j) : WB X T N (.Compare a [.Eq] [b'] pos) σ H (decide (i = j)) := fun N' H' hn hs =>
  wtf_cmp ((WI.at ha hn hs).mono fun v u M H1 hM ⟨s1, e1, ⟨t, e2⟩, n1⟩ => (WI.at hb (by omega) (hs.trans s1)).mono fun v2 u2 M2 H2 hM2 ⟨s2, e3, ⟨t2, e4⟩, n2⟩ => ⟨i == j, by rw [e2, e4]; exact pb_eqI, s1.trans s2, by rw [Bool.eq_iff_iff]; simp⟩)
theorem WB.run {b : Bool} {Q : Bool → Hp → Prop} (h : WB X T N c σ H b) (k : ∀ H1, Same H H1 → Q b H1) : WTF X T N c σ H Q := wtf_mono (h N H (Nat.le_refl _) (Same.refl _)) fun x H1 ⟨s1, e⟩ => by rw [e]; exact k H1 s1
end
end K10
/-! The symbolic state behind a deed: what its nets, blocks and needs say. -/
namespace K10
/-- the symbolic state: for each place the places whose things it holds; things more; needs -/
structure SSt where
  bl : List (List Nat)
  nt : List ((Nat × Nat) × Int)
  nd : List (List Nat × Nat × Nat)
abbrev Nets := List ((Nat × Nat) × Int)
def nAt (xs : Nets) (k : Nat × Nat) : Option Int := (xs.find? fun x => decide (x.1 = k)).map (·.2)
def nPut (xs : Nets) (k : Nat × Nat) (i : Int) : Nets := if (nAt xs k).isSome then xs.map fun x => if x.1 = k then (x.1, i) else x else xs ++ [(k, i)]
def netV (xs : Nets) (k : Nat × Nat) : Int := (nAt xs k).getD 0
theorem nAt_nil (k : Nat × Nat) : nAt [] k = none := rfl
theorem nAt_cons (x : (Nat × Nat) × Int) (xs : Nets) (k : Nat × Nat) : nAt (x :: xs) k = if x.1 = k then some x.2 else nAt xs k := by
  unfold nAt
  rw [List.find?_cons]
  by_cases h : x.1 = k
  · simp [h]
  · simp [h]
theorem nAt_none {xs : Nets} {k : Nat × Nat} : nAt xs k = none ↔ k ∉ xs.map (·.1) := by
  induction xs with
  | nil => simp [nAt_nil]
  | cons x xs ih =>
    rw [nAt_cons, List.map_cons, List.mem_cons, not_or]
    by_cases h : x.1 = k
    · simp [h]
    · rw [if_neg h, ih]
      constructor
      · exact fun q => ⟨fun e => h e.symm, q⟩
      · exact fun q => q.2
theorem nAt_app (xs ys : Nets) (k : Nat × Nat) : nAt (xs ++ ys) k = (nAt xs k).or (nAt ys k) := by
  induction xs with
  | nil => simp [nAt_nil]
  | cons x xs ih =>
    rw [List.cons_append, nAt_cons, nAt_cons, ih]
    split <;> simp
theorem nAt_upd (xs : Nets) (k j : Nat × Nat) (i : Int) : nAt (xs.map fun x => if x.1 = k then (x.1, i) else x) j = if j = k then (nAt xs k).map fun _ => i else nAt xs j := by
  induction xs with
  | nil => simp [nAt_nil]
  | cons x xs ih =>
    rw [List.map_cons, nAt_cons, nAt_cons, nAt_cons, ih]
    by_cases h1 : x.1 = k <;> by_cases h2 : j = k
    · subst h2
      simp [h1]
    · have : ¬ k = j := fun e => h2 e.symm
      simp [h1, h2, this]
    · subst h2
      simp [h1]
    · simp [h1, h2]
theorem nAt_put (xs : Nets) (k j : Nat × Nat) (i : Int) : nAt (nPut xs k i) j = if j = k then some i else nAt xs j := by
  unfold nPut
  cases h : nAt xs k with
  | some v =>
    simp only [Option.isSome_some, if_true]
    rw [nAt_upd, h]
    rfl
  | none =>
    simp only [Option.isSome_none, Bool.false_eq_true, if_false]
    rw [nAt_app, nAt_cons, nAt_nil]
    by_cases hj : j = k
    · subst hj
      simp [h]
    · have : ¬ k = j := fun e => hj e.symm
      simp [hj, this]
theorem netV_put (xs : Nets) (k j : Nat × Nat) (i : Int) : netV (nPut xs k i) j = if j = k then i else netV xs j := by
  unfold netV
  rw [nAt_put]
  split <;> rfl
theorem keys_put (xs : Nets) (k : Nat × Nat) (i : Int) : (nPut xs k i).map (·.1) = if k ∈ xs.map (·.1) then xs.map (·.1) else xs.map (·.1) ++ [k] := by
  unfold nPut
  cases h : nAt xs k with
  | some v =>
    have : k ∈ xs.map (·.1) := by
      apply Classical.byContradiction
      intro hn
      rw [nAt_none.mpr hn] at h
      cases h
    rw [if_pos this]
    simp only [Option.isSome_some, if_true]
    rw [List.map_map]
    apply List.map_congr_left
    intro x _
    show (if x.1 = k then (x.1, i) else x).1 = x.1
    split <;> rfl
  | none =>
    rw [if_neg (nAt_none.mp h)]
    simp
theorem nod_put {xs : Nets} {k : Nat × Nat} {i : Int} (h : (xs.map (·.1)).Nodup) : ((nPut xs k i).map (·.1)).Nodup := by
  rw [keys_put]
  split
  · exact h
  · rename_i hk
    refine List.nodup_append.mpr ⟨h, by simp, fun a ha b hb e => ?_⟩
    rw [List.mem_singleton.mp hb] at e
    exact hk (e ▸ ha)
theorem mem_put {xs : Nets} {k : Nat × Nat} {i : Int} {e : (Nat × Nat) × Int} (h : e ∈ nPut xs k i) : e = (k, i) ∨ e ∈ xs := by
  unfold nPut at h
  split at h
  · obtain ⟨x, hx, rfl⟩ := List.mem_map.mp h
    by_cases hk : x.1 = k
    · rw [if_pos hk, hk]; exact .inl rfl
    · rw [if_neg hk]; exact .inr hx
  · rcases List.mem_append.mp h with h | h
    · exact .inr h
    · exact .inl (List.mem_singleton.mp h)
theorem nAt_mem {xs : Nets} (hn : (xs.map (·.1)).Nodup) {e : (Nat × Nat) × Int} (h : e ∈ xs) : nAt xs e.1 = some e.2 := by
  induction xs with
  | nil => cases h
  | cons x xs ih =>
    rw [nAt_cons]
    rw [List.map_cons, List.nodup_cons] at hn
    rcases List.mem_cons.mp h with rfl | h
    · simp
    · have : ¬ x.1 = e.1 := fun q => hn.1 (q ▸ List.mem_map.mpr ⟨e, h, rfl⟩)
      rw [if_neg this]
      exact ih hn.2 h
theorem mem_nAt {xs : Nets} {k : Nat × Nat} {i : Int} (h : nAt xs k = some i) : (k, i) ∈ xs := by
  unfold nAt at h
  obtain ⟨x, hx, rfl⟩ := Option.map_eq_some_iff.mp h
  have h1 := List.find?_some hx
  have h2 := List.mem_of_find?_eq_some hx
  have h1 : x.1 = k := by simpa using h1
  rw [← h1]
  exact h2
/-- the sum of the values whose keys are so -/
def sumK (xs : Nets) (f : (Nat × Nat) → Bool) : Int := ((xs.filter fun e => f e.1).map (·.2)).sum
theorem sumK_cons (x : (Nat × Nat) × Int) (xs : Nets) (f : (Nat × Nat) → Bool) : sumK (x :: xs) f = (if f x.1 then x.2 else 0) + sumK xs f := by
  unfold sumK
  rw [List.filter_cons]
  split <;> simp
theorem sumK_one {xs : Nets} (hn : (xs.map (·.1)).Nodup) (k : Nat × Nat) : sumK xs (fun q => decide (q = k)) = netV xs k := by
  induction xs with
  | nil => rfl
  | cons x xs ih =>
    rw [List.map_cons, List.nodup_cons] at hn
    rw [sumK_cons, ih hn.2]
    unfold netV
    rw [nAt_cons]
    by_cases h : x.1 = k
    · have : nAt xs k = none := nAt_none.mpr (h ▸ hn.1)
      simp [h, this]
    · simp [h]
theorem sumK_two {xs : Nets} (f g h : (Nat × Nat) → Bool) (hf : ∀ q, f q = (g q || h q)) (hd : ∀ q, ¬ (g q = true ∧ h q = true)) : sumK xs f = sumK xs g + sumK xs h := by
  induction xs with
  | nil => rfl
  | cons x xs ih =>
    rw [sumK_cons, sumK_cons, sumK_cons, ih, hf]
    have := hd x.1
    cases hg : g x.1 <;> cases hh : h x.1 <;> simp [hg, hh] at * <;> omega
theorem sumK_none {xs : Nets} (f : (Nat × Nat) → Bool) (hf : ∀ q, f q = false) : sumK xs f = 0 := by
  induction xs with
  | nil => rfl
  | cons x xs ih => rw [sumK_cons, ih, hf]; rfl
/-- found[to] = found.get(to, 0) + number, entry by entry -/
def addNets (φ : Nat × Nat → Nat × Nat) (f : Nets) (xs : Nets) : Nets := xs.foldl (fun f e => nPut f (φ e.1) (netV f (φ e.1) + e.2)) f
theorem addNets_at (φ : Nat × Nat → Nat × Nat) : ∀ (xs f : Nets) (k : Nat × Nat), netV (addNets φ f xs) k = netV f k + sumK xs fun q => decide (φ q = k)
  | [], f, k => by show netV f k = netV f k + 0; omega
  | x :: xs, f, k => by
    show netV (addNets φ (nPut f (φ x.1) (netV f (φ x.1) + x.2)) xs) k = _
    rw [addNets_at, netV_put, sumK_cons]
    by_cases h : φ x.1 = k
    · subst h
      simp
      omega
    · have : ¬ k = φ x.1 := fun e => h e.symm
      simp [h, this]
theorem addNets_nod (φ : Nat × Nat → Nat × Nat) : ∀ (xs f : Nets), (f.map (·.1)).Nodup → ((addNets φ f xs).map (·.1)).Nodup
  | [], _, h => h
  | _ :: xs, _, h => addNets_nod φ xs _ (nod_put h)
theorem addNets_key (φ : Nat × Nat → Nat × Nat) (P : Nat × Nat → Prop) : ∀ (xs f : Nets), (∀ e ∈ f, P e.1) → (∀ e ∈ xs, P (φ e.1)) → ∀ e ∈ addNets φ f xs, P e.1
  | [], _, h, _, e, he => h e he
  | x :: xs, f, h, h2, e, he => addNets_key φ P xs _ (fun e he => by
      rcases mem_put he with rfl | q
      · exact h2 x (List.mem_cons_self ..)
      · exact h e q) (fun e he => h2 e (List.mem_cons_of_mem _ he)) e he
theorem addNets_len (φ : Nat × Nat → Nat × Nat) : ∀ (xs f : Nets), (addNets φ f xs).length ≤ f.length + xs.length
  | [], f => by simp [addNets]
  | x :: xs, f => by
    have h1 := addNets_len φ xs (nPut f (φ x.1) (netV f (φ x.1) + x.2))
    have h2 : (nPut f (φ x.1) (netV f (φ x.1) + x.2)).length ≤ f.length + 1 := by unfold nPut; split <;> simp
    show (addNets φ (nPut f (φ x.1) (netV f (φ x.1) + x.2)) xs).length ≤ _
    rw [List.length_cons]
    omega
/-- found[to] = number, entry by entry, the keys told apart -/
def setNets (φ : Nat × Nat → Nat × Nat) (f : Nets) (xs : Nets) : Nets := xs.foldl (fun f e => nPut f (φ e.1) e.2) f
theorem setNets_eq (φ : Nat × Nat → Nat × Nat) (hφ : ∀ a b, φ a = φ b → a = b) : ∀ (xs f : Nets), (xs.map (·.1)).Nodup → (∀ e ∈ xs, φ e.1 ∉ f.map (·.1)) → setNets φ f xs = f ++ xs.map fun e => (φ e.1, e.2)
  | [], f, _, _ => by simp [setNets]
  | x :: xs, f, hn, hf => by
    rw [List.map_cons, List.nodup_cons] at hn
    have h1 : nPut f (φ x.1) x.2 = f ++ [(φ x.1, x.2)] := by
      unfold nPut
      rw [nAt_none.mpr (hf x (List.mem_cons_self ..))]
      rfl
    show setNets φ (nPut f (φ x.1) x.2) xs = _
    rw [h1, setNets_eq φ hφ xs _ hn.2 fun e he => ?_]
    · simp
    · rw [List.map_append, List.mem_append, not_or]
      refine ⟨hf e (List.mem_cons_of_mem _ he), fun q => ?_⟩
      have q' : φ e.1 = φ x.1 := by simpa using q
      exact hn.1 (List.mem_map.mpr ⟨e, he, hφ _ _ q'⟩)
theorem setNets_map (φ : Nat × Nat → Nat × Nat) (hφ : ∀ a b, φ a = φ b → a = b) {xs : Nets} (hn : (xs.map (·.1)).Nodup) : setNets φ [] xs = xs.map fun e => (φ e.1, e.2) := by
  rw [setNets_eq φ hφ xs [] hn (fun _ _ q => by cases q)]
  rfl
theorem setNets_id {xs : Nets} (hn : (xs.map (·.1)).Nodup) : setNets (fun k => k) [] xs = xs := by
  rw [setNets_map _ (fun _ _ h => h) hn]
  simp
theorem netV_map (φ : Nat × Nat → Nat × Nat) (hφ : ∀ a b, φ a = φ b → a = b) (xs : Nets) (k : Nat × Nat) : netV (xs.map fun e => (φ e.1, e.2)) (φ k) = netV xs k := by
  unfold netV
  congr 1
  induction xs with
  | nil => rfl
  | cons x xs ih =>
    rw [List.map_cons, nAt_cons, nAt_cons, ih]
    by_cases h : x.1 = k
    · simp [h]
    · have : ¬ φ x.1 = φ k := fun e => h (hφ _ _ e)
      simp [h, this]
/-! ### the steps -/
def toG (s g : Nat) (k : Nat × Nat) : Nat × Nat := (if k.1 = s then g else k.1, k.2)
def swp (s g p : Nat) : Nat := if p = s then g else if p = g then s else p
theorem swp_swp (s g p : Nat) : swp s g (swp s g p) = p := by
  unfold swp
  by_cases h1 : p = s
  · subst h1
    rw [if_pos rfl]
    by_cases h : g = p
    · rw [if_pos h]; exact h
    · rw [if_neg h, if_pos rfl]
  · rw [if_neg h1]
    by_cases h2 : p = g
    · subst h2
      rw [if_pos rfl, if_pos rfl]
    · rw [if_neg h2, if_neg h1, if_neg h2]
theorem swp_inj {s g p q : Nat} (h : swp s g p = swp s g q) : p = q := by rw [← swp_swp s g p, h, swp_swp]
def toX (s g : Nat) (k : Nat × Nat) : Nat × Nat := (swp s g k.1, k.2)
theorem toX_toX (s g : Nat) (k : Nat × Nat) : toX s g (toX s g k) = k := by
  unfold toX
  rw [swp_swp]
theorem toX_inj (s g : Nat) (a b : Nat × Nat) (h : toX s g a = toX s g b) : a = b := by
  rw [← toX_toX s g a, h, toX_toX]
def due (st : SSt) (c s : Nat) : Int := 1 - netV st.nt (s, c)
def stepS (st : SSt) (x : Nat × Nat × Nat) : Option SSt :=
  if x.1 = 42 then some ⟨(st.bl.set x.2.2 (srt (rowAt st.bl x.2.2 ++ rowAt st.bl x.2.1))).set x.2.1 [], addNets (toG x.2.1 x.2.2) [] st.nt, st.nd⟩
  else if x.1 = 126 then some ⟨(st.bl.set x.2.1 (rowAt st.bl x.2.2)).set x.2.2 (rowAt st.bl x.2.1), setNets (toX x.2.1 x.2.2) [] st.nt, st.nd⟩
  else if 0 < due st x.1 x.2.1 ∧ rowAt st.bl x.2.1 = [] then none
  else some ⟨st.bl, nPut (nPut (setNets (fun k => k) [] st.nt) (x.2.1, x.1) (netV (setNets (fun k => k) [] st.nt) (x.2.1, x.1) - 1)) (x.2.2, x.1) (netV (nPut (setNets (fun k => k) [] st.nt) (x.2.1, x.1) (netV (setNets (fun k => k) [] st.nt) (x.2.1, x.1) - 1)) (x.2.2, x.1) + 1),
    if 0 < due st x.1 x.2.1 then st.nd ++ [(rowAt st.bl x.2.1, x.1, (due st x.1 x.2.1).toNat)] else st.nd⟩
def firstS (n : Nat) : SSt := ⟨(List.range n).map fun p => [p], [], []⟩
def deedS (n : Nat) (deed : List (Nat × Nat × Nat)) : Option SSt := deed.foldl (fun o x => o.bind fun st => stepS st x) (some (firstS n))
theorem rowAt_set {w : List (List Nat)} {i p : Nat} {l : List Nat} (hi : i < w.length) : rowAt (w.set i l) p = if p = i then l else rowAt w p := by
  unfold rowAt
  by_cases h : p = i
  · subst h
    simp [hi]
  · rw [List.getElem?_set_ne (Ne.symm h), if_neg h]
theorem rowAt_out {w : List (List Nat)} {p : Nat} (h : w.length ≤ p) : rowAt w p = [] := by
  unfold rowAt
  rw [List.getElem?_eq_none h]
  rfl
structure SOk (n : Nat) (st : SSt) : Prop where
  len : st.bl.length = n
  asc : ∀ p, (rowAt st.bl p).Pairwise (· < ·)
  lt : ∀ p q, q ∈ rowAt st.bl p → q < n
  cov : ∀ q, q < n → ∃ p, q ∈ rowAt st.bl p
  inj : ∀ p p' q, q ∈ rowAt st.bl p → q ∈ rowAt st.bl p' → p = p'
  nod : (st.nt.map (·.1)).Nodup
  key : ∀ e ∈ st.nt, e.1.1 < n ∧ e.1.2 ∈ LET
theorem SOk.rowlt {n : Nat} {st : SSt} (h : SOk n st) {p q : Nat} (hq : q ∈ rowAt st.bl p) : p < n := by
  apply Classical.byContradiction
  intro hp
  rw [rowAt_out (by rw [h.len]; omega)] at hq
  cases hq
theorem first_row (n p : Nat) : rowAt (firstS n).bl p = if p < n then [p] else [] := by
  unfold rowAt firstS
  dsimp only
  rw [List.getElem?_map]
  by_cases h : p < n
  · rw [List.getElem?_range h]
    simp [h]
  · rw [List.getElem?_eq_none (by simp; omega)]
    simp [h]
theorem first_ok (n : Nat) : SOk n (firstS n) where
  len := by simp [firstS]
  asc p := by rw [first_row]; split <;> simp
  lt p q h := by
    rw [first_row] at h
    split at h
    · rw [List.mem_singleton.mp h]; assumption
    · cases h
  cov q h := ⟨q, by rw [first_row, if_pos h]; simp⟩
  inj p p' q h h' := by
    rw [first_row] at h h'
    split at h
    · split at h'
      · rw [← List.mem_singleton.mp h, ← List.mem_singleton.mp h']
      · cases h'
    · cases h
  nod := by simp [firstS]
  key e he := by cases he
theorem pair_lt_le {l : List Nat} (h : l.Pairwise (· ≤ ·)) (hn : l.Nodup) : l.Pairwise (· < ·) := by
  have := h.and hn
  exact this.imp fun {a b} ⟨h1, h2⟩ => Nat.lt_of_le_of_ne h1 h2
theorem asc_nodup {l : List Nat} (h : l.Pairwise (· < ·)) : l.Nodup := h.imp fun {a b} q => Nat.ne_of_lt q
theorem step_ok {n : Nat} {st st' : SSt} {x : Nat × Nat × Nat} (h : SOk n st) (hx : stepOk n x) (hw : whatOk x.1) (e : stepS st x = some st') : SOk n st' := by
  obtain ⟨h1, h2, h3⟩ := hx
  unfold stepS at e
  by_cases c1 : x.1 = 42
  · rw [if_pos c1] at e
    cases e
    have row : ∀ p, rowAt ((st.bl.set x.2.2 (srt (rowAt st.bl x.2.2 ++ rowAt st.bl x.2.1))).set x.2.1 []) p = if p = x.2.1 then [] else if p = x.2.2 then srt (rowAt st.bl x.2.2 ++ rowAt st.bl x.2.1) else rowAt st.bl p := fun p => by
      rw [rowAt_set (by rw [List.length_set, h.len]; exact h1), rowAt_set (by rw [h.len]; exact h2)]
    have mem : ∀ p q, q ∈ rowAt ((st.bl.set x.2.2 (srt (rowAt st.bl x.2.2 ++ rowAt st.bl x.2.1))).set x.2.1 []) p ↔ p ≠ x.2.1 ∧ (q ∈ rowAt st.bl p ∨ (p = x.2.2 ∧ q ∈ rowAt st.bl x.2.1)) := fun p q => by
      rw [row]
      by_cases e1 : p = x.2.1
      · simp [e1]
      · by_cases e2 : p = x.2.2
        · rw [if_neg e1, if_pos e2, (srt_perm _).mem_iff, List.mem_append, e2]
          simp [e1, Ne.symm h3]
        · rw [if_neg e1, if_neg e2]
          simp [e1, e2]
    refine ⟨by simp [h.len], fun p => ?_, fun p q hq => ?_, fun q hq => ?_, fun p p' q hq hq' => ?_, addNets_nod _ _ _ (by simp), addNets_key _ (fun k => k.1 < n ∧ k.2 ∈ LET) _ _ (fun e he => by cases he) fun e he => ?_⟩
    · show (rowAt ((st.bl.set x.2.2 (srt (rowAt st.bl x.2.2 ++ rowAt st.bl x.2.1))).set x.2.1 []) p).Pairwise (· < ·)
      rw [row]
      split
      · exact .nil
      · split
        · refine pair_lt_le (srt_sorted _) ((srt_perm _).nodup_iff.mpr (List.nodup_append.mpr ⟨asc_nodup (h.asc _), asc_nodup (h.asc _), fun a ha b hb e => ?_⟩))
          exact h3 (h.inj _ _ b hb (e ▸ ha))
        · exact h.asc p
    · rcases ((mem p q).mp hq).2 with a | a
      · exact h.lt _ _ a
      · exact h.lt _ _ a.2
    · obtain ⟨p, hp⟩ := h.cov q hq
      by_cases e1 : p = x.2.1
      · exact ⟨x.2.2, (mem _ _).mpr ⟨Ne.symm h3, .inr ⟨rfl, e1 ▸ hp⟩⟩⟩
      · exact ⟨p, (mem _ _).mpr ⟨e1, .inl hp⟩⟩
    · obtain ⟨a1, a2⟩ := (mem p q).mp hq
      obtain ⟨b1, b2⟩ := (mem p' q).mp hq'
      rcases a2 with a | ⟨a, a'⟩ <;> rcases b2 with b | ⟨b, b'⟩
      · exact h.inj _ _ q a b
      · exact absurd (h.inj _ _ q a b') a1
      · exact absurd (h.inj _ _ q b a') b1
      · rw [a, b]
    · obtain ⟨k1, k2⟩ := h.key e he
      unfold toG
      dsimp only
      exact ⟨by split <;> assumption, k2⟩
  · rw [if_neg c1] at e
    by_cases c2 : x.1 = 126
    · rw [if_pos c2] at e
      cases e
      have row : ∀ p, rowAt ((st.bl.set x.2.1 (rowAt st.bl x.2.2)).set x.2.2 (rowAt st.bl x.2.1)) p = rowAt st.bl (swp x.2.1 x.2.2 p) := fun p => by
        rw [rowAt_set (by rw [List.length_set, h.len]; exact h2), rowAt_set (by rw [h.len]; exact h1)]
        unfold swp
        by_cases e2 : p = x.2.2
        · subst e2
          rw [if_pos rfl, if_neg (Ne.symm h3), if_pos rfl]
        · by_cases e1 : p = x.2.1
          · rw [if_neg e2, if_pos e1, if_pos e1]
          · rw [if_neg e2, if_neg e1, if_neg e1, if_neg e2]
      have sm := setNets_map (toX x.2.1 x.2.2) (toX_inj _ _) h.nod
      refine ⟨by simp [h.len], fun p => ?_, fun p q hq => ?_, fun q hq => ?_, fun p p' q hq hq' => ?_, ?_, fun e he => ?_⟩
      · show (rowAt ((st.bl.set x.2.1 (rowAt st.bl x.2.2)).set x.2.2 (rowAt st.bl x.2.1)) p).Pairwise (· < ·)
        rw [row]; exact h.asc _
      · exact h.lt _ q ((row p) ▸ hq)
      · obtain ⟨p, hp⟩ := h.cov q hq
        refine ⟨swp x.2.1 x.2.2 p, ?_⟩
        show q ∈ rowAt ((st.bl.set x.2.1 (rowAt st.bl x.2.2)).set x.2.2 (rowAt st.bl x.2.1)) _
        rw [row, swp_swp]
        exact hp
      · exact swp_inj (h.inj _ _ q ((row p) ▸ hq) ((row p') ▸ hq'))
      · show ((setNets (toX x.2.1 x.2.2) [] st.nt).map (·.1)).Nodup
        rw [sm]
        have hn := h.nod
        unfold List.Nodup at hn ⊢
        rw [List.pairwise_map] at hn ⊢
        rw [List.pairwise_map]
        exact hn.imp fun {a b} q e => q (toX_inj _ _ _ _ e)
      · have he' : e ∈ st.nt.map fun e => (toX x.2.1 x.2.2 e.1, e.2) := sm ▸ he
        obtain ⟨e0, h0, rfl⟩ := List.mem_map.mp he'
        obtain ⟨k1, k2⟩ := h.key e0 h0
        unfold toX swp
        dsimp only
        exact ⟨by split <;> (try split) <;> assumption, k2⟩
    · rw [if_neg c2] at e
      by_cases c3 : 0 < due st x.1 x.2.1 ∧ rowAt st.bl x.2.1 = []
      · rw [if_pos c3] at e; cases e
      · rw [if_neg c3] at e
        cases e
        have hl : x.1 ∈ LET := by
          rcases hw with a | a | a
          · exact a
          · exact absurd a c1
          · exact absurd a c2
        refine ⟨h.len, h.asc, h.lt, h.cov, h.inj, nod_put (nod_put (by rw [setNets_id h.nod]; exact h.nod)), fun e he => ?_⟩
        rcases mem_put he with rfl | he
        · exact ⟨h2, hl⟩
        · rcases mem_put he with rfl | he
          · exact ⟨h1, hl⟩
          · rw [setNets_id h.nod] at he
            exact h.key e he
end K10
set_option maxHeartbeats 4000000
/-! Framed rules: dicts of nets. -/
namespace K10
open PySem PySem.Spec PyProof.Rows L2 SX
open C8 (Cal pe_c)
abbrev keyD (k : Nat × Nat) : PyData := .tuple [iN k.1, tx [k.2]]
theorem nk_key {j k : Nat × Nat} (h : nk (keyD j) = nk (keyD k)) : j = k := by
  obtain ⟨a, b⟩ := j
  obtain ⟨c, d⟩ := k
  simp [nk, nkAll] at h
  obtain ⟨h1, h2⟩ := h
  have e : b = d := h2
  rw [e]
  have : a = c := by omega
  rw [this]
theorem ok_key (k : Nat × Nat) : okKey (keyD k) = true := by
  simp [okKey, keyB, keyAll, nk, nkAll, NestedKey.depth, NestedKey.depthAll]
/-- a key's tuple, known; g: its text's token is good -/
def KeyAt (g : Bool) (M : Nat) (H : Hp) (a : Addr) (k : Nat × Nat) : Prop := ∃ (o : Obj) (n : Nat) (t t1 : Tok), H a = some (.frz o (.tup [.int (k.1 : Int), .str (S [k.2])])) ∧ o.cls = .type "tuple" ∧ o.data = .seq [Value.int (k.1 : Int) t1, .str (S [k.2]) t].toArray n ∧ (g = true → Gtok M t)
theorem KeyAt.same {g : Bool} {M : Nat} {H H' : Hp} {a : Addr} {k : Nat × Nat} (h : KeyAt g M H a k) (s : Same H H') : KeyAt g M H' a k := by
  obtain ⟨o, n, t, t1, h1, h2⟩ := h
  exact ⟨o, n, t, t1, s _ _ h1, h2⟩
theorem KeyAt.mono {g : Bool} {M M' : Nat} {H : Hp} {a : Addr} {k : Nat × Nat} (h : KeyAt g M H a k) (n : M ≤ M') : KeyAt g M' H a k := by
  obtain ⟨o, m, t, t1, h1, h2, h3, h4⟩ := h
  exact ⟨o, m, t, t1, h1, h2, h3, fun e => (h4 e).mono n⟩
theorem KeyAt.dp {K : PySem.W.Frag} {g : Bool} {M : Nat} {H : Hp} {a : Addr} {k : Nat × Nat} (h : KeyAt g M H a k) : Dp K H (.ref a) (keyD k) := by
  obtain ⟨o, n, t, t1, h1, h2⟩ := h
  exact .tup (.inl (.inr ⟨_, h1⟩)) (.cons (.int _) (.cons (.str _) .nil))
/-- the entries are these nets -/
def Netx (g : Bool) (M : Nat) (H : Hp) (xs : List Ent) (ns : Nets) : Prop := Paired (fun (e : Ent) (x : (Nat × Nat) × Int) => e.1 = keyD x.1 ∧ e.2.2 = x.2 ∧ KeyAt g M H e.2.1 x.1) xs ns
theorem Netx.same {g : Bool} {M : Nat} {H H' : Hp} {xs : List Ent} {ns : Nets} (h : Netx g M H xs ns) (s : ∀ a k, KeyAt g M H a k → KeyAt g M H' a k) : Netx g M H' xs ns := Paired.mapP h fun e x ⟨h1, h2, h3⟩ => ⟨h1, h2, s _ _ h3⟩
theorem Netx.mono {g : Bool} {M M' : Nat} {H : Hp} {xs : List Ent} {ns : Nets} (h : Netx g M H xs ns) (n : M ≤ M') : Netx g M' H xs ns := Paired.mapP h fun e x ⟨h1, h2, h3⟩ => ⟨h1, h2, h3.mono n⟩
theorem netx_at {g : Bool} {M : Nat} {H : Hp} {xs : List Ent} {ns : Nets} (h : Netx g M H xs ns) (k : Nat × Nat) : entAt xs (keyD k) = nAt ns k := by
  unfold Netx at h
  induction h with
  | nil => rfl
  | @cons e x xs ns r _ ih =>
    obtain ⟨r1, r2, _⟩ := r
    rw [nAt_cons]
    unfold entAt at ih ⊢
    rw [List.find?_cons, r1]
    by_cases hk : x.1 = k
    · rw [hk]
      simp [r2]
    · have : ¬ nk (keyD x.1) = nk (keyD k) := fun e => hk (nk_key e)
      simp only [this, hk, decide_false]
      exact ih
theorem netx_put {g : Bool} {M : Nat} {H : Hp} {xs : List Ent} {ns : Nets} (h : Netx g M H xs ns) (k : Nat × Nat) (a : Addr) (i : Int) (ha : KeyAt g M H a k) : Netx g M H (entPut xs (keyD k) a i) (nPut ns k i) := by
  have e := netx_at h k
  unfold entPut nPut
  rw [e]
  cases q : nAt ns k with
  | none =>
    simp only [Option.isSome_none, Bool.false_eq_true, if_false]
    exact paired_app ⟨rfl, rfl, ha⟩ h
  | some m =>
    simp only [Option.isSome_some, if_true]
    clear e q
    unfold Netx at h ⊢
    induction h with
    | nil => exact .nil
    | @cons e x xs ns r _ ih =>
      rw [List.map_cons, List.map_cons]
      refine .cons ?_ ih
      obtain ⟨r1, r2, r3⟩ := r
      by_cases hk : x.1 = k
      · rw [if_pos hk, if_pos (by rw [r1, hk])]
        exact ⟨r1, rfl, r3⟩
      · rw [if_neg hk, if_neg (fun e => hk (nk_key (by rw [← r1]; exact e)))]
        exact ⟨r1, r2, r3⟩
theorem netx_len {g : Bool} {M : Nat} {H : Hp} {xs : List Ent} {ns : Nets} (h : Netx g M H xs ns) : xs.length = ns.length := Paired.length h
theorem netx_ddk {K : PySem.W.Frag} {g : Bool} {M : Nat} {H : Hp} {xs : List Ent} {ns : Nets} (h : Netx g M H xs ns) (hn : (ns.map (·.1)).Nodup) : DDk K H xs := by
  refine ⟨fun e he => ?_, ?_⟩
  · unfold Netx at h
    clear hn
    induction h with
    | nil => cases he
    | cons r _ ih =>
      rcases List.mem_cons.mp he with rfl | he
      · obtain ⟨r1, _, r3⟩ := r
        rw [r1]
        exact ⟨r3.dp, ok_key _⟩
      · exact ih he
  · have : xs.map (fun x => nk x.1) = ns.map fun x => nk (keyD x.1) := by
      unfold Netx at h
      clear hn
      induction h with
      | nil => rfl
      | cons r _ ih => rw [List.map_cons, List.map_cons, r.1, ih]
    rw [this]
    unfold List.Nodup at *
    rw [List.pairwise_map] at hn ⊢
    exact hn.imp fun {a b} q e => q (nk_key e)
section
variable {X : Cx} {T T' : TT2} {N : Nat} {σ : L2.St} {H H' : Hp} {e e1 e2 f a b' c : Expr} {pos p p1 p2 p3 apos : Pos} {s : Shared} {rest body orelse : List Stmt} {D : EndF} {d : Addr} {xs : List Ent} {ns : Nets} {j : Int} {g : Bool}
theorem DD.ofX (h : DD X H d xs) (s : Same H H') : DD X H' d xs := h.same s
/-- x.get(k, j) -/
theorem wi_get {x : Str} {k : Nat × Nat} (hu : X.A.units + 200 < cLine) (i : Nat) (hσ : σ[i]? = some (some (.ref d))) (D0 : DD X H d xs) (he : WD X T N e σ H (keyD k)) (hf : WI X T N f σ H j) (hN : X.N[i]? = some x := by rfl) (hk : X.env.scope.names.lookup x = some .local := by rfl) (hdb : (x == ("__debug__" : Str)) = false := by decide)
    (m : M2 X (.Name x p1) "get" apos e f pos := by exact ⟨rfl, rfl, rfl, rfl⟩) : WI X T N (.Call (.Attribute (.Name x p1) "get" apos) [e, f] [] pos) σ H ((entAt xs (keyD k)).getD j) := fun N' H' hn hsm => .mk fun pins s I t n => by
  refine wpAny_Call_method m.base m.few m.line PySem.F.plainAttrs_dict PySem.F.slot_dict_get PySem.F.type_dict_get (thn ((wef_v (T := T) (N := N') (Q := fun v u M H1 => v = .ref d ∧ H1 = H') i hσ (fun u M r hM => ⟨rfl, rfl⟩) hN hk hdb) pins s I t n) fun u s1 ⟨x, H1, I1, rx, t1, n1, ex, eh⟩ => ?_)
  subst ex eh
  obtain rfl : u = Value.ref d := rx
  obtain ⟨ys, hp, hm⟩ := (D0.same hsm).of I1
  refine ⟨hm.typeIs, noD hm, ?_⟩
  rw [m.trees]
  refine Calls.callWith_builtin rfl (Calls.evalArgs_plain (Calls.spliced_cons (thn (he _ _ (Nat.le_trans hn n1) hsm pins s1 I1 t1 (Nat.le_refl _)) fun iv s2 ⟨y, H3, I3, ry, t3, n3, s3, m3, dy⟩ =>
    Calls.spliced_cons (thn (hf _ _ (Nat.le_trans hn (Nat.le_trans n1 n3)) (hsm.trans s3) pins s2 I3 t3 (Nat.le_refl _)) fun fv s3' ⟨z, H4, I4, rz, t4, n4, s4, ez, ⟨tz, ez2⟩, m4⟩ => Calls.spliced_nil ?_))))
  subst ez2
  obtain ⟨ka, kx, rfl, _, _⟩ := dp_tup dy
  obtain rfl : iv = Value.ref ka := ry
  have D4 := D0.same (hsm.trans (s3.trans s4))
  obtain ⟨ys, hp, hm⟩ := D4.of I4
  refine PySem.getOr_keyed (knd := nestedKind X.prog X.w) (room_nk hu) (key_is (v := .non) I4 (dy.same s4) (ok_key k)) D4.nosys ⟨ys, hm, rfl⟩ ?_
  have nn : N' ≤ s3'.toks := Nat.le_trans n1 (Nat.le_trans n3 n4)
  rcases valueAt_ent (k := keyD k) hp with ⟨i, t', q1, q2⟩ | ⟨q1, q2⟩
  · rw [q2, q1]
    exact ⟨.int i, H4, I4.tok _, ⟨t', rfl⟩, t4.tok, Nat.le_trans nn (Nat.le_add_right _ _), s3.trans s4, rfl, ⟨t', rfl⟩, Nat.le_trans nn (Nat.le_add_right _ _)⟩
  · rw [q2, q1]
    exact ⟨.int j, H4, I4.tok _, ⟨tz, rfl⟩, t4.tok, Nat.le_trans nn (Nat.le_add_right _ _), s3.trans s4, rfl, ⟨tz, rfl⟩, Nat.le_trans nn (Nat.le_add_right _ _)⟩
/-- x[k] -/
theorem wi_dix {x : Str} {k : Nat × Nat} (hu : X.A.units + 200 < cLine) (i : Nat) (hσ : σ[i]? = some (some (.ref d))) (D0 : DD X H d xs) (he : WD X T N e σ H (keyD k)) (hj : entAt xs (keyD k) = some j) (hN : X.N[i]? = some x := by rfl) (hk : X.env.scope.names.lookup x = some .local := by rfl) (hdb : (x == ("__debug__" : Str)) = false := by decide)
    (hs : NoSl e := by exact fun _ _ => rfl) : WI X T N (.Subscript (.Name x p1) e pos) σ H j := fun N' H' hn hsm => .mk fun pins s I t n => by
  have key : wpAny (model X.prog X.w) X.A (eval (.Subscript (.Name x p1) e pos) X.env) (fun u s1 => ∃ x H1, Inv X pins σ H1 s1 ∧ RelV x u ∧ TkH X T s1 ∧ Same H' H1 ∧ x = .int j ∧ ∃ t, u = .int j t) X.xe s := ?_
  · exact wpAny_mono (PySem.wpAny_toks_of n key) (fun u s1 ⟨n1, x, H1, I1, r, t1, q1, q2, q3⟩ => ⟨x, H1, I1, r, t1, n1, q1, q2, q3, n1⟩) fun _ _ z => z.2
  refine subD_of PySem.F.slot_dict_getitem.lookup hs (thn ((wef_v (T := T) (N := N') (Q := fun v u M H1 => v = .ref d ∧ H1 = H') i hσ (fun u M r hM => ⟨rfl, rfl⟩) hN hk hdb) pins s I t n) fun u s1 ⟨x, H1, I1, rx, t1, n1, ex, eh⟩ => ?_)
  subst ex eh
  obtain rfl : u = Value.ref d := rx
  refine thn (he _ _ (Nat.le_trans hn n1) hsm pins s1 I1 t1 (Nat.le_refl _)) fun iv s2 ⟨y, H3, I3, ry, t3, n3, s3, m3, dy⟩ => ?_
  obtain ⟨ka, kx, rfl, _, _⟩ := dp_tup dy
  obtain rfl : iv = Value.ref ka := ry
  have D3 := D0.same (hsm.trans s3)
  obtain ⟨ys, hp, hm⟩ := D3.of I3
  exact ⟨hm.typeIs, dix_raw hu I3 D3 dy (ok_key k) hj fun t tk => ⟨.int j, H3, I3.tok _, ⟨t, rfl⟩, t3.tok, s3, rfl, ⟨t, rfl⟩⟩⟩
/-- a key's tuple just made -/
def WKey (X : Cx) (T : TT2) (N : Nat) (e : Expr) (σ : L2.St) (H : Hp) (g : Bool) (k : Nat × Nat) : Prop := ∀ (N' : Nat) (H' : Hp), N ≤ N' → Same H H' → WEF X T N' e σ H' fun v u M H1 => Same H' H1 ∧ N' ≤ M ∧ ∃ q, v = .ref q ∧ u = .ref q ∧ KeyAt g M H1 q k
theorem wkey_tup {x y : Str} {k : Nat × Nat} {t : Tok} {kk : Nat} (hx : WI X T N (.Name x p1) σ H (k.1 : Int)) (ht : (y, .str (S [k.2]), .str (S [k.2]) t) ∈ T) (hg : g = true → Gtok N t) (hk : X.env.kindOf y = some .local := by rfl) (hd : (y == ("__debug__" : Str)) = false := by decide)
    (hs0 : starEach [.Name x p1, .Name y p2] X.env = (false, eval (.Name x p1) X.env) :: starEach [.Name y p2] X.env := by exact star_cons (by rfl)) (hs1 : starEach [.Name y p2] X.env = (false, eval (.Name y p2) X.env) :: starEach [] X.env := by exact star_cons (by rfl)) : WKey X T N (.Tuple [.Name x p1, .Name y p2] kk pos) σ H g k := fun N' H' hn hs =>
  wef_tupZ (waf_cons ((WI.at hx hn hs).mono fun v0 u0 M0 H0 hM0 ⟨s0, e0, ⟨t0, f0⟩, n0⟩ => waf_cons (wef_t ht (fun M1 hM1 => waf_nil fun M2 hM2 => ⟨by simp, fun q hq => by
    subst e0 f0
    exact ⟨s0.trans (same_new hq), by omega, q, rfl, rfl, _, _, t, t0, upd_same, rfl, rfl, fun e => (hg e).mono (by omega)⟩⟩) hk hd) hs1) hs0)
/-- a name that holds a key's tuple -/
theorem wkey_v {x : Str} {k : Nat × Nat} {q : Addr} (i : Nat) (hσ : σ[i]? = some (some (.ref q))) (h : KeyAt g N H q k) (hN : X.N[i]? = some x := by rfl) (hk : X.env.scope.names.lookup x = some .local := by rfl) (hd : (x == ("__debug__" : Str)) = false := by decide) : WKey X T N (.Name x pos) σ H g k := fun N' H' hn hs =>
  wef_v i hσ (fun u M r hM => ⟨Same.refl _, hM, q, rfl, r, (h.same hs).mono (by omega)⟩) hN hk hd
/-- x[k] = e -/
theorem wsf_dput {x : Str} {k : Nat × Nat} (hu : X.A.units + 200 < cLine) (i : Nat) (hσ : σ[i]? = some (some (.ref d))) (hd : H d = some (.ext (dPhi X.prog X.w d xs))) (hx : Netx g N H xs ns) (hn : (ns.map (·.1)).Nodup) (hsy : (d == sysModules) = false) (hl : ns.length ≤ 1000) (hv : WI X T N e σ H j) (hk : WKey X T N a σ H g k)
    (q : ∀ xs' M H1, N ≤ M → (∀ H0, Same H0 H → H0 d = none → Same H0 H1) → H1 d = some (.ext (dPhi X.prog X.w d xs')) → Netx g M H1 xs' (nPut ns k j) → WSF X T M rest D σ H1)
    (hN : X.N[i]? = some x := by rfl) (hkl : X.env.scope.names.lookup x = some .local := by rfl) (hdb : (x == ("__debug__" : Str)) = false := by decide) (hs : swapsWith e (some (.Subscript (.Name x p1) a p3)) pos.line X.env = pure false := by rfl) :
    WSF X T N (.Assign [.Subscript (.Name x p1) a p3] e pos :: rest) D σ H := by
  refine .mk ?_
  intro pins s I t n
  refine wpAny_execs_cons (wpAny_mono (PySem.wpAny_toks_of n (?_ : wpAny (model X.prog X.w) X.A (exec (.Assign [.Subscript (.Name x p1) a p3] e pos) X.env) (fun f s' => f = .next ∧ ∃ ka M H3, N ≤ M ∧ M ≤ s'.toks ∧ Same H H3 ∧ KeyAt g M H3 ka k ∧ Inv X pins σ (upd H3 d (.ext (dPhi X.prog X.w d (entPut xs (keyD k) ka j)))) s' ∧ TkH X T s') X.xe s)) (fun f s' ⟨n1, ef, ka, M, H3, hM, hM2, s03, ky, I4, t4⟩ => ?_) fun _ _ z => z.2)
  · refine wpAny_Assign_Subscript (thn (hv N H (Nat.le_refl _) (Same.refl H) pins s I t n) fun r s1 ⟨v, H1, I1, rv, t1, n1, s01, ev, ⟨tv, er⟩, m1⟩ => thn ((wef_v (T := T) (N := s1.toks) (Q := fun v u M H2 => v = .ref d ∧ H2 = H1) i hσ (fun u M r hM => ⟨rfl, rfl⟩) hN hkl hdb) pins s1 I1 t1 (Nat.le_refl _)) fun u s2 ⟨y, H2, I2, ry, t2, n2, ey, eh⟩ => ?_) hs
    subst ey eh er
    obtain rfl : u = Value.ref d := ry
    refine thn (hk _ H2 (Nat.le_trans n1 n2) s01 pins s2 I2 t2 (Nat.le_refl _)) fun iv s3 ⟨z, H3, I3, rz, t3, n3, s13, m3, ka, ez, ez2, ky⟩ => ?_
    subst ez ez2
    have s03 := s01.trans s13
    have DK : DDk X.K H3 xs := (netx_ddk hx hn).same s03
    refine wpAny_mono (PySem.wpAny_toks_of (Nat.le_refl s3.toks) (dset_raw (Q := fun _ s' => ∃ h', Heap.SameBut d s3.heap h' ∧ ∃ tk, s' = { s3 with heap := h', toks := tk } ∧ Inv X pins σ (upd H3 d (.ext (dPhi X.prog X.w d (entPut xs (keyD k) ka j)))) s') hu I3 (s03 _ _ hd) DK hsy ky.dp (ok_key k) (by rw [netx_len hx]; omega) fun h' tk sb I4 => ⟨h', sb, tk, rfl, I4⟩)) (fun _ s' ⟨n4, h', sb, tk, es, I4⟩ => ?_) fun _ _ z => z.2
    refine ⟨rfl, ka, s3.toks, H3, Nat.le_trans n1 (Nat.le_trans n2 n3), n4, s03, ky, I4, ?_⟩
    subst es
    obtain ⟨m, h1, h2⟩ := t3
    have nd : X.env.locals ≠ d := fun e => by
      have z := I3.free
      rw [e, s03 _ _ hd] at z
      cases z
    obtain ⟨o, es, ep, g1, g2, g3, g4⟩ := h1
    exact ⟨m, ⟨o, es, ep, (sb.2 _ nd).trans g1, g2, g3, g4⟩, h2⟩
  · subst ef
    have kp' : ∀ a k', KeyAt g M H3 a k' → KeyAt g M (upd H3 d (.ext (dPhi X.prog X.w d (entPut xs (keyD k) ka j)))) a k' := fun a k' ⟨o, m, t, t1, h1, h2⟩ => by
      refine ⟨o, m, t, t1, ?_, h2⟩
      rw [upd_ne]
      · exact h1
      · intro e
        rw [e, s03 _ _ hd] at h1
        cases h1
    exact q _ M _ hM (fun H0 h0 hn0 => same_mut (h0.trans s03) hn0) upd_same (((netx_put ((hx.mono hM).same fun a k h => h.same s03) k ka j ky)).same kp') pins s' I4 t4 hM2
/-- {} -/
theorem wsf_dnew {x : Str} {pos' : Pos} (i : Nat) (hN : X.N.Nodup) (hT : ∀ q ∈ T, q.1 ≠ x) (k : ∀ d M, N ≤ M → H d = none → (d == sysModules) = false → WSF X T M rest D (σ.set i (some (.ref d))) (upd H d (.ext (dPhi X.prog X.w d [])))) (hi : X.N[i]? = some x := by rfl) (hk : X.env.scope.names.lookup x = some .local := by rfl)
    (hs : swapsWith (.Dict [] [] p) (some (.Name x pos')) pos.line X.env = pure false := by rfl) : WSF X T N (.Assign [.Name x pos'] (.Dict [] [] p) pos :: rest) D σ H :=
  wsf_set i hN (.mk fun pins s I t n => by
    refine wpAny_Dict_empty ⟨.ref s.heap.objs.size, _, I.laid (a := s.heap.objs.size) (o := .ext (dPhi X.prog X.w s.heap.objs.size [])) (t' := s.toks) (fun _ _ q => Heap.get?_push_of_some _ q) (Nat.le_refl _) ?_, rfl, t.kept (t' := s.toks) fun b o e => Heap.get?_push_of_some _ e, n, T, fun q hq => .inl ⟨hT q hq, hq⟩, k _ _ n (I.hok.fresh (Nat.le_refl _)) (beq_eq_false_iff_ne.mpr (Nat.ne_of_gt I.big))⟩
    obtain ⟨o, es, ep, e1, e2, e3, e4, _, _⟩ := Heap.DictOfH.new (knd := nestedKind X.prog X.w) s.heap
    exact ⟨⟨[], .nil, o, es, ep, e1, e2, e3, e4⟩, ⟨o, e1⟩, fun h1 h2 ⟨zs, z1, o', es', ep', z2, z3⟩ k => ⟨zs, z1, o', es', ep', k _ z2, z3⟩⟩) hi hk hs
theorem wsf_freeze {u : HO} (h : H d = some u) (mu : Mut (some u)) (k : ∀ od, WSF X T N body D σ (upd H d (.frz od u))) : WSF X T N body D σ H := .mk fun pins s I t n => by
  obtain ⟨od, J⟩ := I.lock h mu
  exact k od pins s J t n
theorem wef_freeze {u : HO} {Q : V → Value → Nat → Hp → Prop} (h : H d = some u) (mu : Mut (some u)) (k : ∀ od, WEF X T N e σ (upd H d (.frz od u)) Q) : WEF X T N e σ H Q := .mk fun pins s I t n => by
  obtain ⟨od, J⟩ := I.lock h mu
  exact k od pins s J t n
/-! ### a dict walked -/
theorem turnF_D {o : Obj} {tg : Expr} {es : Array DictEntry} {ep : Nat} (it : Addr) (hc : X.calm = true) (hod : o.data = .dict es ep) (hne : it ≠ X.env.locals) : TurnF X T tg (ItD X.prog X.w d o xs) [it] it (fun i h => h.IsKeyIter it d i xs.length ep) where
  obj := fun i h st b hb => by
    have e : b = it := by simpa using hb
    subst e
    obtain ⟨oi, e, c, dd⟩ := st
    exact ⟨oi, e, fun v z => by rw [dd] at z; cases z⟩
  keep := fun i h h' st k => st.at fun oi e => k it (by simp) oi e
  item := by
    intro i pins s σ H E I t hf st hg
    obtain ⟨hd, hi⟩ := hg
    obtain ⟨f0, f1, f2, f3, f4, f5⟩ := hf it (by simp)
    obtain ⟨hgd, hx, es', ep', hdt, hsz, ent⟩ := frz_ext rfl rfl I hd
    obtain ⟨rfl, rfl⟩ := dict_epq hod hdt
    have hxi : xs[i]? = some xs[i] := List.getElem?_eq_getElem hi
    obtain ⟨en, hen, hkey⟩ := ent i _ hxi
    refine next_key_item st hgd hdt hsz hen fun h' st' sb => ?_
    have I1 : Inv X pins σ H { s with heap := h' } := I.turned (t' := s.toks) (fun b ob hb e => (sb.2 b hb).trans e) f0 f1 f3 f4 f5
    have t1 : TkH X T { s with heap := h' } := by
      obtain ⟨m, ⟨o', es', ep', g1, g2⟩, h2⟩ := t
      exact ⟨m, ⟨o', es', ep', (sb.2 _ (Ne.symm f1)).trans g1, g2⟩, h2⟩
    obtain ⟨oi, e, c, dd⟩ := id st'
    exact ⟨en.key, rfl, go_of (s := { s with heap := h' }) e c dd (by decide) ⟨.ref xs[i].2.1, H, I1, t1, hkey, ⟨rfl, _, hxi, rfl⟩, st', fun b hb => (hf b hb).1⟩⟩
  done := by
    intro i pins s σ H E I t hf st hg
    obtain ⟨hd, hi⟩ := hg
    obtain ⟨f0, f1, f2, f3, f4, f5⟩ := hf it (by simp)
    obtain ⟨hgd, hx, es', ep', hdt, hsz, ent⟩ := frz_ext rfl rfl I hd
    obtain ⟨rfl, rfl⟩ := dict_epq hod hdt
    exact next_key_end (I.ok.hd hc) st hgd hdt hsz hi fun h' eb => ⟨rfl, I.turned (t' := s.toks) (fun b ob hb e => eb b ob hb e) f0 f1 f3 f4 f5, by
      obtain ⟨m, ⟨o', es', ep', g1, g2⟩, h2⟩ := t
      exact ⟨m, ⟨o', es', ep', eb _ _ (Ne.symm f1) g1, g2⟩, h2⟩⟩
end
end K10
/-! What the symbolic state says of the worlds. -/
namespace K10
def cn (w : List (List Nat)) (p c : Nat) : Nat := (rowAt w p).count c
def valS (st : SSt) (w0 : List (List Nat)) (p c : Nat) : Int := (sumAt w0 c (rowAt st.bl p) : Nat) + netV st.nt (p, c)
theorem sumAt_nil (u : List (List Nat)) (c : Nat) : sumAt u c [] = 0 := rfl
theorem sumAt_cons (u : List (List Nat)) (c p : Nat) (l : List Nat) : sumAt u c (p :: l) = cn u p c + sumAt u c l := by
  unfold sumAt cn rowAt
  simp
theorem sumAt_app (u : List (List Nat)) (c : Nat) (a b : List Nat) : sumAt u c (a ++ b) = sumAt u c a + sumAt u c b := by
  unfold sumAt
  simp
theorem sumAt_perm (u : List (List Nat)) (c : Nat) {a b : List Nat} (h : a.Perm b) : sumAt u c a = sumAt u c b := by
  unfold sumAt
  exact (h.map _).sum_nat
/-- w behind the steps so far of w0 -/
structure Vl (n : Nat) (st : SSt) (w0 w : List (List Nat)) : Prop where
  len : w.length = n
  val : ∀ p c, (cn w p c : Int) = valS st w0 p c
theorem first_vl {n : Nat} {w : List (List Nat)} (h : w.length = n) : Vl n (firstS n) w w := ⟨h, fun p c => by
  unfold valS
  rw [first_row]
  show _ = _ + netV [] (p, c)
  by_cases hp : p < n
  · rw [if_pos hp, sumAt_cons, sumAt_nil]
    show _ = ((cn w p c + 0 : Nat) : Int) + 0
    omega
  · rw [if_neg hp, sumAt_nil]
    unfold cn
    rw [rowAt_out (by omega)]
    rfl⟩
theorem cn_set {w : List (List Nat)} {i p c : Nat} {l : List Nat} (hi : i < w.length) : cn (w.set i l) p c = if p = i then l.count c else cn w p c := by
  unfold cn
  rw [rowAt_set hi]
  split <;> rfl
theorem srt_count (l : List Nat) (c : Nat) : (srt l).count c = l.count c := (srt_perm l).count_eq c
theorem step_vl {n : Nat} {st : SSt} {x : Nat × Nat × Nat} {w0 w : List (List Nat)} (h : SOk n st) (hx : stepOk n x) (v : Vl n st w0 w) :
    (stepS st x = none → stepW w x = none) ∧ ∀ st', stepS st x = some st' → ∃ new, st'.nd = st.nd ++ new ∧ (((∀ y ∈ new, metW w0 y = true) ∧ ∃ w', stepW w x = some w' ∧ Vl n st' w0 w') ∨ ((∃ y ∈ new, metW w0 y = false) ∧ stepW w x = none)) := by
  obtain ⟨h1, h2, h3⟩ := hx
  have l1 : x.2.1 < w.length := by rw [v.len]; exact h1
  have l2 : x.2.2 < w.length := by rw [v.len]; exact h2
  unfold stepS stepW
  by_cases c1 : x.1 = 42
  · simp only [if_pos c1]
    refine ⟨fun e => (by cases e), fun st' e => ?_⟩
    cases e
    refine ⟨[], by simp, .inl ⟨by simp, _, rfl, by simp [v.len], fun p c => ?_⟩⟩
    rw [cn_set (by rw [List.length_set]; exact l1), cn_set l2]
    unfold valS
    dsimp only
    rw [addNets_at, rowAt_set (by rw [List.length_set, h.len]; exact h1), rowAt_set (by rw [h.len]; exact h2)]
    by_cases e1 : p = x.2.1
    · subst e1
      rw [if_pos rfl, if_pos rfl, sumK_none, sumAt_nil]
      · rfl
      · intro q
        have : ¬ toG x.2.1 x.2.2 q = (x.2.1, c) := fun e => by
          have := congrArg Prod.fst e
          unfold toG at this
          dsimp only at this
          split at this
          · exact h3 this.symm
          · exact absurd this (by assumption)
        simp [this]
    · rw [if_neg e1, if_neg e1]
      by_cases e2 : p = x.2.2
      · subst e2
        rw [if_pos rfl, if_pos rfl, srt_count, List.count_append, sumAt_perm _ _ (srt_perm _), sumAt_app]
        have k1 := v.val x.2.2 c
        have k2 := v.val x.2.1 c
        rw [sumK_two _ (fun q => decide (q = (x.2.2, c))) (fun q => decide (q = (x.2.1, c))) (fun q => ?_) (fun q => ?_), sumK_one h.nod, sumK_one h.nod]
        · unfold valS cn at k1 k2
          show _ = _ + (netV [] _ + _)
          have : netV [] (x.2.2, c) = 0 := rfl
          omega
        · obtain ⟨a, b⟩ := q
          unfold toG
          dsimp only
          rw [Bool.eq_iff_iff]
          simp only [decide_eq_true_eq, Bool.or_eq_true, Prod.mk.injEq]
          by_cases ha : a = x.2.1
          · simp [ha, h3]
          · simp [ha]
        · intro ⟨a, b⟩
          have a := of_decide_eq_true a
          have b := of_decide_eq_true b
          rw [a] at b
          exact h3 (congrArg Prod.fst b).symm
      · rw [if_neg e2, if_neg e2]
        have k := v.val p c
        have : sumK st.nt (fun q => decide (toG x.2.1 x.2.2 q = (p, c))) = netV st.nt (p, c) := by
          rw [← sumK_one h.nod]
          congr 1
          funext q
          obtain ⟨a, b⟩ := q
          unfold toG
          dsimp only
          rw [Bool.eq_iff_iff]
          simp only [decide_eq_true_eq, Prod.mk.injEq]
          by_cases ha : a = x.2.1
          · simp only [if_pos ha]
            constructor
            · rintro ⟨q, _⟩; exact absurd q.symm e2
            · rintro ⟨q, _⟩; exact absurd (q.symm.trans ha) e1
          · simp only [if_neg ha]
        rw [this]
        unfold valS at k
        have : netV [] (p, c) = 0 := rfl
        omega
  · simp only [if_neg c1]
    by_cases c2 : x.1 = 126
    · simp only [if_pos c2]
      refine ⟨fun e => (by cases e), fun st' e => ?_⟩
      cases e
      refine ⟨[], by simp, .inl ⟨by simp, _, rfl, by simp [v.len], fun p c => ?_⟩⟩
      rw [cn_set (by rw [List.length_set]; exact l2), cn_set l1]
      unfold valS
      dsimp only
      rw [setNets_map _ (toX_inj _ _) h.nod, rowAt_set (by rw [List.length_set, h.len]; exact h2), rowAt_set (by rw [h.len]; exact h1)]
      have hk : ((p, c) : Nat × Nat) = toX x.2.1 x.2.2 (swp x.2.1 x.2.2 p, c) := by unfold toX; rw [swp_swp]
      rw [hk, netV_map _ (toX_inj _ _)]
      have k := v.val (swp x.2.1 x.2.2 p) c
      unfold valS at k
      have r1 : (if p = x.2.2 then (rowAt w x.2.1).count c else if p = x.2.1 then (rowAt w x.2.2).count c else cn w p c) = cn w (swp x.2.1 x.2.2 p) c := by
        unfold swp cn
        by_cases e2 : p = x.2.2
        · subst e2; rw [if_pos rfl, if_neg (Ne.symm h3), if_pos rfl]
        · by_cases e1 : p = x.2.1
          · rw [if_neg e2, if_pos e1, if_pos e1]
          · rw [if_neg e2, if_neg e1, if_neg e1, if_neg e2]
      have r2 : (if p = x.2.2 then rowAt st.bl x.2.1 else if p = x.2.1 then rowAt st.bl x.2.2 else rowAt st.bl p) = rowAt st.bl (swp x.2.1 x.2.2 p) := by
        unfold swp
        by_cases e2 : p = x.2.2
        · subst e2; rw [if_pos rfl, if_neg (Ne.symm h3), if_pos rfl]
        · by_cases e1 : p = x.2.1
          · rw [if_neg e2, if_pos e1, if_pos e1]
          · rw [if_neg e2, if_neg e1, if_neg e1, if_neg e2]
      rw [r1, r2]
      exact k
    · simp only [if_neg c2]
      have kv := v.val x.2.1 x.1
      unfold valS at kv
      have hd : due st x.1 x.2.1 = 1 - netV st.nt (x.2.1, x.1) := rfl
      have mem : x.1 ∈ rowAt w x.2.1 ↔ due st x.1 x.2.1 ≤ (sumAt w0 x.1 (rowAt st.bl x.2.1) : Nat) := by
        rw [← List.count_pos_iff]
        unfold cn at kv
        omega
      refine ⟨fun e => ?_, fun st' e => ?_⟩
      · by_cases c3 : 0 < due st x.1 x.2.1 ∧ rowAt st.bl x.2.1 = []
        · rw [if_neg]
          rw [mem, c3.2, sumAt_nil]
          omega
        · rw [if_neg c3] at e; cases e
      · by_cases c3 : 0 < due st x.1 x.2.1 ∧ rowAt st.bl x.2.1 = []
        · rw [if_pos c3] at e; cases e
        rw [if_neg c3] at e
        cases e
        have fin : x.1 ∈ rowAt w x.2.1 → ∀ nd, Vl n ⟨st.bl, nPut (nPut (setNets (fun k => k) [] st.nt) (x.2.1, x.1) (netV (setNets (fun k => k) [] st.nt) (x.2.1, x.1) - 1)) (x.2.2, x.1) (netV (nPut (setNets (fun k => k) [] st.nt) (x.2.1, x.1) (netV (setNets (fun k => k) [] st.nt) (x.2.1, x.1) - 1)) (x.2.2, x.1) + 1), nd⟩ w0 ((w.set x.2.1 ((rowAt w x.2.1).erase x.1)).set x.2.2 (srt (rowAt w x.2.2 ++ [x.1]))) := fun hm nd => by
          refine ⟨by simp [v.len], fun p c => ?_⟩
          rw [cn_set (by rw [List.length_set]; exact l2), cn_set l1]
          unfold valS
          dsimp only
          rw [setNets_id h.nod, netV_put, netV_put, netV_put]
          have k := v.val p c
          unfold valS at k
          have hpos := List.count_pos_iff.mpr hm
          by_cases e2 : p = x.2.2
          · subst e2
            rw [if_pos rfl, srt_count, List.count_append]
            by_cases ec : c = x.1
            · subst ec
              have : ¬ ((x.2.2, x.1) : Nat × Nat) = (x.2.1, x.1) := fun e => h3 (congrArg Prod.fst e).symm
              rw [if_pos rfl, if_neg this, List.count_singleton_self]
              unfold cn at k
              omega
            · have n1 : ¬ ((x.2.2, c) : Nat × Nat) = (x.2.2, x.1) := fun e => ec (congrArg Prod.snd e)
              have n2 : ¬ ((x.2.2, c) : Nat × Nat) = (x.2.1, x.1) := fun e => ec (congrArg Prod.snd e)
              rw [if_neg n1, if_neg n2, List.count_singleton]
              have : (x.1 == c) = false := by simpa using fun e => ec e.symm
              rw [this]
              unfold cn at k
              simp
              omega
          · have n1 : ¬ ((p, c) : Nat × Nat) = (x.2.2, x.1) := fun e => e2 (congrArg Prod.fst e)
            rw [if_neg e2, if_neg n1]
            by_cases e1 : p = x.2.1
            · subst e1
              rw [if_pos rfl, List.count_erase]
              by_cases ec : c = x.1
              · subst ec
                rw [if_pos rfl]
                unfold cn at k
                simp
                omega
              · have n2 : ¬ ((x.2.1, c) : Nat × Nat) = (x.2.1, x.1) := fun e => ec (congrArg Prod.snd e)
                rw [if_neg n2]
                have : (x.1 == c) = false := by simpa using fun e => ec e.symm
                rw [this]
                unfold cn at k
                simp
                omega
            · have n2 : ¬ ((p, c) : Nat × Nat) = (x.2.1, x.1) := fun e => e1 (congrArg Prod.fst e)
              rw [if_neg e1, if_neg n2]
              exact k
        by_cases hp : 0 < due st x.1 x.2.1
        · simp only [if_pos hp]
          refine ⟨[_], rfl, ?_⟩
          have hmet : metW w0 (rowAt st.bl x.2.1, x.1, (due st x.1 x.2.1).toNat) = decide (x.1 ∈ rowAt w x.2.1) := by
            unfold metW
            rw [Bool.eq_iff_iff, decide_eq_true_eq, decide_eq_true_eq, mem]
            dsimp only
            omega
          by_cases hm : x.1 ∈ rowAt w x.2.1
          · exact .inl ⟨fun y hy => by rw [List.mem_singleton.mp hy, hmet]; exact decide_eq_true hm, _, if_pos hm, fin hm _⟩
          · exact .inr ⟨⟨_, List.mem_singleton.mpr rfl, by rw [hmet]; exact decide_eq_false hm⟩, if_neg hm⟩
        · simp only [if_neg hp]
          have hm : x.1 ∈ rowAt w x.2.1 := mem.mpr (by omega)
          exact ⟨[], by simp, .inl ⟨by simp, _, if_pos hm, fin hm _⟩⟩
/-- the steps from a state on -/
def deedF (st : SSt) : List (Nat × Nat × Nat) → Option SSt
  | [] => some st
  | x :: r => (stepS st x).bind fun st' => deedF st' r
theorem deedS_none : ∀ deed : List (Nat × Nat × Nat), deed.foldl (fun o x => o.bind fun st => stepS st x) none = none
  | [] => rfl
  | _ :: r => deedS_none r
theorem deedS_from : ∀ (deed : List (Nat × Nat × Nat)) (st : SSt), deed.foldl (fun o x => o.bind fun st => stepS st x) (some st) = deedF st deed
  | [], _ => rfl
  | x :: r, st => by
    rw [List.foldl_cons]
    show r.foldl _ (stepS st x) = (stepS st x).bind fun st' => deedF st' r
    cases e : stepS st x with
    | none => exact deedS_none r
    | some st' => exact deedS_from r st'
theorem deedS_eq (n : Nat) (deed : List (Nat × Nat × Nat)) : deedS n deed = deedF (firstS n) deed := deedS_from deed _
theorem deedF_ok {n : Nat} : ∀ (deed : List (Nat × Nat × Nat)) {st st' : SSt}, SOk n st → (∀ x ∈ deed, whatOk x.1 ∧ stepOk n x) → deedF st deed = some st' → SOk n st'
  | [], st, st', h, _, e => by cases e; exact h
  | x :: r, st, st', h, hd, e => by
    obtain ⟨h1, h2⟩ := hd x (List.mem_cons_self ..)
    unfold deedF at e
    cases q : stepS st x with
    | none => rw [q] at e; cases e
    | some st1 =>
      rw [q] at e
      exact deedF_ok r (step_ok h h2 h1 q) (fun y hy => hd y (List.mem_cons_of_mem _ hy)) e
theorem deedF_vl {n : Nat} {w0 : List (List Nat)} : ∀ (deed : List (Nat × Nat × Nat)) {st : SSt} {w : List (List Nat)}, SOk n st → (∀ x ∈ deed, whatOk x.1 ∧ stepOk n x) → Vl n st w0 w →
    (deedF st deed = none → (∀ y ∈ st.nd, metW w0 y = true) → doneW w deed = none) ∧ ∀ st', deedF st deed = some st' → ∃ new, st'.nd = st.nd ++ new ∧ (((∀ y ∈ new, metW w0 y = true) ∧ ∃ w', doneW w deed = some w' ∧ Vl n st' w0 w') ∨ ((∃ y ∈ new, metW w0 y = false) ∧ doneW w deed = none))
  | [], st, w, h, hd, v => by
    refine ⟨fun e => (by cases e), fun st' e => ?_⟩
    cases e
    exact ⟨[], by simp, .inl ⟨by simp, w, rfl, v⟩⟩
  | x :: r, st, w, h, hd, v => by
    obtain ⟨h1, h2⟩ := hd x (List.mem_cons_self ..)
    have hr : ∀ y ∈ r, whatOk y.1 ∧ stepOk n y := fun y hy => hd y (List.mem_cons_of_mem _ hy)
    obtain ⟨a1, a2⟩ := step_vl h h2 v
    unfold deedF doneW
    cases q : stepS st x with
    | none =>
      rw [a1 q]
      exact ⟨fun _ _ => rfl, fun st' e => (by cases e)⟩
    | some st1 =>
      obtain ⟨new1, e1, b⟩ := a2 st1 q
      have ok1 := step_ok h h2 h1 q
      rcases b with ⟨m1, w1, d1, v1⟩ | ⟨m1, d1⟩
      · rw [d1]
        obtain ⟨f1, f2⟩ := deedF_vl r ok1 hr v1
        refine ⟨fun e hm => f1 e fun y hy => ?_, fun st' e => ?_⟩
        · rw [e1] at hy
          rcases List.mem_append.mp hy with hy | hy
          · exact hm y hy
          · exact m1 y hy
        · obtain ⟨new2, e2, g⟩ := f2 st' e
          refine ⟨new1 ++ new2, by rw [e2, e1, List.append_assoc], ?_⟩
          rcases g with ⟨m2, w2, d2, v2⟩ | ⟨⟨y, hy, m2⟩, d2⟩
          · exact .inl ⟨fun y hy => (List.mem_append.mp hy).elim (m1 y) (m2 y), w2, d2, v2⟩
          · exact .inr ⟨⟨y, List.mem_append_right _ hy, m2⟩, d2⟩
      · rw [d1]
        refine ⟨fun _ _ => rfl, fun st' e => ?_⟩
        obtain ⟨y, hy, m1⟩ := m1
        have : ∃ new2, st'.nd = st1.nd ++ new2 := by
          -- the needs only grow
          clear a1 a2 d1
          exact grow r st1 st' e
        obtain ⟨new2, e2⟩ := this
        exact ⟨new1 ++ new2, by rw [e2, e1, List.append_assoc], .inr ⟨⟨y, List.mem_append_left _ hy, m1⟩, rfl⟩⟩
where
  grow : ∀ (r : List (Nat × Nat × Nat)) (st1 st' : SSt), deedF st1 r = some st' → ∃ new2, st'.nd = st1.nd ++ new2
    | [], st1, st', e => by cases e; exact ⟨[], by simp⟩
    | x :: r, st1, st', e => by
      unfold deedF at e
      cases q : stepS st1 x with
      | none => rw [q] at e; cases e
      | some st2 =>
        rw [q] at e
        obtain ⟨n2, e2⟩ := grow r st2 st' e
        have : ∃ n1, st2.nd = st1.nd ++ n1 := by
          unfold stepS at q
          split at q
          · cases q; exact ⟨[], by simp⟩
          · split at q
            · cases q; exact ⟨[], by simp⟩
            · split at q
              · cases q
              · cases q
                dsimp only
                split
                · exact ⟨_, rfl⟩
                · exact ⟨[], by simp⟩
        obtain ⟨n1, e1⟩ := this
        exact ⟨n1 ++ n2, by rw [e2, e1, List.append_assoc]⟩
/-- a deed that has no sense can be done nowhere -/
theorem deedS_none_done {n : Nat} {deed : List (Nat × Nat × Nat)} {w : List (List Nat)} (hd : ∀ x ∈ deed, whatOk x.1 ∧ stepOk n x) (hw : w.length = n) (e : deedS n deed = none) : doneW w deed = none :=
  (deedF_vl deed (first_ok n) hd (first_vl hw)).1 (deedS_eq n deed ▸ e) fun y hy => by cases hy
/-- what a sense says -/
theorem deedS_done {n : Nat} {deed : List (Nat × Nat × Nat)} {w : List (List Nat)} {st : SSt} (hd : ∀ x ∈ deed, whatOk x.1 ∧ stepOk n x) (hw : w.length = n) (e : deedS n deed = some st) :
    ((∀ y ∈ st.nd, metW w y = true) ∧ ∃ w', doneW w deed = some w' ∧ Vl n st w w') ∨ ((∃ y ∈ st.nd, metW w y = false) ∧ doneW w deed = none) := by
  obtain ⟨new, e1, h⟩ := (deedF_vl deed (first_ok n) hd (first_vl hw)).2 st (deedS_eq n deed ▸ e)
  have : st.nd = new := by rw [e1]; rfl
  rw [this]
  exact h
end K10
/-! Needs: the greatest of each lot and kind; those that follow from others may be left out. -/
namespace K10
/-! ### lists -/
theorem asc_ext : ∀ {a b : List Nat}, a.Pairwise (· < ·) → b.Pairwise (· < ·) → (∀ x, x ∈ a ↔ x ∈ b) → a = b
  | [], [], _, _, _ => rfl
  | [], y :: b, _, _, h => by have := (h y).mpr (List.mem_cons_self ..); cases this
  | x :: a, [], _, _, h => by have := (h x).mp (List.mem_cons_self ..); cases this
  | x :: a, y :: b, ha, hb, h => by
    rw [List.pairwise_cons] at ha hb
    have e : x = y := by
      have h1 := (h x).mp (List.mem_cons_self ..)
      have h2 := (h y).mpr (List.mem_cons_self ..)
      rcases List.mem_cons.mp h1 with h1 | h1
      · exact h1
      · rcases List.mem_cons.mp h2 with h2 | h2
        · exact h2.symm
        · have := ha.1 y h2
          have := hb.1 x h1
          omega
    subst e
    congr 1
    refine asc_ext ha.2 hb.2 fun z => ?_
    constructor
    · intro hz
      rcases List.mem_cons.mp ((h z).mp (List.mem_cons_of_mem _ hz)) with q | q
      · have := ha.1 z hz; omega
      · exact q
    · intro hz
      rcases List.mem_cons.mp ((h z).mpr (List.mem_cons_of_mem _ hz)) with q | q
      · have := hb.1 z hz; omega
      · exact q
theorem sub_len : ∀ {a b : List Nat}, a.Nodup → (∀ x ∈ a, x ∈ b) → a.length ≤ b.length
  | [], _, _, _ => Nat.zero_le _
  | x :: a, b, hn, h => by
    rw [List.nodup_cons] at hn
    have hx := h x (List.mem_cons_self ..)
    have := sub_len (b := b.erase x) hn.2 fun y hy => (List.mem_erase_of_ne (fun (e : y = x) => hn.1 (e ▸ hy))).mpr (h y (List.mem_cons_of_mem _ hy))
    have l := List.length_erase_of_mem hx
    have : 0 < b.length := List.length_pos_of_mem hx
    rw [List.length_cons]
    omega
theorem asc_strict {a b : List Nat} (ha : a.Pairwise (· < ·)) (hb : b.Pairwise (· < ·)) (h : ∀ x ∈ a, x ∈ b) (ne : a ≠ b) : a.length < b.length := by
  apply Classical.byContradiction
  intro hl
  refine ne (asc_ext ha hb fun x => ⟨h x, fun hx => ?_⟩)
  apply Classical.byContradiction
  intro hxa
  have := sub_len (a := x :: a) (b := b) (List.nodup_cons.mpr ⟨hxa, asc_nodup ha⟩) fun y hy => by
    rcases List.mem_cons.mp hy with rfl | hy
    · exact hx
    · exact h y hy
  rw [List.length_cons] at this
  omega
theorem sumAt_mono (u : List (List Nat)) (c : Nat) : ∀ {a b : List Nat}, a.Nodup → (∀ x ∈ a, x ∈ b) → sumAt u c a ≤ sumAt u c b
  | [], _, _, _ => Nat.zero_le _
  | x :: a, b, hn, h => by
    rw [List.nodup_cons] at hn
    have hx := h x (List.mem_cons_self ..)
    have := sumAt_mono u c (b := b.erase x) hn.2 fun y hy => (List.mem_erase_of_ne (fun (e : y = x) => hn.1 (e ▸ hy))).mpr (h y (List.mem_cons_of_mem _ hy))
    rw [sumAt_cons, sumAt_perm u c (List.perm_cons_erase hx), sumAt_cons]
    omega
theorem sumAt_split (u : List (List Nat)) (c : Nat) (f : Nat → Bool) : ∀ l : List Nat, sumAt u c l = sumAt u c (l.filter f) + sumAt u c (l.filter fun x => !f x)
  | [] => rfl
  | x :: l => by
    rw [sumAt_cons, sumAt_split u c f l, List.filter_cons, List.filter_cons]
    cases h : f x <;> simp [sumAt_cons] <;> omega
theorem foldl_max_le : ∀ (l : List Nat) (m B : Nat), m ≤ B → (∀ x ∈ l, x ≤ B) → l.foldl max m ≤ B
  | [], _, _, h, _ => h
  | x :: l, m, B, h, hl => foldl_max_le l (max m x) B (Nat.max_le.mpr ⟨h, hl x (List.mem_cons_self ..)⟩) fun y hy => hl y (List.mem_cons_of_mem _ hy)
theorem foldl_max_ge0 : ∀ (l : List Nat) (m : Nat), m ≤ l.foldl max m
  | [], _ => Nat.le_refl _
  | x :: l, m => Nat.le_trans (Nat.le_max_left m x) (foldl_max_ge0 l _)
theorem foldl_max_ge : ∀ (l : List Nat) (m : Nat), ∀ x ∈ l, x ≤ l.foldl max m
  | y :: l, m, x, h => by
    rcases List.mem_cons.mp h with rfl | h
    · exact Nat.le_trans (Nat.le_max_right m x) (foldl_max_ge0 l _)
    · exact foldl_max_ge l _ x h
theorem partB_iff {a b : List Nat} : partB a b = true ↔ ∀ x ∈ a, x ∈ b := by
  unfold partB
  simp
theorem meetB_not {a b : List Nat} : (!meetB a b) = true ↔ ∀ x ∈ a, x ∉ b := by
  unfold meetB
  simp
/-- surely there: so many lie there, if the needs are met -/
theorem sur_le (u : List (List Nat)) (c : Nat) : ∀ (m : Nat) (lot R : List Nat) (ns : List (List Nat × Nat)), (∀ y ∈ ns, partB y.1 lot = true → y.1.Nodup ∧ y.2 ≤ sumAt u c y.1 ∧ ∀ x ∈ y.1, x ∈ R) → sur m lot ns ≤ sumAt u c R
  | 0, _, _, _, _ => Nat.zero_le _
  | m + 1, lot, R, ns, h => by
    unfold sur
    refine foldl_max_le _ _ _ (Nat.zero_le _) fun x hx => ?_
    obtain ⟨i, hi, rfl⟩ := List.mem_map.mp hx
    have hi := List.mem_range.mp hi
    have e : ns[i]? = some ns[i] := List.getElem?_eq_getElem hi
    rw [e, Option.getD_some]
    split
    · rename_i hp
      obtain ⟨h1, h2, h3⟩ := h _ (List.getElem_mem hi) hp
      have ih := sur_le u c m lot (R.filter fun x => !decide (x ∈ ns[i].1)) (aptW ns[i] (ns.drop (i + 1))) fun y hy hq => by
        unfold aptW at hy
        obtain ⟨hy1, hy2⟩ := List.mem_filter.mp hy
        obtain ⟨k1, k2, k3⟩ := h y (List.mem_of_mem_drop hy1) hq
        refine ⟨k1, k2, fun x hx => List.mem_filter.mpr ⟨k3 x hx, ?_⟩⟩
        have := meetB_not.mp hy2 x hx
        simpa using this
      have s := sumAt_split u c (fun x => decide (x ∈ ns[i].1)) R
      have m1 : sumAt u c ns[i].1 ≤ sumAt u c (R.filter fun x => decide (x ∈ ns[i].1)) := sumAt_mono u c h1 fun x hx => List.mem_filter.mpr ⟨h3 x hx, by simpa using hx⟩
      omega
    · exact Nat.zero_le _
theorem sur_ge (m : Nat) (lot : List Nat) (ns : List (List Nat × Nat)) {y : List Nat × Nat} (hy : y ∈ ns) (hp : partB y.1 lot = true) : y.2 ≤ sur (m + 1) lot ns := by
  obtain ⟨i, hi, e⟩ := List.getElem_of_mem hy
  unfold sur
  refine Nat.le_trans ?_ (foldl_max_ge _ 0 _ (List.mem_map.mpr ⟨i, List.mem_range.mpr hi, rfl⟩))
  have e' : ns[i]? = some y := by rw [List.getElem?_eq_getElem hi, e]
  rw [e', Option.getD_some, if_pos hp]
  omega
/-! ### the greatest -/
theorem grtAt_cons (x : (List Nat × Nat) × Nat) (xs : Grt) (k : List Nat × Nat) : grtAt (x :: xs) k = if x.1 = k then some x.2 else grtAt xs k := by
  unfold grtAt
  rw [List.find?_cons]
  by_cases h : x.1 = k
  · simp [h]
  · simp [h]
theorem grtAt_none {xs : Grt} {k : List Nat × Nat} : grtAt xs k = none ↔ k ∉ xs.map (·.1) := by
  induction xs with
  | nil => simp [grtAt]
  | cons x xs ih =>
    rw [grtAt_cons, List.map_cons, List.mem_cons, not_or]
    by_cases h : x.1 = k
    · simp [h]
    · rw [if_neg h, ih]
      exact ⟨fun q => ⟨fun e => h e.symm, q⟩, fun q => q.2⟩
theorem grtAt_some {xs : Grt} {k : List Nat × Nat} {n : Nat} (h : grtAt xs k = some n) : (k, n) ∈ xs := by
  unfold grtAt at h
  obtain ⟨x, hx, rfl⟩ := Option.map_eq_some_iff.mp h
  have h1 := List.find?_some hx
  have h2 := List.mem_of_find?_eq_some hx
  have h1 : x.1 = k := by simpa using h1
  rw [← h1]
  exact h2
theorem mem_grtPut {xs : Grt} {k : List Nat × Nat} {n : Nat} {g : (List Nat × Nat) × Nat} (h : g ∈ grtPut xs k n) : g = (k, n) ∨ (g ∈ xs ∧ g.1 ≠ k) := by
  unfold grtPut at h
  cases e : grtAt xs k with
  | some v =>
    simp only [e, Option.isSome_some, if_true] at h
    obtain ⟨x, hx, rfl⟩ := List.mem_map.mp h
    by_cases hk : x.1 = k
    · rw [if_pos hk, hk]; exact .inl rfl
    · rw [if_neg hk]; exact .inr ⟨hx, hk⟩
  | none =>
    simp only [e, Option.isSome_none, Bool.false_eq_true, if_false] at h
    rcases List.mem_append.mp h with h | h
    · exact .inr ⟨h, fun q => grtAt_none.mp e (q ▸ List.mem_map.mpr ⟨g, h, rfl⟩)⟩
    · exact .inl (List.mem_singleton.mp h)
theorem grtPut_mem (xs : Grt) (k : List Nat × Nat) (n : Nat) : (k, n) ∈ grtPut xs k n := by
  unfold grtPut
  cases e : grtAt xs k with
  | some v =>
    simp only [Option.isSome_some, if_true]
    exact List.mem_map.mpr ⟨(k, v), grtAt_some e, by simp⟩
  | none => simp
theorem grtPut_keep {xs : Grt} {k : List Nat × Nat} {n : Nat} {g : (List Nat × Nat) × Nat} (h : g ∈ xs) (hk : g.1 ≠ k) : g ∈ grtPut xs k n := by
  unfold grtPut
  split
  · exact List.mem_map.mpr ⟨g, h, by rw [if_neg hk]⟩
  · exact List.mem_append_left _ h
theorem grtPut_nod {xs : Grt} {k : List Nat × Nat} {n : Nat} (h : (xs.map (·.1)).Nodup) : ((grtPut xs k n).map (·.1)).Nodup := by
  unfold grtPut
  cases e : grtAt xs k with
  | some v =>
    simp only [Option.isSome_some, if_true]
    rw [List.map_map]
    have : (fun x : (List Nat × Nat) × Nat => x.1) ∘ (fun g : (List Nat × Nat) × Nat => if g.1 = k then (g.1, n) else g) = fun x => x.1 := by
      funext x
      show (if x.1 = k then (x.1, n) else x).1 = x.1
      split <;> rfl
    rw [this]
    exact h
  | none =>
    simp only [Option.isSome_none, Bool.false_eq_true, if_false]
    rw [List.map_append]
    refine List.nodup_append.mpr ⟨h, by simp, fun a ha b hb q => ?_⟩
    have hb : b = k := by simpa using hb
    exact grtAt_none.mp e (hb ▸ q ▸ ha)
structure Grok (gs : Grt) (needs : List (List Nat × Nat × Nat)) : Prop where
  nod : (gs.map (·.1)).Nodup
  up : ∀ x ∈ needs, ∃ g ∈ gs, g.1 = (x.1, x.2.1) ∧ x.2.2 ≤ g.2
  from' : ∀ g ∈ gs, (g.1.1, g.1.2, g.2) ∈ needs
theorem grok_step {gs : Grt} {needs : List (List Nat × Nat × Nat)} (h : Grok gs needs) (x : List Nat × Nat × Nat) : Grok (grtStep gs x) (needs ++ [x]) := by
  unfold grtStep
  refine ⟨grtPut_nod h.nod, fun y hy => ?_, fun g hg => ?_⟩
  · rcases List.mem_append.mp hy with hy | hy
    · obtain ⟨g, g1, g2, g3⟩ := h.up y hy
      by_cases hk : g.1 = (x.1, x.2.1)
      · refine ⟨_, grtPut_mem _ _ _, by rw [← hk, g2], ?_⟩
        have : grtAt gs (x.1, x.2.1) = some g.2 := by
          rw [← hk]
          have := h.nod
          clear h hk g2 g3 hy
          induction gs with
          | nil => cases g1
          | cons z zs ih =>
            rw [List.map_cons, List.nodup_cons] at this
            rw [grtAt_cons]
            rcases List.mem_cons.mp g1 with rfl | g1
            · simp
            · have ne : ¬ z.1 = g.1 := fun q => this.1 (q ▸ List.mem_map.mpr ⟨g, g1, rfl⟩)
              rw [if_neg ne]
              exact ih g1 this.2
        rw [this]
        exact Nat.le_trans g3 (Nat.le_max_right _ _)
      · exact ⟨g, grtPut_keep g1 hk, g2, g3⟩
    · rw [List.mem_singleton.mp hy]
      exact ⟨_, grtPut_mem _ _ _, rfl, Nat.le_max_left _ _⟩
  · rcases mem_grtPut hg with rfl | ⟨hg, _⟩
    · dsimp only
      cases e : grtAt gs (x.1, x.2.1) with
      | none => simp
      | some v =>
        rw [Option.getD_some]
        by_cases hv : v ≤ x.2.2
        · rw [Nat.max_eq_left hv]; simp
        · rw [Nat.max_eq_right (by omega)]
          have := h.from' _ (grtAt_some e)
          exact List.mem_append_left _ this
    · exact List.mem_append_left _ (h.from' g hg)
theorem grok_all (needs : List (List Nat × Nat × Nat)) : Grok (grtAll needs) needs := by
  have : ∀ (b a : List (List Nat × Nat × Nat)) (gs : Grt), Grok gs a → Grok (b.foldl grtStep gs) (a ++ b) := by
    intro b
    induction b with
    | nil => intro a gs h; simpa using h
    | cons x b ih =>
      intro a gs h
      have := ih (a ++ [x]) _ (grok_step h x)
      simpa using this
  exact this needs [] [] ⟨by simp, fun x hx => (by cases hx), fun g hg => (by cases hg)⟩
/-- a need's lot is in order -/
def LotOk (n : Nat) (l : List Nat) : Prop := l ≠ [] ∧ l.Pairwise (· < ·) ∧ ∀ p ∈ l, p < n
/-- the needs told are met: all needs are -/
theorem told_met {n : Nat} {needs : List (List Nat × Nat × Nat)} (hl : ∀ x ∈ needs, LotOk n x.1) (u : List (List Nat)) : (∀ x ∈ needs, metW u x = true) ↔ ∀ x ∈ toldN (grtAll needs), metW u x = true := by
  have G := grok_all needs
  generalize grtAll needs = gs at *
  constructor
  · intro h x hx
    unfold toldN at hx
    obtain ⟨g, hg, rfl⟩ := List.mem_map.mp hx
    exact h _ (G.from' g (List.mem_filter.mp hg).1)
  · intro h
    have key : ∀ (N : Nat) (g : (List Nat × Nat) × Nat), g ∈ gs → g.1.1.length ≤ N → g.2 ≤ sumAt u g.1.2 g.1.1 := by
      intro N
      induction N with
      | zero =>
        intro g hg hN
        have := (hl _ (G.from' g hg)).1
        exact absurd (List.eq_nil_of_length_eq_zero (Nat.le_zero.mp hN)) this
      | succ N ih =>
        intro g hg hN
        by_cases ht : toldOne gs g = true
        · have := h (g.1.1, g.1.2, g.2) (List.mem_map.mpr ⟨g, List.mem_filter.mpr ⟨hg, ht⟩, rfl⟩)
          exact of_decide_eq_true this
        · have ht' : g.2 ≤ sur 10 g.1.1 (othW gs g.1) := by
            unfold toldOne at ht
            simp only [decide_eq_true_eq] at ht
            omega
          refine Nat.le_trans ht' (sur_le u g.1.2 10 g.1.1 g.1.1 _ fun y hy hp => ?_)
          unfold othW at hy
          obtain ⟨z, hz, rfl⟩ := List.mem_map.mp hy
          obtain ⟨hz1, hz2⟩ := List.mem_filter.mp hz
          simp only [Bool.and_eq_true, decide_eq_true_eq, Bool.not_eq_true', decide_eq_false_iff_not] at hz2
          have a1 := hl _ (G.from' z hz1)
          have a2 := hl _ (G.from' g hg)
          have sub := partB_iff.mp hp
          refine ⟨asc_nodup a1.2.1, ?_, sub⟩
          have := asc_strict a1.2.1 a2.2.1 sub hz2.2
          have := ih z hz1 (by dsimp only at this ⊢; omega)
          rw [hz2.1] at this
          exact this
    intro x hx
    obtain ⟨g, g1, g2, g3⟩ := G.up x hx
    have := key _ g g1 (Nat.le_refl _)
    rw [g2] at this
    unfold metW
    exact decide_eq_true (Nat.le_trans g3 this)
end K10
set_option maxHeartbeats 4000000
/-! handed. -/
namespace K10
open PySem PySem.Spec PyProof.Rows L2 SX
open C8 (Cal pe_c)
section
variable {X : Cx} {T T' : TT2} {N : Nat} {σ : L2.St} {H H' : Hp} {e e1 e2 f a b' c : Expr} {pos p p1 p2 p3 apos : Pos} {s : Shared} {rest body orelse : List Stmt} {D : EndF} {d : Addr} {xs : List Ent} {tg : Expr} {o : Obj}
theorem wef_non {j : Nat} {Q : V → Value → Nat → Hp → Prop} (q : ∀ M, N ≤ M → Q .non .none M H) : WEF X T N (.Constant .none j pos) σ H Q := .mk fun pins s I t n =>
  wpAny_Constant_none ⟨.non, H, I, rfl, t, n, q _ n⟩
theorem wif_dict {x : Str} {R : It → Nat → Hp → Prop} (i : Nat) (hσ : σ[i]? = some (some (.ref d))) (hd : H d = some (.frz o (.ext (dPhi X.prog X.w d xs)))) (hsy : (d == sysModules) = false) (k : ∀ M, N ≤ M → R (ItD X.prog X.w d o xs) M H) (hN : X.N[i]? = some x := by rfl) (hk : X.env.scope.names.lookup x = some .local := by rfl) (hdb : (x == ("__debug__" : Str)) = false := by decide) (hc : X.calm = true := by rfl) : WIF X T N tg (.Name x pos) σ H R := .mk fun pins s I t n => by
  refine thn ((wef_v (T := T) (N := N) (Q := fun v u M H1 => v = .ref d ∧ H1 = H) i hσ (fun u M r hM => ⟨rfl, rfl⟩) hN hk hdb) pins s I t n) fun u s1 ⟨y, H1, I1, ry, t1, n1, ey, eh⟩ => ?_
  subst ey eh
  obtain rfl : u = Value.ref d := ry
  obtain ⟨hgd, hx, es, ep, hdt, hsz, ent⟩ := frz_ext rfl rfl I1 hd
  refine iter_keys hsy hgd hx hdt ?_
  have hne : s1.heap.objs.size ≠ X.env.locals := Nat.ne_of_gt I1.lt
  refine ⟨s1.heap.objs.size, [s1.heap.objs.size], _, _, H1, rfl, I1.kept (t' := s1.toks) fun b o e => Heap.get?_push_of_some _ e, t1.kept (t' := s1.toks) fun b o e => Heap.get?_push_of_some _ e, n1, turnF_D _ hc hdt hne, ⟨_, Heap.get?_push_size _ rfl, rfl, ?_⟩, fun b hb => ?_, k _ n1⟩
  · rw [hsz] <;> rfl
  · have e : b = s1.heap.objs.size := by simpa using hb
    subst e
    exact I1.fpOk (Nat.le_refl _) (I1.hok.fresh (Nat.le_refl _))
end
abbrev blkD (bl : List (List Nat)) : PyData := .tuple (bl.map nD)
/-- a state; g: the nets' kinds' tokens are good -/
def StateAt (P : Program) (w : World) (K : PySem.W.Frag) (g : Bool) (M : Nat) (H : Hp) (a : Addr) (st : SSt) : Prop := ∃ (b d nd : Addr) (od : Obj) (xs : List Ent), SqT K H a [.ref b, .ref d, .ref nd] ∧ Dp K H (.ref b) (blkD st.bl) ∧ Dp K H (.ref nd) (.tuple (st.nd.map needD)) ∧ H d = some (.frz od (.ext (dPhi P w d xs))) ∧ (d == sysModules) = false ∧ Netx g M H xs st.nt
theorem StateAt.same {P : Program} {w : World} {K : PySem.W.Frag} {g : Bool} {M : Nat} {H H' : Hp} {a : Addr} {st : SSt} (h : StateAt P w K g M H a st) (s : Same H H') : StateAt P w K g M H' a st := by
  obtain ⟨b, d, nd, od, xs, h1, h2, h3, h4, h5, h6⟩ := h
  exact ⟨b, d, nd, od, xs, same_seqT (same_tx s) h1, h2.same s, h3.same s, s _ _ h4, h5, h6.same fun a k h => h.same s⟩
theorem StateAt.mono {P : Program} {w : World} {K : PySem.W.Frag} {g : Bool} {M M' : Nat} {H : Hp} {a : Addr} {st : SSt} (h : StateAt P w K g M H a st) (n : M ≤ M') : StateAt P w K g M' H a st := by
  obtain ⟨b, d, nd, od, xs, h1, h2, h3, h4, h5, h6⟩ := h
  exact ⟨b, d, nd, od, xs, h1, h2, h3, h4, h5, h6.mono n⟩
/-- a state of moderate size -/
structure SmS (n : Nat) (st : SSt) : Prop where
  ok : SOk n st
  n6 : n ≤ 6
  nd : st.nd.length ≤ 9
  nt : st.nt.length ≤ 900
theorem SmS.row {n : Nat} {st : SSt} (h : SmS n st) (p : Nat) : (rowAt st.bl p).length ≤ 6 := by
  have := h.n6
  have : (rowAt st.bl p).length ≤ (List.range n).length := sub_len (asc_nodup (h.ok.asc p)) fun x hx => List.mem_range.mpr (h.ok.lt p x hx)
  rw [List.length_range] at this
  omega
theorem SmS.blk {n : Nat} {st : SSt} (h : SmS n st) : st.bl.length = n := h.ok.len
/-- the name kind held -/
abbrev tkK (c : Nat) (t : Tok) : TT2 := [("kind", .str (S [c]), .str (S [c]) t)]
/-- the state behind a single thing's step -/
def handS (st : SSt) (c s g : Nat) : Option SSt := if 0 < due st c s ∧ rowAt st.bl s = [] then none
  else some ⟨st.bl, nPut (nPut (setNets (fun k => k) [] st.nt) (s, c) (netV (setNets (fun k => k) [] st.nt) (s, c) - 1)) (g, c) (netV (nPut (setNets (fun k => k) [] st.nt) (s, c) (netV (setNets (fun k => k) [] st.nt) (s, c) - 1)) (g, c) + 1),
    if 0 < due st c s then st.nd ++ [(rowAt st.bl s, c, (due st c s).toNat)] else st.nd⟩
theorem setNets_snoc (φ : Nat × Nat → Nat × Nat) (f xs : Nets) (x : (Nat × Nat) × Int) : setNets φ f (xs ++ [x]) = nPut (setNets φ f xs) (φ x.1) x.2 := by
  unfold setNets
  rw [List.foldl_append]
  rfl
theorem setNets_nod (φ : Nat × Nat → Nat × Nat) : ∀ (xs f : Nets), (f.map (·.1)).Nodup → ((setNets φ f xs).map (·.1)).Nodup
  | [], _, h => h
  | _ :: xs, _, h => setNets_nod φ xs _ (nod_put h)
theorem nPut_len (f : Nets) (k : Nat × Nat) (i : Int) : (nPut f k i).length ≤ f.length + 1 := by
  unfold nPut
  split <;> simp
theorem setNets_len (φ : Nat × Nat → Nat × Nat) : ∀ (xs f : Nets), (setNets φ f xs).length ≤ f.length + xs.length
  | [], f => by simp [setNets]
  | x :: xs, f => by
    have h1 := setNets_len φ xs (nPut f (φ x.1) x.2)
    have h2 := nPut_len f (φ x.1) x.2
    show (setNets φ (nPut f (φ x.1) x.2) xs).length ≤ _
    rw [List.length_cons]
    omega
theorem take_snoc {α : Type} {l : List α} {i : Nat} {x : α} (h : l[i]? = some x) : l.take (i + 1) = l.take i ++ [x] := by
  rw [List.take_add_one, h]
  rfl
section
variable {P : Program} {w : World} {K : PySem.W.Frag} {mg : Str → Option Value} {base : Heap}
def spHanded (P : Program) (w : World) (K : PySem.W.Frag) (g : Bool) : SpT := fun vs us N H Q => ∃ (a : Addr) (c st gl n : Nat) (S0 : SSt) (t : Tok), vs = [.ref a, .str (S [c]), .int (st : Int), .int (gl : Int)] ∧ us[1]? = some (.str (S [c]) t) ∧ (g = true → Gtok N t) ∧ StateAt P w K g N H a S0 ∧ SmS n S0 ∧ st < n ∧ gl < n ∧
  match handS S0 c st gl with
  | none => ∀ M H', N ≤ M → Same H H' → Q .non .none M H'
  | some S1 => ∀ q M H', N ≤ M → Same H H' → StateAt P w K g M H' q S1 → Q (.ref q) (.ref q) M H'
theorem c_handed (V : Ev mg) (G : Gd K mg "handed" s_handed) (g : Bool) : CalT P w K mg base 1 "handed" (spHanded P w K g) [] := by
  obtain ⟨f, fd, F, gg⟩ := G.ex
  refine ⟨f, fd, p_handed, [], ?_, gg, F.kp, F.bindsN (fun _ _ _ _ _ _ us hl => match us, hl with | [_, _, _, _], _ => rfl), .nil⟩
  refine fnT_of F sc_handed (fun vs us M H Q ⟨_, _, _, _, _, _, _, h, _⟩ => by rw [h]; rfl) fun cdv A outer s H vs us Q hr hv h => ?_
  obtain ⟨a, c, st, gl, n, S0, t, rfl, hu1, hgt, hst, hsm, hs6, hg6, hk⟩ := h
  refine ⟨tkK c t, fun q hq => ?_, ?_⟩
  · rw [List.mem_singleton.mp hq]
    exact ⟨1, rfl, rfl, hu1, rfl⟩
  have hN := sc_handed.nd
  have hu := room_u hr
  generalize s.toks = N0 at hk hst hgt
  obtain ⟨b, d, nd, od, xs, q1, q2, q3, q4, q5, q6⟩ := hst
  -- blocks, nets, needs = state
  refine wsf_unpack3 4 5 6 hN (wef_v 0 rfl fun u0 M0 r0 n0 => ⟨a, .ref b, .ref d, .ref nd, rfl, q1, fun u1 u2 u3 _ _ _ _ M1 hM1 => ⟨tkK c t, fun q hq => .inl ?_, ?_⟩⟩) (by decide) (by decide) (by decide)
  · rw [List.mem_singleton.mp hq]
    exact ⟨by show (PySem.Str.ofString "kind") ≠ PySem.Str.ofString "blocks"; decide, by show (PySem.Str.ofString "kind") ≠ PySem.Str.ofString "nets"; decide, by show (PySem.Str.ofString "kind") ≠ PySem.Str.ofString "needs"; decide, List.mem_singleton.mpr rfl⟩
  have D0 : ∀ {H1 : Hp}, Same H H1 → DD (cxOf CX0 P w K mg base n_handed "handed" (defScope s_handed) f cdv A outer s H (fun _ _ _ => False)).nox H1 d xs := fun s1 => ⟨(netx_ddk q6 hsm.ok.nod).same s1, .inr ⟨od, s1 _ _ q4⟩, q5⟩
  -- due = 1 - nets.get((start, kind), 0)
  refine wsf_setZ 7 hN (wz_wi (wi_op wi_int (wi_get (k := (st, c)) hu 5 rfl (D0 (Same.refl H)) (wd_tup (wds_cons (wd_v 2 rfl (.int _)) (wds_cons (wd_v 1 rfl (.str _)) wds_nil))) wi_int) fun _ _ => pi_sub)) (fun q hq => by rw [List.mem_singleton.mp hq]; show (PySem.Str.ofString "kind") ≠ PySem.Str.ofString "due"; decide) fun z M2 H2 ez s2 n2 => ?_
  rw [netx_at q6] at ez
  have ez' : z = due S0 c st := ez
  subst ez'
  -- if due > 0 and len(blocks[start]) == 0
  have hrow : ∀ {p : Nat}, p < n → (S0.bl.map nD)[p]? = some (nD (rowAt S0.bl p)) := fun {p} hp => by
    rw [List.getElem?_map]
    unfold rowAt
    rw [List.getElem?_eq_getElem (by rw [hsm.blk]; exact hp)]
    rfl
  have hbz : (S0.bl.map nD).length ≤ 1000 := by rw [List.length_map, hsm.blk]; have := hsm.n6; omega
  have bd : ∀ {M3 : Nat} {H3 : Hp} {x6 x8 x9 : Option L2.V} {p1 p2 p3 : Pos}, Same H H3 → WD (cxOf CX0 P w K mg base n_handed "handed" (defScope s_handed) f cdv A outer s H (fun _ _ _ => False)).nox (tkK c t) M3 (.Subscript (.Name "blocks" p1) (.Name "start" p2) p3) [some (.ref a), some (.str (S [c])), some (.int (st : Int)), some (.int (gl : Int)), some (.ref b), some (.ref d), x6, some (.int (due S0 c st)), x8, x9] H3 (nD (rowAt S0.bl st)) := fun s3 =>
    wd_ixT (wd_v 4 rfl (q2.same s3)) (wi_v 2 rfl) (hrow hs6) hbz
  have hrl : ∀ p, ((rowAt S0.bl p).map iN).length ≤ 1000 := fun p => by rw [List.length_map]; have := hsm.row p; omega
  refine wsf_ifJ (fun (T : TT2) M' σ' H' => T = tkK c t ∧ M2 ≤ M' ∧ Same H2 H' ∧ σ' = [some (.ref a), some (.str (S [c])), some (.int (st : Int)), some (.int (gl : Int)), some (.ref b), some (.ref d), some (.ref nd), some (.int (due S0 c st)), none, none] ∧ ¬ (0 < due S0 c st ∧ rowAt S0.bl st = []))
    (WB.run (b := decide (0 < due S0 c st) && decide (((((rowAt S0.bl st).map iN).length : Nat) : Int) = 0)) (wb_and (wb_gtI (wi_v 7 rfl) wi_int) fun _ => wb_eqI (wi_lenT (bd s2) (hrl st) V.len) wi_int) fun H3 s3 => ?_) ?_
  · by_cases hb : 0 < due S0 c st ∧ rowAt S0.bl st = []
    · have hb' : (decide (0 < due S0 c st) && decide (((((rowAt S0.bl st).map iN).length : Nat) : Int) = 0)) = true := by rw [hb.2]; simp [hb.1]
      rw [if_pos hb']
      have hnone : handS S0 c st gl = none := if_pos hb
      rw [hnone] at hk
      exact wsf_ret (wef_non fun M hM => hk M H3 (by omega) (s2.trans s3))
    · have hb' : ¬ (decide (0 < due S0 c st) && decide (((((rowAt S0.bl st).map iN).length : Nat) : Int) = 0)) = true := fun h => by
        rw [Bool.and_eq_true] at h
        refine hb ⟨of_decide_eq_true h.1, ?_⟩
        have := of_decide_eq_true h.2
        rw [List.length_map] at this
        exact List.eq_nil_of_length_eq_zero (by omega)
      rw [if_neg hb']
      exact wsf_nil fun M hM => ⟨rfl, hM, s3, rfl, hb⟩
  rintro T M3 σ3 H3 hM3 ⟨rfl, hM3', s3, rfl, hnb⟩
  have s03 := s2.trans s3
  -- if due > 0: needs = needs + ..
  refine wsf_ifJ (fun (T : TT2) M' σ' H' => T = tkK c t ∧ M3 ≤ M' ∧ Same H3 H' ∧ ∃ nd', σ' = [some (.ref a), some (.str (S [c])), some (.int (st : Int)), some (.int (gl : Int)), some (.ref b), some (.ref d), some (.ref nd'), some (.int (due S0 c st)), none, none] ∧ Dp K H' (.ref nd') (.tuple ((if 0 < due S0 c st then S0.nd ++ [(rowAt S0.bl st, c, (due S0 c st).toNat)] else S0.nd).map needD)))
    (WB.run (wb_gtI (wi_v 7 rfl) wi_int) fun H4 s4 => ?_) ?_
  · by_cases hb : 0 < due S0 c st
    · rw [if_pos (by simpa using hb), if_pos hb]
      have s04 := s03.trans s4
      refine wsf_set 6 hN ((WD.at (wd_catT (wd_v 6 rfl (q3.same s04)) (wd_tup (wds_cons (wd_tup (wds_cons (bd s04) (wds_cons (wd_v 1 rfl (.str _)) (wds_cons (wd_v 7 rfl (.int _)) wds_nil)))) wds_nil)) (by simp) (by rw [List.length_map]; have := hsm.nd; simp; omega)) (Nat.le_refl _) (Same.refl _)).mono fun v u M5 H5 hM5 ⟨s5, n5, d5⟩ => ⟨_, fun q hq => .inl ⟨by rw [List.mem_singleton.mp hq]; show (PySem.Str.ofString "kind") ≠ PySem.Str.ofString "needs"; decide, hq⟩, wsf_nil fun M6 hM6 => ⟨rfl, by omega, s4.trans s5, ?_⟩⟩)
      obtain ⟨nd', ys, rfl, hq, hy⟩ := dp_tup d5
      refine ⟨nd', rfl, ?_⟩
      rw [List.map_append]
      have e : iN (due S0 c st).toNat = PyData.int (due S0 c st) := by
        show PyData.int (((due S0 c st).toNat : Nat) : Int) = _
        rw [Int.toNat_of_nonneg (by omega)]
      show Dp K H5 (.ref nd') (.tuple (S0.nd.map needD ++ [.tuple [nD (rowAt S0.bl st), tx [c], iN (due S0 c st).toNat]]))
      rw [e]
      exact d5
    · rw [if_neg (by simpa using hb), if_neg hb]
      exact wsf_nil fun M hM => ⟨rfl, hM, s4, nd, rfl, q3.same (s03.trans s4)⟩
  rintro T M4 σ4 H4 hM4 ⟨rfl, hM4', s4, nd', rfl, dnd⟩
  have s04 := s03.trans s4
  -- found = {}
  refine wsf_dnew 8 hN (fun q hq => by rw [List.mem_singleton.mp hq]; show (PySem.Str.ofString "kind") ≠ PySem.Str.ofString "found"; decide) fun ff M5 hM5 hf0 hfs => ?_
  have sf : Same H4 (upd H4 ff (.ext (dPhi P w ff []))) := same_new hf0
  have nfound : ∀ {H0 : Hp}, Same H0 H4 → H0 ff = none := fun s => s.free hf0
  let σx : Option L2.V → L2.St := fun x9 => [some (.ref a), some (.str (S [c])), some (.int (st : Int)), some (.int (gl : Int)), some (.ref b), some (.ref d), some (.ref nd'), some (.int (due S0 c st)), some (.ref ff), x9]
  -- for pair in nets: found[pair] = nets[pair]
  refine wsf_for PassesOwn.never (wif_dict (xs := xs) (o := od) 5 rfl (sf _ _ (s04 _ _ q4)) q5 fun M6 hM6 => ⟨xs.length, fun i M' σ' H' => M5 ≤ M' ∧ Same H4 H' ∧ ∃ ys x9, σ' = σx x9 ∧ H' ff = some (.ext (dPhi P w ff ys)) ∧ Netx g M' H' ys (setNets (fun k => k) [] (S0.nt.take i)), ?_, ?_, ?_⟩)
  · exact ⟨by omega, sf, [], none, rfl, upd_same, .nil⟩
  · rintro M' σ' H' ⟨hM', s5, ys, x9, rfl, hf, hx⟩
    rw [netx_len q6, List.take_length] at hx
    have sH : Same H H' := s04.trans s5
    refine ⟨⟨sH _ _ q4, Nat.le_refl _⟩, ?_⟩
    generalize hN0 : setNets (fun k => k) [] S0.nt = N1 at hx
    have hnd1 : (N1.map (·.1)).Nodup := by rw [← hN0]; exact setNets_nod _ _ _ (by simp)
    have hl1 : N1.length ≤ 900 := by
      rw [← hN0]
      have := setNets_len (fun k => k) S0.nt []
      have := hsm.nt
      simp at *
      omega
    have DF : ∀ {M7 : Nat} {H7 : Hp} {ys7 : List Ent} {ns7 : Nets}, H7 ff = some (.ext (dPhi P w ff ys7)) → Netx g M7 H7 ys7 ns7 → (ns7.map (·.1)).Nodup → DD (cxOf CX0 P w K mg base n_handed "handed" (defScope s_handed) f cdv A outer s H (fun _ _ _ => False)).nox H7 ff ys7 := fun h1 h2 h3 => ⟨netx_ddk h2 h3, .inl h1, hfs⟩
    -- found[start, kind] = found.get((start, kind), 0) - 1
    refine wsf_dput (g := g) (k := (st, c)) hu 8 rfl hf hx hnd1 hfs (by omega) (wi_op (wi_get (k := (st, c)) hu 8 rfl (DF hf hx hnd1) (wd_tup (wds_cons (wd_v 2 rfl (.int _)) (wds_cons (wd_v 1 rfl (.str _)) wds_nil))) wi_int) wi_int fun _ _ => pi_sub) (wkey_tup (k := (st, c)) (t := t) (wi_v 2 rfl) (List.mem_singleton.mpr rfl) fun e => (hgt e).mono (by omega)) fun ys2 M7 H7 hM7 s7 hf7 hx7 => ?_
    rw [netx_at hx] at hx7
    have hnd2 := nod_put (k := (st, c)) (i := (nAt N1 (st, c)).getD 0 - 1) hnd1
    have hl2 := nPut_len N1 (st, c) ((nAt N1 (st, c)).getD 0 - 1)
    -- found[goal, kind] = found.get((goal, kind), 0) + 1
    refine wsf_dput (g := g) (k := (gl, c)) hu 8 rfl hf7 hx7 hnd2 hfs (by omega) (wi_op (wi_get (k := (gl, c)) hu 8 rfl (DF hf7 hx7 hnd2) (wd_tup (wds_cons (wd_v 3 rfl (.int _)) (wds_cons (wd_v 1 rfl (.str _)) wds_nil))) wi_int) wi_int fun _ _ => pi_add) (wkey_tup (k := (gl, c)) (t := t) (wi_v 3 rfl) (List.mem_singleton.mpr rfl) fun e => (hgt e).mono (by omega)) fun ys3 M8 H8 hM8 s8 hf8 hx8 => ?_
    rw [netx_at hx7] at hx8
    have sH8 : Same H H8 := s8 H (s7 H sH (nfound s04)) (nfound s04)
    have sH48 : ∀ {H0 : Hp}, Same H0 H4 → Same H0 H8 := fun h0 => s8 _ (s7 _ (h0.trans s5) (nfound h0)) (nfound h0)
    have hsome : handS S0 c st gl = some ⟨S0.bl, nPut (nPut N1 (st, c) (netV N1 (st, c) - 1)) (gl, c) (netV (nPut N1 (st, c) (netV N1 (st, c) - 1)) (gl, c) + 1), if 0 < due S0 c st then S0.nd ++ [(rowAt S0.bl st, c, (due S0 c st).toNat)] else S0.nd⟩ := by
      unfold handS
      rw [if_neg hnb, hN0]
    rw [hsome] at hk
    -- return (blocks, found, needs)
    refine wsf_freeze hf8 trivial fun of => wsf_ret (wef_tupZ (waf_cons (wef_v 4 rfl fun u0 M9 r0 n0 => waf_cons (wef_v 8 rfl fun u1 M10 r1 n1 => waf_cons (wef_v 6 rfl fun u2 M11 r2 n2 => waf_nil fun M12 n3 => ⟨by simp, fun q hq => ?_⟩)))))
    have hqf : ff ≠ q := fun e => by rw [← e, upd_same] at hq; cases hq
    have s9 : Same H8 (upd H8 ff (.frz of (.ext (dPhi P w ff ys3)))) → True := fun _ => trivial
    have sHf : ∀ {H0 : Hp}, Same H0 H4 → Same H0 (upd H8 ff (.frz of (.ext (dPhi P w ff ys3)))) := fun h0 => same_mut (sH48 h0) (nfound h0)
    have sq := same_new (o := .frz { cls := .type "tuple", data := .seq [u0, u1, u2].toArray } (.tup [.ref b, .ref ff, .ref nd'])) hq
    refine hk q M12 _ (by omega) ((sHf s04).trans sq) ⟨b, ff, nd', of, ys3, .inl (.inr ⟨_, upd_same⟩), q2.same ((sHf s04).trans sq), ?_, ?_, hfs, ?_⟩
    · exact (dnd.tx (same_tx (sHf (Same.refl H4))) (by show immAll _ = true; exact immAll_need _)).same sq
    · rw [upd_ne hqf, upd_same]; rfl
    · refine (hx8.mono (by omega)).same fun a' k' ky => ?_
      obtain ⟨o, m, t', t1, h1, h2⟩ := ky
      refine ⟨o, m, t', t1, sq _ _ ?_, h2⟩
      rw [upd_ne]
      · exact h1
      · intro e
        rw [e, hf8] at h1
        cases h1
  · rintro i M' σ' H' hi ⟨hM', s5, ys, x9, rfl, hf, hx⟩
    have sH : Same H H' := s04.trans s5
    refine ⟨⟨sH _ _ q4, hi⟩, fun x u H'' M'' y ru hM'' => ?_⟩
    obtain ⟨rfl, en, hen, rfl⟩ := y
    obtain rfl : u = Value.ref en.2.1 := ru
    obtain ⟨nx, hnx, r1, r2, r3⟩ := paired_get q6 hen
    have ky := (r3.mono (show N0 ≤ M'' by omega)).same sH
    refine wtg_name 9 hN fun M7 hM7 => ⟨tkK c t, fun q hq => .inl ⟨by rw [List.mem_singleton.mp hq]; show (PySem.Str.ofString "kind") ≠ PySem.Str.ofString "pair"; decide, hq⟩, ?_⟩
    have hnd1 : ((setNets (fun k => k) [] (S0.nt.take i)).map (·.1)).Nodup := setNets_nod _ _ _ (by simp)
    have hl1 : (setNets (fun k => k) [] (S0.nt.take i)).length ≤ 900 := by
      have := setNets_len (fun k => k) (S0.nt.take i) []
      have := hsm.nt
      rw [List.length_take] at *
      simp at *
      omega
    have hval : entAt xs (keyD nx.1) = some nx.2 := by
      rw [netx_at q6]
      exact nAt_mem hsm.ok.nod (List.mem_of_getElem? hnx)
    refine wsf_dput (g := g) (k := nx.1) hu 8 rfl hf (hx.mono (by omega)) hnd1 hfs (by omega) (wi_dix (k := nx.1) hu 5 rfl (D0 sH) (wd_v 9 rfl ky.dp) hval) (wkey_v 9 rfl (ky.mono hM7)) fun ys2 M8 H8 hM8 s8 hf8 hx8 => wsf_nil fun M9 hM9 => ⟨fun q hq => hq, by omega, s8 H4 s5 hf0, ys2, _, rfl, hf8, ?_⟩
    rw [take_snoc hnx, setNets_snoc]
    exact hx8.mono hM9
end
end K10
set_option maxHeartbeats 4000000
/-! gathered. -/
namespace K10
open PySem PySem.Spec PyProof.Rows L2 SX
open C8 (Cal pe_c)
theorem sortD_ints (l : List Nat) : sortD (l.map iN) = (srt l).map iN := by
  unfold sortD srt
  symm
  refine PySem.W.sort_maps (fun c : Nat => iN c) fun a _ b _ => ?_
  show decide (a ≤ b) = PySem.W.dataLe false id (iN a) (iN b)
  rw [PySem.W.dataLe_eq]
  show decide (a ≤ b) = !PySem.W.dataLt (iN b) (iN a)
  rw [PySem.W.dataLt_int, Bool.eq_iff_iff]
  simp
theorem alike_ints (l : List Nat) : PySem.W.AllAlike (l.map iN) := fun a ha b hb => by
  obtain ⟨c, _, rfl⟩ := List.mem_map.mp ha
  obtain ⟨d, _, rfl⟩ := List.mem_map.mp hb
  rfl
theorem sortable_ints (l : List Nat) : PySem.W.Sortable (l.map iN) := .inr fun a ha => by
  obtain ⟨c, _, rfl⟩ := List.mem_map.mp ha
  exact ⟨(fun e => nomatch e), (fun xs e => nomatch e)⟩
section
variable {X : Cx} {T T' : TT2} {N : Nat} {σ : L2.St} {H H' : Hp} {e e1 e2 f a b' c : Expr} {pos p p1 p2 p3 apos : Pos} {s : Shared} {st : Stmt} {rest body orelse : List Stmt} {D : Ends}
theorem ws_one (h : WSs X [st] D σ H) : WS X st D σ H := .mk fun pins s I Γ p hΓ => by
  have := h pins s I Γ p hΓ
  rw [execs_cons, Sem.wp_bind'] at this
  refine Sem.wp_mono _ Γ _ (fun f p' s' h' => ?_) (fun _ _ _ h' => h') _ _ this
  cases f <;> exact h'
/-- sorted(a tuple of ints) -/
theorem en_sortI {l : List Nat} (h : EE X σ H e (nD l)) (hl : l.length ≤ 1000) (hm : X.mg "sorted" = none) (hu : X.A.units + 200 < cLine) (hcal : X.calm = true := by rfl) (hg : Gl X "sorted" := by rfl) (he : starEach [e] X.env = (false, eval e X.env) :: starEach [] X.env := by exact star_cons (by rfl)) (hpl : (backTo pos (starEach [] X.env)).any (·.1) = false := by exact star_any (by rfl)) :
    EN X σ H (.Call (.Name "sorted" p) [e] [] pos) ((srt l).map iN) :=
  EN.is (en_sorted h rfl (alike_ints l) (sortable_ints l) (by rw [List.length_map]; omega) (fun d hd => by obtain ⟨c, _, rfl⟩ := List.mem_map.mp hd; simp [PyData.depth]) hm hu hcal hg he hpl) (sortD_ints l)
end
theorem addNets_snoc (φ : Nat × Nat → Nat × Nat) (f xs : Nets) (x : (Nat × Nat) × Int) : addNets φ f (xs ++ [x]) = nPut (addNets φ f xs) (φ x.1) (netV (addNets φ f xs) (φ x.1) + x.2) := by
  unfold addNets
  rw [List.foldl_append]
  rfl
theorem KeyAt.kt {g : Bool} {M : Nat} {H : Hp} {a : Addr} {k : Nat × Nat} (h : KeyAt g M H a k) : ∃ t t1, Ktup H a [.int (k.1 : Int), .str (S [k.2])] [Value.int (k.1 : Int) t1, .str (S [k.2]) t] ∧ (g = true → Gtok M t) := by
  obtain ⟨o, n, t, t1, h1, h2, h3, h4⟩ := h
  exact ⟨t, t1, ⟨o, n, h1, h2, h3⟩, h4⟩
/-- the state behind the steps * and ~ -/
def gathS (S0 : SSt) (s g : Nat) : SSt := ⟨(S0.bl.set g (srt (rowAt S0.bl g ++ rowAt S0.bl s))).set s [], addNets (toG s g) [] S0.nt, S0.nd⟩
def exchS (S0 : SSt) (s g : Nat) : SSt := ⟨(S0.bl.set s (rowAt S0.bl g)).set g (rowAt S0.bl s), setNets (toX s g) [] S0.nt, S0.nd⟩
theorem dpAll_setm {K : PySem.W.Frag} {H : Hp} {xs : List V} {bl : List (List Nat)} {v : V} {l : List Nat} (i : Nat) (h : DpAll K H xs (bl.map nD)) (dv : Dp K H v (nD l)) : DpAll K H (xs.set i v) ((bl.set i l).map nD) := by
  rw [List.map_set]
  exact dpAll_set dv i h
theorem imm_nD (l : List Nat) : imm (nD l) = true := immAll_iff.mpr fun d hd => by obtain ⟨c, _, rfl⟩ := List.mem_map.mp hd; rfl
theorem immAll_nDs (bl : List (List Nat)) : immAll (bl.map nD) = true := immAll_iff.mpr fun d hd => by obtain ⟨c, _, rfl⟩ := List.mem_map.mp hd; exact imm_nD c
section
variable {P : Program} {w : World} {K : PySem.W.Frag} {mg : Str → Option Value} {base : Heap}
def spMoved (P : Program) (w : World) (K : PySem.W.Frag) (g : Bool) (F : SSt → Nat → Nat → SSt) : SpT := fun vs us N H Q => ∃ (a : Addr) (st gl n : Nat) (S0 : SSt), vs = [.ref a, .int (st : Int), .int (gl : Int)] ∧ StateAt P w K g N H a S0 ∧ SmS n S0 ∧ st < n ∧ gl < n ∧ st ≠ gl ∧
  ∀ q M H', N ≤ M → Same H H' → StateAt P w K g M H' q (F S0 st gl) → Q (.ref q) (.ref q) M H'
theorem c_gathered (V : Ev mg) (G : Gd K mg "gathered" s_gathered) (g : Bool) : CalT P w K mg base 1 "gathered" (spMoved P w K g gathS) [] := by
  obtain ⟨f, fd, F, gg⟩ := G.ex
  refine ⟨f, fd, p_gathered, [], ?_, gg, F.kp, F.bindsN (fun _ _ _ _ _ _ us hl => match us, hl with | [_, _, _], _ => rfl), .nil⟩
  refine fnT_of F sc_gathered (fun vs us M H Q ⟨_, _, _, _, _, h, _⟩ => by rw [h]; rfl) fun cdv A outer s H vs us Q hr hv h => ⟨[], (fun q hq => by cases hq), ?_⟩
  obtain ⟨a, st, gl, n, S0, rfl, hst, hsm, hs6, hg6, hne, hk⟩ := h
  have hN := sc_gathered.nd
  have hu := room_u hr
  generalize s.toks = N0 at hk hst
  obtain ⟨b, d, nd, od, xs, q1, q2, q3, q4, q5, q6⟩ := hst
  refine wsf_unpack3 3 4 5 hN (wef_v 0 rfl fun u0 M0 r0 n0 => ⟨a, .ref b, .ref d, .ref nd, rfl, q1, fun u1 u2 u3 _ _ _ _ M1 hM1 => ⟨[], fun q hq => (by cases hq), ?_⟩⟩) (by decide) (by decide) (by decide)
  have D0 : ∀ {H1 : Hp}, Same H H1 → DD (cxOf CX0 P w K mg base n_gathered "gathered" (defScope s_gathered) f cdv A outer s H (fun _ _ _ => False)).nox H1 d xs := fun s1 => ⟨(netx_ddk q6 hsm.ok.nod).same s1, .inr ⟨od, s1 _ _ q4⟩, q5⟩
  have hrow : ∀ {p : Nat}, p < n → (S0.bl.map nD)[p]? = some (nD (rowAt S0.bl p)) := fun {p} hp => by
    rw [List.getElem?_map]
    unfold rowAt
    rw [List.getElem?_eq_getElem (by rw [hsm.blk]; exact hp)]
    rfl
  -- lots = list(blocks)
  refine wsf_st (ws_one (wss_setN 6 hN (en_list (ee_var 3 rfl q2) (.inr rfl) V.list) fun lt ys H2 s2 hl0 hl2 hy => wss_nil fun M2 hM2 => ?_))
  have hyl : ys.length = n := by rw [dpAll_len hy, List.length_map, hsm.blk]
  -- lots[goal] = tuple(sorted(blocks[goal] + blocks[start]))
  refine wsf_st (ws_one (wss_seti (j := gl) 6 rfl hl2 (by omega) (ee_tuple (EN.ee (en_sortI (l := rowAt S0.bl gl ++ rowAt S0.bl st) (EE.is (ee_catT (ee_ixT (j := gl) (ee_var 3 rfl (q2.same s2)) (ee_var 2 rfl (.int _)) (hrow hg6)) (ee_ixT (j := st) (ee_var 3 rfl (q2.same s2)) (ee_var 1 rfl (.int _)) (hrow hs6)) (by simp; have := hsm.row gl; have := hsm.row st; omega)) (by rw [← List.map_append])) (by rw [List.length_append]; have := hsm.row gl; have := hsm.row st; omega) V.sorted hu)) (.inl rfl) V.tuple) (ee_var 2 rfl (.int _)) fun v3 H3 s3 d3 => wss_nil fun M3 hM3 => ?_))
  have hy3 := dpAll_setm gl (hy.same s3) d3
  have s13 : Same H (upd H3 lt (.lst (ys.set gl v3))) := same_mut (s2.trans s3) hl0
  have hy3' : DpAll K (upd H3 lt (.lst (ys.set gl v3))) (ys.set gl v3) ((S0.bl.set gl (srt (rowAt S0.bl gl ++ rowAt S0.bl st))).map nD) := hy3.tx (tx_mut (Tx.refl _) (s3 _ _ hl2) trivial) (immAll_nDs _)
  -- lots[start] = ()
  refine wsf_st (ws_one (wss_seti (j := st) 6 rfl upd_same (by rw [List.length_set]; omega) (ee_tup ea_nil) (ee_var 1 rfl (.int _)) fun v4 H4 s4 d4 => wss_nil fun M4 hM4 => ?_))
  have s14 : Same H (upd H4 lt (.lst ((ys.set gl v3).set st v4))) := same_mut (s13.trans s4) hl0
  have hy4 : DpAll K (upd H4 lt (.lst ((ys.set gl v3).set st v4))) ((ys.set gl v3).set st v4) ((gathS S0 st gl).bl.map nD) := (dpAll_setm (l := []) st (hy3'.same s4) d4).tx (tx_mut (Tx.refl _) (s4 _ _ upd_same) trivial) (immAll_nDs _)
  generalize hH5 : upd H4 lt (.lst ((ys.set gl v3).set st v4)) = H5 at s14 hy4 ⊢
  have hl5 : H5 lt = some (.lst ((ys.set gl v3).set st v4)) := by rw [← hH5]; exact upd_same
  generalize (ys.set gl v3).set st v4 = zs at hl5 hy4
  -- found = {}
  refine wsf_dnew 7 hN (fun q hq => by cases hq) fun ff M5 hM5 hf0 hfs => ?_
  have sf : Same H5 (upd H5 ff (.ext (dPhi P w ff []))) := same_new hf0
  have nfound : ∀ {H0 : Hp}, Same H0 H5 → H0 ff = none := fun s => s.free hf0
  let σx : Option L2.V → Option L2.V → Option L2.V → L2.St := fun x8 x9 x10 => [some (.ref a), some (.int (st : Int)), some (.int (gl : Int)), some (.ref b), some (.ref d), some (.ref nd), some (.ref lt), some (.ref ff), x8, x9, x10]
  refine wsf_for PassesOwn.never (wif_dict (xs := xs) (o := od) 4 rfl (sf _ _ (s14 _ _ q4)) q5 fun M6 hM6 => ⟨xs.length, fun i M' σ' H' => M5 ≤ M' ∧ Same H5 H' ∧ ∃ ys x8 x9 x10, σ' = σx x8 x9 x10 ∧ H' ff = some (.ext (dPhi P w ff ys)) ∧ Netx g M' H' ys (addNets (toG st gl) [] (S0.nt.take i)), ?_, ?_, ?_⟩)
  · exact ⟨by omega, sf, [], none, none, none, rfl, upd_same, .nil⟩
  · rintro M' σ' H' ⟨hM', s5, ys', x8, x9, x10, rfl, hf, hx⟩
    rw [netx_len q6, List.take_length] at hx
    have sH : Same H H' := s14.trans s5
    refine ⟨⟨sH _ _ q4, Nat.le_refl _⟩, ?_⟩
    -- return (tuple(lots), found, needs)
    refine wsf_freeze hf trivial fun of => ?_
    have sHf : ∀ {H0 : Hp}, Same H0 H5 → Same H0 (upd H' ff (.frz of (.ext (dPhi P w ff ys')))) := fun h0 => same_mut (h0.trans s5) (nfound h0)
    have hlf : lt ≠ ff := fun e => by rw [← e, hl5] at hf0; cases hf0
    have dl : Dp K (upd H' ff (.frz of (.ext (dPhi P w ff ys')))) (.ref lt) (.list ((gathS S0 st gl).bl.map nD)) := by
      refine .lst (.of (by rw [upd_ne hlf]; exact s5 _ _ hl5)) ?_
      exact hy4.same (sHf (Same.refl H5))
    refine wsf_ret (wef_tupZ (waf_cons ((WD.at (wd_of (ee_tuple (ee_var 6 rfl dl) (.inl rfl) V.tuple)) (Nat.le_refl _) (Same.refl _)).monoR fun v0 u0 M9 H9 r0 hM9 ⟨s9, n9, d9⟩ => ?_)))
    obtain ⟨b', ts, rfl, hq', hts⟩ := dp_tup d9
    refine waf_cons (wef_v 7 rfl fun u1 M10 r1 n1 => waf_cons (wef_v 5 rfl fun u2 M11 r2 n2 => waf_nil fun M12 n3 => ⟨by simp, fun q hq => ?_⟩))
    have sq := same_new (o := .frz { cls := .type "tuple", data := .seq [u0, u1, u2].toArray } (.tup [.ref b', .ref ff, .ref nd])) hq
    refine hk q M12 _ (by omega) ((sHf s14).trans (s9.trans sq)) ⟨b', ff, nd, of, ys', .inl (.inr ⟨_, upd_same⟩), d9.same sq, q3.same ((sHf s14).trans (s9.trans sq)), ?_, hfs, ?_⟩
    · exact sq _ _ (s9 _ _ (by rw [upd_same]))
    · refine (hx.mono (by omega)).same fun a' k' ky => ?_
      obtain ⟨o, m, t', t1, h1, h2⟩ := ky
      refine ⟨o, m, t', t1, sq _ _ (s9 _ _ ?_), h2⟩
      rw [upd_ne]
      · exact h1
      · intro e
        rw [e, hf] at h1
        cases h1
  · rintro i M' σ' H' hi ⟨hM', s5, ys', x8, x9, x10, rfl, hf, hx⟩
    have sH : Same H H' := s14.trans s5
    refine ⟨⟨sH _ _ q4, hi⟩, fun x u H'' M'' y ru hM'' => ?_⟩
    obtain ⟨rfl, en, hen, rfl⟩ := y
    obtain rfl : u = Value.ref en.2.1 := ru
    obtain ⟨⟨⟨pp, c⟩, vv⟩, hnx, r1, r2, r3⟩ := paired_get q6 hen
    have ky := (r3.mono (show N0 ≤ M'' by omega)).same sH
    obtain ⟨t, t1, kt, gt⟩ := ky.kt
    refine wtg_pair 8 9 hN kt (fun M7 hM7 => ⟨tkK c t, fun q hq => .inr (.inr (by rw [List.mem_singleton.mp hq])), ?_⟩) (by decide)
    -- to = place; if place == start: to = goal
    refine wsf_setZ 10 hN (wz_wi (wi_v 8 rfl)) (fun q hq => by rw [List.mem_singleton.mp hq]; show (PySem.Str.ofString "kind") ≠ PySem.Str.ofString "to"; decide) fun z M8 H8 ez s8 n8 => ?_
    subst ez
    refine wsf_ifJ (fun (T : TT2) M9 σ9 H9 => T = tkK c t ∧ M8 ≤ M9 ∧ Same H8 H9 ∧ σ9 = σx (some (.int (pp : Int))) (some (.str (S [c]))) (some (.int (((toG st gl (pp, c)).1 : Nat) : Int)))) (WB.run (wb_eqI (wi_v 8 rfl) (wi_v 1 rfl)) fun H9 s9 => ?_) ?_
    · by_cases hb : pp = st
      · rw [if_pos (by simp [hb])]
        refine wsf_setZ 10 hN (wz_wi (wi_v 2 rfl)) (fun q hq => by rw [List.mem_singleton.mp hq]; show (PySem.Str.ofString "kind") ≠ PySem.Str.ofString "to"; decide) fun z M10 H10 ez s10 n10 => wsf_nil fun M11 hM11 => ⟨rfl, by omega, s9.trans s10, ?_⟩
        subst ez
        have : toG st gl (pp, c) = (gl, c) := by unfold toG; simp [hb]
        rw [this]
        rfl
      · rw [if_neg (by simp; omega)]
        refine wsf_nil fun M11 hM11 => ⟨rfl, hM11, s9, ?_⟩
        have : toG st gl (pp, c) = (pp, c) := by unfold toG; simp [hb]
        rw [this]
        rfl
    rintro T M9 σ9 H9 hM9 ⟨rfl, hM9', s9, rfl⟩
    have s89 : Same H'' H9 := s8.trans s9
    have hnd1 : ((addNets (toG st gl) [] (S0.nt.take i)).map (·.1)).Nodup := addNets_nod _ _ _ (by simp)
    have hl1 : (addNets (toG st gl) [] (S0.nt.take i)).length ≤ 900 := by
      have := addNets_len (toG st gl) (S0.nt.take i) []
      have := hsm.nt
      rw [List.length_take] at *
      simp at *
      omega
    have hval : entAt xs (keyD (pp, c)) = some vv := by
      rw [netx_at q6]
      exact nAt_mem hsm.ok.nod (List.mem_of_getElem? hnx)
    have hxM : Netx g M9 H9 ys' (addNets (toG st gl) [] (S0.nt.take i)) := (hx.mono (by omega)).same fun a k h => h.same s89
    have hfM := s89 _ _ hf
    refine wsf_dput (g := g) (k := toG st gl (pp, c)) hu 7 rfl hfM hxM hnd1 hfs (by omega) (wi_op (wi_get (k := toG st gl (pp, c)) hu 7 rfl ⟨netx_ddk hxM hnd1, .inl hfM, hfs⟩ (wd_tup (wds_cons (wd_v 10 rfl (.int _)) (wds_cons (wd_v 9 rfl (.str _)) wds_nil))) wi_int) (wi_dix (k := (pp, c)) hu 4 rfl (D0 (sH.trans s89)) (wd_tup (wds_cons (wd_v 8 rfl (.int _)) (wds_cons (wd_v 9 rfl (.str _)) wds_nil))) hval) fun _ _ => pi_add) (wkey_tup (k := toG st gl (pp, c)) (t := t) (wi_v 10 rfl) (List.mem_singleton.mpr rfl) fun e => (gt e).mono (by omega)) fun ys2 M10 H10 hM10 s10 hf10 hx10 => wsf_nil fun M11 hM11 => ⟨fun q hq => (by cases hq), by omega, s10 H5 (s5.trans s89) hf0, ys2, _, _, _, rfl, hf10, ?_⟩
    rw [take_snoc hnx, addNets_snoc]
    rw [netx_at hxM] at hx10
    exact hx10.mono hM11
end
end K10
set_option maxHeartbeats 4000000
/-! exchanged. -/
namespace K10
open PySem PySem.Spec PyProof.Rows L2 SX
open C8 (Cal pe_c)
section
variable {X : Cx} {σ : L2.St} {H : Hp} {e c1 c2 : Expr} {pos : Pos} {rest : List Stmt} {D : Ends} {d1 d2 : PyData}
/-- xs[i], xs[j] = a, b -/
theorem wss_swap {x : Str} {l : Addr} {xs : List V} {p1 p2 p3 p4 p5 : Pos} {kk j1 j2 : Nat} (i : Nat) (hNd : X.N.Nodup) (hl : σ[i]? = some (some (.ref l))) (hx : H l = some (.lst xs)) (hj1 : j1 < xs.length) (hj2 : j2 < xs.length) (h : EE X σ H e (.tuple [d1, d2])) (hi1 : EE X σ H c1 (.int (j1 : Nat))) (hi2 : ∀ {H' : Hp}, EE X σ H' c2 (.int (j2 : Nat))) (k : ∀ v1 v2 H1, Same H H1 → Dp X.K H1 v1 d1 → Dp X.K H1 v2 d2 → WSs X rest D σ (upd H1 l (.lst ((xs.set j1 v1).set j2 v2))))
    (hN : X.N[i]? = some x := by rfl) (hv : Vis X.env.scope x := by first | exact Or.inl rfl | exact Or.inr (Or.inl rfl) | exact Or.inr (Or.inr rfl)) (hd1 : (x == ("__debug__" : Str)) = false := by decide) (hd2 : (x == ("__classdict__" : Str)) = false := by decide) (hc : X.calm = true := by rfl)
    (hs : swapsWithSole [.Tuple [.Subscript (.Name x p1) c1 p2, .Subscript (.Name x p3) c2 p4] kk p5] e pos.line X.env = pure false := by rfl) (hw : swappedStores [.Tuple [.Subscript (.Name x p1) c1 p2, .Subscript (.Name x p3) c2 p4] kk p5] e X.env = pure none := by rfl)
    (h1 : (assignEach [.Tuple [.Subscript (.Name x p1) c1 p2, .Subscript (.Name x p3) c2 p4] kk p5] X.env).map (·.2) = [assign (.Tuple [.Subscript (.Name x p1) c1 p2, .Subscript (.Name x p3) c2 p4] kk p5) X.env] := by rfl)
    (hn : (assignEach [.Subscript (.Name x p1) c1 p2, .Subscript (.Name x p3) c2 p4] X.env).length = 2 := by rfl) (hst : (assignEach [.Subscript (.Name x p1) c1 p2, .Subscript (.Name x p3) c2 p4] X.env).findIdx? (·.1) = none := by rfl)
    (ha : (assignEach [.Subscript (.Name x p1) c1 p2, .Subscript (.Name x p3) c2 p4] X.env).map (·.2) = assign (.Subscript (.Name x p1) c1 p2) X.env :: (assignEach [.Subscript (.Name x p3) c2 p4] X.env).map (·.2) := by rfl) (hb : (assignEach [.Subscript (.Name x p3) c2 p4] X.env).map (·.2) = assign (.Subscript (.Name x p3) c2 p4) X.env :: (assignEach [] X.env).map (·.2) := by rfl)
    (ha1 : ∀ v, assign (.Subscript (.Name x p1) c1 p2) X.env v = (do
      let ov ← holding [v] (eval (.Name x p1) X.env)
      let iv ← holding [v, ov] (eval c1 X.env)
      standAt p2
      holding [v, ov, iv] (setItem ov iv v)
      release [v, ov, iv] []) := by intro _; rfl)
    (ha2 : ∀ v, assign (.Subscript (.Name x p3) c2 p4) X.env v = (do
      let ov ← holding [v] (eval (.Name x p3) X.env)
      let iv ← holding [v, ov] (eval c2 X.env)
      standAt p4
      holding [v, ov, iv] (setItem ov iv v)
      release [v, ov, iv] []) := by intro _; rfl) : WSs X (.Assign [.Tuple [.Subscript (.Name x p1) c1 p2, .Subscript (.Name x p3) c2 p4] kk p5] e pos :: rest) D σ H := by
  refine wss_asg h (pg_tup hc (pgs_cons (pg_sub (pe_var hN hv hd1 hd2) (pw c1) set_list ha1) (pgs_cons (pg_sub (pe_var hN hv hd1 hd2) (pw c2) set_list ha2) pgs_nil hb) ha) hn hst) (fun v H1 s1 dv => ?_) hs hw h1
  obtain ⟨q, ys, rfl, hq, hys⟩ := dp_tup dv
  obtain ⟨v1, v2, rfl, e1, e2⟩ := dpAll_2 hys
  refine ⟨q, _, rfl, hq, rfl, v1, [v2], rfl, .ref l, hl, (hi1 H1 s1).mono fun y H2 ⟨s2, dy⟩ => ⟨l, xs, (j1 : Nat), j1, rfl, dp_int dy, s2 _ _ (s1 _ _ hx), ixN_nat hj1, v2, [], rfl, .ref l, hl, (hi2 (H' := upd H2 l (.lst (xs.set j1 v1))) _ (Same.refl _)).mono fun y2 H3 ⟨s3, dy2⟩ => ⟨l, xs.set j1 v1, (j2 : Nat), j2, rfl, dp_int dy2, s3 _ _ upd_same, ixN_nat (by rw [List.length_set]; exact hj2), rfl, ?_⟩⟩⟩
  have hx1 : H1 l = some (.lst xs) := s1 _ _ hx
  have sm : Same H1 (upd H3 l (.lst xs)) := fun b u hb => by
    by_cases e : b = l
    · subst e
      rw [upd_same, ← hx1, hb]
    · rw [upd_ne e]
      refine s3 _ _ ?_
      rw [upd_ne e]
      exact s2 _ _ hb
  have := k v1 v2 (upd H3 l (.lst xs)) (s1.trans sm) (e1.same sm) (e2.same sm)
  rw [upd_upd] at this
  exact this
end
section
variable {P : Program} {w : World} {K : PySem.W.Frag} {mg : Str → Option Value} {base : Heap}
theorem c_exchanged (V : Ev mg) (G : Gd K mg "exchanged" s_exchanged) (g : Bool) : CalT P w K mg base 1 "exchanged" (spMoved P w K g exchS) [] := by
  obtain ⟨f, fd, F, gg⟩ := G.ex
  refine ⟨f, fd, p_exchanged, [], ?_, gg, F.kp, F.bindsN (fun _ _ _ _ _ _ us hl => match us, hl with | [_, _, _], _ => rfl), .nil⟩
  refine fnT_of F sc_exchanged (fun vs us M H Q ⟨_, _, _, _, _, h, _⟩ => by rw [h]; rfl) fun cdv A outer s H vs us Q hr hv h => ⟨[], (fun q hq => by cases hq), ?_⟩
  obtain ⟨a, st, gl, n, S0, rfl, hst, hsm, hs6, hg6, hne, hk⟩ := h
  have hN := sc_exchanged.nd
  have hu := room_u hr
  generalize s.toks = N0 at hk hst
  obtain ⟨b, d, nd, od, xs, q1, q2, q3, q4, q5, q6⟩ := hst
  refine wsf_unpack3 3 4 5 hN (wef_v 0 rfl fun u0 M0 r0 n0 => ⟨a, .ref b, .ref d, .ref nd, rfl, q1, fun u1 u2 u3 _ _ _ _ M1 hM1 => ⟨[], fun q hq => (by cases hq), ?_⟩⟩) (by decide) (by decide) (by decide)
  have D0 : ∀ {H1 : Hp}, Same H H1 → DD (cxOf CX0 P w K mg base n_exchanged "exchanged" (defScope s_exchanged) f cdv A outer s H (fun _ _ _ => False)).nox H1 d xs := fun s1 => ⟨(netx_ddk q6 hsm.ok.nod).same s1, .inr ⟨od, s1 _ _ q4⟩, q5⟩
  have hrow : ∀ {p : Nat}, p < n → (S0.bl.map nD)[p]? = some (nD (rowAt S0.bl p)) := fun {p} hp => by
    rw [List.getElem?_map]
    unfold rowAt
    rw [List.getElem?_eq_getElem (by rw [hsm.blk]; exact hp)]
    rfl
  -- lots = list(blocks)
  refine wsf_st (ws_one (wss_setN 6 hN (en_list (ee_var 3 rfl q2) (.inr rfl) V.list) fun lt ys H2 s2 hl0 hl2 hy => wss_nil fun M2 hM2 => ?_))
  have hyl : ys.length = n := by rw [dpAll_len hy, List.length_map, hsm.blk]
  -- lots[start], lots[goal] = blocks[goal], blocks[start]
  refine wsf_st (ws_one (wss_swap (j1 := st) (j2 := gl) 6 hN rfl hl2 (by omega) (by omega) (ee_tup (ea_cons (ee_ixT (j := gl) (ee_var 3 rfl (q2.same s2)) (ee_var 2 rfl (.int _)) (hrow hg6)) (ea_1 (ee_ixT (j := st) (ee_var 3 rfl (q2.same s2)) (ee_var 1 rfl (.int _)) (hrow hs6))))) (ee_var 1 rfl (.int _)) (ee_var 2 rfl (.int _)) fun v3 v4 H4 s4 d3 d4 => wss_nil fun M4 hM4 => ?_))
  have s14 : Same H (upd H4 lt (.lst ((ys.set st v3).set gl v4))) := same_mut (s2.trans s4) hl0
  have hy4 : DpAll K (upd H4 lt (.lst ((ys.set st v3).set gl v4))) ((ys.set st v3).set gl v4) ((exchS S0 st gl).bl.map nD) := (dpAll_setm gl (dpAll_setm st (hy.same s4) d3) d4).tx (tx_mut (Tx.refl _) (s4 _ _ hl2) trivial) (immAll_nDs _)
  generalize hH5 : upd H4 lt (.lst ((ys.set st v3).set gl v4)) = H5 at s14 hy4 ⊢
  have hl5 : H5 lt = some (.lst ((ys.set st v3).set gl v4)) := by rw [← hH5]; exact upd_same
  generalize (ys.set st v3).set gl v4 = zs at hl5 hy4
  -- found = {}
  refine wsf_dnew 7 hN (fun q hq => by cases hq) fun ff M5 hM5 hf0 hfs => ?_
  have sf : Same H5 (upd H5 ff (.ext (dPhi P w ff []))) := same_new hf0
  have nfound : ∀ {H0 : Hp}, Same H0 H5 → H0 ff = none := fun s => s.free hf0
  let σx : Option L2.V → Option L2.V → Option L2.V → L2.St := fun x8 x9 x10 => [some (.ref a), some (.int (st : Int)), some (.int (gl : Int)), some (.ref b), some (.ref d), some (.ref nd), some (.ref lt), some (.ref ff), x8, x9, x10]
  refine wsf_for PassesOwn.never (wif_dict (xs := xs) (o := od) 4 rfl (sf _ _ (s14 _ _ q4)) q5 fun M6 hM6 => ⟨xs.length, fun i M' σ' H' => M5 ≤ M' ∧ Same H5 H' ∧ ∃ ys x8 x9 x10, σ' = σx x8 x9 x10 ∧ H' ff = some (.ext (dPhi P w ff ys)) ∧ Netx g M' H' ys (setNets (toX st gl) [] (S0.nt.take i)), ?_, ?_, ?_⟩)
  · exact ⟨by omega, sf, [], none, none, none, rfl, upd_same, .nil⟩
  · rintro M' σ' H' ⟨hM', s5, ys', x8, x9, x10, rfl, hf, hx⟩
    rw [netx_len q6, List.take_length] at hx
    have sH : Same H H' := s14.trans s5
    refine ⟨⟨sH _ _ q4, Nat.le_refl _⟩, ?_⟩
    -- return (tuple(lots), found, needs)
    refine wsf_freeze hf trivial fun of => ?_
    have sHf : ∀ {H0 : Hp}, Same H0 H5 → Same H0 (upd H' ff (.frz of (.ext (dPhi P w ff ys')))) := fun h0 => same_mut (h0.trans s5) (nfound h0)
    have hlf : lt ≠ ff := fun e => by rw [← e, hl5] at hf0; cases hf0
    have dl : Dp K (upd H' ff (.frz of (.ext (dPhi P w ff ys')))) (.ref lt) (.list ((exchS S0 st gl).bl.map nD)) := by
      refine .lst (.of (by rw [upd_ne hlf]; exact s5 _ _ hl5)) ?_
      exact hy4.same (sHf (Same.refl H5))
    refine wsf_ret (wef_tupZ (waf_cons ((WD.at (wd_of (ee_tuple (ee_var 6 rfl dl) (.inl rfl) V.tuple)) (Nat.le_refl _) (Same.refl _)).monoR fun v0 u0 M9 H9 r0 hM9 ⟨s9, n9, d9⟩ => ?_)))
    obtain ⟨b', ts, rfl, hq', hts⟩ := dp_tup d9
    refine waf_cons (wef_v 7 rfl fun u1 M10 r1 n1 => waf_cons (wef_v 5 rfl fun u2 M11 r2 n2 => waf_nil fun M12 n3 => ⟨by simp, fun q hq => ?_⟩))
    have sq := same_new (o := .frz { cls := .type "tuple", data := .seq [u0, u1, u2].toArray } (.tup [.ref b', .ref ff, .ref nd])) hq
    refine hk q M12 _ (by omega) ((sHf s14).trans (s9.trans sq)) ⟨b', ff, nd, of, ys', .inl (.inr ⟨_, upd_same⟩), d9.same sq, q3.same ((sHf s14).trans (s9.trans sq)), ?_, hfs, ?_⟩
    · exact sq _ _ (s9 _ _ (by rw [upd_same]))
    · refine (hx.mono (by omega)).same fun a' k' ky => ?_
      obtain ⟨o, m, t', t1, h1, h2⟩ := ky
      refine ⟨o, m, t', t1, sq _ _ (s9 _ _ ?_), h2⟩
      rw [upd_ne]
      · exact h1
      · intro e
        rw [e, hf] at h1
        cases h1
  · rintro i M' σ' H' hi ⟨hM', s5, ys', x8, x9, x10, rfl, hf, hx⟩
    have sH : Same H H' := s14.trans s5
    refine ⟨⟨sH _ _ q4, hi⟩, fun x u H'' M'' y ru hM'' => ?_⟩
    obtain ⟨rfl, en, hen, rfl⟩ := y
    obtain rfl : u = Value.ref en.2.1 := ru
    obtain ⟨⟨⟨pp, c⟩, vv⟩, hnx, r1, r2, r3⟩ := paired_get q6 hen
    have ky := (r3.mono (show N0 ≤ M'' by omega)).same sH
    obtain ⟨t, t1, kt, gt⟩ := ky.kt
    refine wtg_pair 8 9 hN kt (fun M7 hM7 => ⟨tkK c t, fun q hq => .inr (.inr (by rw [List.mem_singleton.mp hq])), ?_⟩) (by decide)
    -- to = place; if place == start: to = goal
    refine wsf_setZ 10 hN (wz_wi (wi_v 8 rfl)) (fun q hq => by rw [List.mem_singleton.mp hq]; show (PySem.Str.ofString "kind") ≠ PySem.Str.ofString "to"; decide) fun z M8 H8 ez s8 n8 => ?_
    subst ez
    refine wsf_ifJ (fun (T : TT2) M9 σ9 H9 => T = tkK c t ∧ M8 ≤ M9 ∧ Same H8 H9 ∧ σ9 = σx (some (.int (pp : Int))) (some (.str (S [c]))) (some (.int (((toX st gl (pp, c)).1 : Nat) : Int)))) (WB.run (wb_eqI (wi_v 8 rfl) (wi_v 1 rfl)) fun H9 s9 => ?_) ?_
    · by_cases hb : pp = st
      · rw [if_pos (by simp [hb])]
        refine wsf_setZ 10 hN (wz_wi (wi_v 2 rfl)) (fun q hq => by rw [List.mem_singleton.mp hq]; show (PySem.Str.ofString "kind") ≠ PySem.Str.ofString "to"; decide) fun z M10 H10 ez s10 n10 => wsf_nil fun M11 hM11 => ⟨rfl, by omega, s9.trans s10, ?_⟩
        subst ez
        have : toX st gl (pp, c) = (gl, c) := by unfold toX swp; simp [hb]
        rw [this]
        rfl
      · rw [if_neg (by simp; omega)]
        refine wsf_if (WB.run (wb_eqI (wi_v 8 rfl) (wi_v 2 rfl)) fun H10 s10 => ?_)
        by_cases hb2 : pp = gl
        · rw [if_pos (by simp [hb2])]
          refine wsf_setZ 10 hN (wz_wi (wi_v 1 rfl)) (fun q hq => by rw [List.mem_singleton.mp hq]; show (PySem.Str.ofString "kind") ≠ PySem.Str.ofString "to"; decide) fun z M10 H11 ez s11 n10 => wsf_nil fun M11 hM11 => wsf_nil fun M12 hM12 => ⟨rfl, by omega, s9.trans (s10.trans s11), ?_⟩
          subst ez
          have : toX st gl (pp, c) = (st, c) := by unfold toX swp; simp only [if_neg hb, if_pos hb2]
          rw [this]
          rfl
        · rw [if_neg (by simp; omega)]
          refine wsf_nil fun M11 hM11 => wsf_nil fun M12 hM12 => ⟨rfl, by omega, s9.trans s10, ?_⟩
          have : toX st gl (pp, c) = (pp, c) := by unfold toX swp; simp only [if_neg hb, if_neg hb2]
          rw [this]
          rfl
    rintro T M9 σ9 H9 hM9 ⟨rfl, hM9', s9, rfl⟩
    have s89 : Same H'' H9 := s8.trans s9
    have hnd1 : ((setNets (toX st gl) [] (S0.nt.take i)).map (·.1)).Nodup := setNets_nod _ _ _ (by simp)
    have hl1 : (setNets (toX st gl) [] (S0.nt.take i)).length ≤ 900 := by
      have := setNets_len (toX st gl) (S0.nt.take i) []
      have := hsm.nt
      rw [List.length_take] at *
      simp at *
      omega
    have hval : entAt xs (keyD (pp, c)) = some vv := by
      rw [netx_at q6]
      exact nAt_mem hsm.ok.nod (List.mem_of_getElem? hnx)
    have hxM : Netx g M9 H9 ys' (setNets (toX st gl) [] (S0.nt.take i)) := (hx.mono (by omega)).same fun a k h => h.same s89
    have hfM := s89 _ _ hf
    refine wsf_dput (g := g) (k := toX st gl (pp, c)) hu 7 rfl hfM hxM hnd1 hfs (by omega) (wi_dix (k := (pp, c)) hu 4 rfl (D0 (sH.trans s89)) (wd_tup (wds_cons (wd_v 8 rfl (.int _)) (wds_cons (wd_v 9 rfl (.str _)) wds_nil))) hval) (wkey_tup (k := toX st gl (pp, c)) (t := t) (wi_v 10 rfl) (List.mem_singleton.mpr rfl) fun e => (gt e).mono (by omega)) fun ys2 M10 H10 hM10 s10 hf10 hx10 => wsf_nil fun M11 hM11 => ⟨fun q hq => (by cases hq), by omega, s10 H5 (s5.trans s89) hf0, ys2, _, _, _, rfl, hf10, ?_⟩
    rw [take_snoc hnx, setNets_snoc]
    exact hx10.mono hM11
end
end K10
set_option maxHeartbeats 4000000
/-! state_behind. -/
namespace K10
open PySem PySem.Spec PyProof.Rows L2 SX
open C8 (Cal pe_c)
section
variable {X : Cx} {T T' : TT2} {N : Nat} {σ : L2.St} {H H' : Hp} {e e1 e2 f a b' c : Expr} {pos p p1 p2 p3 apos : Pos} {s : Shared} {rest body orelse : List Stmt} {D : EndF}
theorem wb_isN {x : Str} {v : V} {j : Nat} (i : Nat) (hσ : σ[i]? = some (some v)) (hN : X.N[i]? = some x := by rfl) (hk : X.env.scope.names.lookup x = some .local := by rfl) (hdb : (x == ("__debug__" : Str)) = false := by decide) : WB X T N (.Compare (.Name x p1) [.Is] [.Constant .none j p2] pos) σ H (decide (v = .non)) := fun N' H' hn hs =>
  wtf_cmp (wef_v i hσ (fun u M r hM => wef_non fun M2 hM2 => ⟨decide (v = .non), fun s Q E q => by
    refine is_none_gen ?_
    cases v <;> first
      | (cases r; exact q)
      | (obtain ⟨t, rfl⟩ := r; exact q), Same.refl _, rfl⟩) hN hk hdb) rfl
theorem wb_eqG {x y : Str} {z c : List Nat} {t : Tok} (ht : (x, .str (S c), .str (S c) t) ∈ T) (hm : ∃ t, X.mg y = some (.str (S z) t)) (hk : X.env.kindOf x = some .local := by rfl) (hg : Gl X y := by rfl) (hd : (x == ("__debug__" : Str)) = false := by decide) (hd2 : (y == ("__debug__" : Str)) = false := by decide) : WB X T N (.Compare (.Name x p1) [.Eq] [.Name y p2] pos) σ H (decide (c = z)) := fun N' H' hn hs =>
  wtf_cmp (wef_t ht (fun M hM => .mk fun pins s I t1 n1 => by
    obtain ⟨t', hm⟩ := hm
    exact ld_glob I hg hm ⟨.str (S z), H', I, ⟨t', rfl⟩, t1, n1, S c == S z, pb_eqS, Same.refl _, by
      rw [Bool.eq_iff_iff, beq_iff_eq, decide_eq_true_eq]
      exact ⟨fun e => by simpa [S_list] using congrArg (fun z : Str => z.cps.toList) e, fun e => by rw [e]⟩⟩ hd2) hk hd) (nomark _)
end
/-- the name what held -/
abbrev tkW (c : Nat) (t : Tok) : TT2 := [("what", .str (S [c]), .str (S [c]) t)]
/-- a state, or none -/
def OptSt (P : Program) (w : World) (K : PySem.W.Frag) (g : Bool) (M : Nat) (H : Hp) (o : Option SSt) (v : V) : Prop := match o with
  | none => v = .non
  | some st => ∃ a, v = .ref a ∧ StateAt P w K g M H a st
theorem OptSt.same {P : Program} {w : World} {K : PySem.W.Frag} {g : Bool} {M : Nat} {H H' : Hp} {o : Option SSt} {v : V} (h : OptSt P w K g M H o v) (s : Same H H') : OptSt P w K g M H' o v := by
  cases o with
  | none => exact h
  | some st =>
    obtain ⟨a, h1, h2⟩ := h
    exact ⟨a, h1, h2.same s⟩
theorem OptSt.mono {P : Program} {w : World} {K : PySem.W.Frag} {g : Bool} {M M' : Nat} {H : Hp} {o : Option SSt} {v : V} (h : OptSt P w K g M H o v) (n : M ≤ M') : OptSt P w K g M' H o v := by
  cases o with
  | none => exact h
  | some st =>
    obtain ⟨a, h1, h2⟩ := h
    exact ⟨a, h1, h2.mono n⟩
theorem stepS_42 (st : SSt) (s g : Nat) : stepS st (42, s, g) = some (gathS st s g) := by unfold stepS; rw [if_pos rfl]; rfl
theorem stepS_126 (st : SSt) (s g : Nat) : stepS st (126, s, g) = some (exchS st s g) := by unfold stepS; rw [if_neg (show ¬ (126 : Nat) = 42 by decide), if_pos rfl]; rfl
theorem stepS_let (st : SSt) (c s g : Nat) (h1 : c ≠ 42) (h2 : c ≠ 126) : stepS st (c, s, g) = handS st c s g := by unfold stepS; rw [if_neg h1, if_neg h2]; rfl
section
variable {P : Program} {w : World} {K : PySem.W.Frag} {mg : Str → Option Value} {base : Heap}
def spBehind (P : Program) (w : World) (K : PySem.W.Frag) (g : Bool) : SpT := fun vs us N H Q => ∃ (sv : V) (o : Option SSt) (q : Addr) (x : Nat × Nat × Nat) (n : Nat), vs = [sv, .ref q] ∧ OptSt P w K g N H o sv ∧ SqT K H q [.str (S [x.1]), .int (x.2.1 : Int), .int (x.2.2 : Int)] ∧ (g = true → StepAt K N H q x) ∧ (∀ S0, o = some S0 → SmS n S0) ∧ stepOk n x ∧
  ∀ v u M H', N ≤ M → Same H H' → RelV v u → OptSt P w K g M H' (o.bind fun st => stepS st x) v → Q v u M H'
theorem c_behind (V : Ev mg) (G : Gd K mg "state_behind" s_state_behind) (g : Bool) (Cg : CalT P w K mg base 1 "gathered" (spMoved P w K g gathS) []) (Cx : CalT P w K mg base 1 "exchanged" (spMoved P w K g exchS) []) (Ch : CalT P w K mg base 1 "handed" (spHanded P w K g) []) : CalT P w K mg base 2 "state_behind" (spBehind P w K g) [] := by
  obtain ⟨f, fd, F, gg⟩ := G.ex
  refine ⟨f, fd, p_state_behind, [], ?_, gg, F.kp, F.bindsN (fun _ _ _ _ _ _ us hl => match us, hl with | [_, _], _ => rfl), .nil⟩
  refine fnT_of F sc_state_behind (fun vs us M H Q ⟨_, _, _, _, _, h, _⟩ => by rw [h]; rfl) fun cdv A outer s H vs us Q hr hv h => ⟨[], (fun q hq => by cases hq), ?_⟩
  obtain ⟨sv, o, q, ⟨c, st, gl⟩, n, rfl, hsv, hq, hgq, hsm, ⟨hs6, hg6, hne⟩, hk⟩ := h
  have hN := sc_state_behind.nd
  generalize s.toks = N0 at hk hsv hgq
  dsimp only at hq hs6 hg6 hne
  refine wsf_unpack3 2 3 4 hN (wef_v 1 rfl fun u0 M0 r0 n0 => ⟨q, _, _, _, rfl, hq, fun u1 u2 u3 ru1 ru2 ru3 hkt M1 hM1 => ?_⟩) (by decide) (by decide) (by decide)
  obtain ⟨t, rfl⟩ := ru1
  have hgt : g = true → Gtok N0 t := fun e => by
    obtain ⟨o', m, t', t1, t2, h1, h2, h3, h4⟩ := hgq e
    have := hkt _ ⟨o', m, h1, h2, h3⟩
    injection this with e1 _
    injection e1 with _ e2
    rw [← e2]
    exact h4
  refine ⟨tkW c t, fun y hy => .inr (.inl (List.mem_singleton.mp hy)), ?_⟩
  have m01 : N0 ≤ M1 := by omega
  -- if state is None
  refine wsf_ifJ (fun (T : TT2) M' σ' H' => T = tkW c t ∧ M1 ≤ M' ∧ Same H H' ∧ σ' = [some sv, some (.ref q), some (.str (S [c])), some (.int (st : Int)), some (.int (gl : Int))] ∧ ¬ sv = .non) (WB.run (wb_isN 0 rfl) fun H3 s3 => ?_) ?_
  · by_cases hb : sv = .non
    · rw [if_pos (by simp [hb])]
      refine wsf_ret (wef_non fun M hM => hk _ _ M H3 (by omega) s3 rfl ?_)
      cases o with
      | none => rfl
      | some S0 =>
        obtain ⟨a, e, _⟩ := hsv
        rw [hb] at e
        cases e
    · rw [if_neg (by simpa using hb)]
      exact wsf_nil fun M hM => ⟨rfl, hM, s3, rfl, hb⟩
  rintro T M2 σ2 H2 hM2 ⟨rfl, hM2', s2, rfl, hnn⟩
  obtain ⟨S0, rfl⟩ : ∃ S0, o = some S0 := by
    cases o with
    | none => exact absurd hsv hnn
    | some S0 => exact ⟨S0, rfl⟩
  obtain ⟨a, rfl, hst⟩ := hsv
  have hsm0 := hsm S0 rfl
  dsimp only [Option.bind] at hk
  have e42 : ∀ x : Nat, decide ([c] = [x]) = decide (c = x) := fun x => by simp
  -- if what == ALL
  refine wsf_ifJ (fun (T : TT2) M' σ' H' => T = tkW c t ∧ M2 ≤ M' ∧ Same H H' ∧ σ' = [some (.ref a), some (.ref q), some (.str (S [c])), some (.int (st : Int)), some (.int (gl : Int))] ∧ c ≠ 42) (WB.run (wb_eqG (z := [42]) (List.mem_singleton.mpr rfl) V.all') fun H3 s3 => ?_) ?_
  · rw [e42]
    by_cases hb : c = 42
    · rw [if_pos (by simpa using hb)]
      subst hb
      exact wsf_ret (wef_call Cg hr (by decide) rfl (waf_cons (wef_v 0 rfl fun u0 M0 r0 n0 => waf_cons (wef_v 3 rfl fun u1 M1 r1 n1 => waf_cons (wef_v 4 rfl fun u2 M3 r2 n2 => waf_nil fun M4 n3 ds hds => by
        cases hds
        exact ⟨a, st, gl, n, S0, rfl, (hst.mono (by omega)).same (s2.trans s3), hsm0, hs6, hg6, hne, fun q' M' H' hM hs h' => hk _ _ M' H' (by omega) ((s2.trans s3).trans hs) rfl (by rw [stepS_42]; exact ⟨q', rfl, h'⟩)⟩)))))
    · rw [if_neg (by simpa using hb)]
      exact wsf_nil fun M hM => ⟨rfl, hM, s2.trans s3, rfl, hb⟩
  rintro T M3 σ3 H3 hM3 ⟨rfl, hM3', s3, rfl, h42⟩
  -- if what == EXCHANGE
  refine wsf_ifJ (fun (T : TT2) M' σ' H' => T = tkW c t ∧ M3 ≤ M' ∧ Same H H' ∧ σ' = [some (.ref a), some (.ref q), some (.str (S [c])), some (.int (st : Int)), some (.int (gl : Int))] ∧ c ≠ 126) (WB.run (wb_eqG (z := [126]) (List.mem_singleton.mpr rfl) V.exch) fun H4 s4 => ?_) ?_
  · rw [e42]
    by_cases hb : c = 126
    · rw [if_pos (by simpa using hb)]
      subst hb
      exact wsf_ret (wef_call Cx hr (by decide) rfl (waf_cons (wef_v 0 rfl fun u0 M0 r0 n0 => waf_cons (wef_v 3 rfl fun u1 M1 r1 n1 => waf_cons (wef_v 4 rfl fun u2 M3 r2 n2 => waf_nil fun M4 n3 ds hds => by
        cases hds
        exact ⟨a, st, gl, n, S0, rfl, (hst.mono (by omega)).same (s3.trans s4), hsm0, hs6, hg6, hne, fun q' M' H' hM hs h' => hk _ _ M' H' (by omega) ((s3.trans s4).trans hs) rfl (by rw [stepS_126]; exact ⟨q', rfl, h'⟩)⟩)))))
    · rw [if_neg (by simpa using hb)]
      exact wsf_nil fun M hM => ⟨rfl, hM, s3.trans s4, rfl, hb⟩
  rintro T M4 σ4 H4 hM4 ⟨rfl, hM4', s4, rfl, h126⟩
  rw [stepS_let S0 c st gl h42 h126] at hk
  refine wsf_ret (wef_call Ch hr (by decide) rfl (waf_cons (wef_v 0 rfl fun u0 M0 r0 n0 => waf_cons (wef_t (v := .str (S [c])) (u := .str (S [c]) t) (List.mem_singleton.mpr rfl) fun M5 n1 => waf_cons (wef_v 3 rfl fun u1 M1 r1 n1 => waf_cons (wef_v 4 rfl fun u2 M3 r2 n2 => waf_nil fun M4 n3 ds hds => by
        cases hds
        refine ⟨a, c, st, gl, n, S0, t, rfl, rfl, fun e => (hgt e).mono (by omega), (hst.mono (by omega)).same s4, hsm0, hs6, hg6, ?_⟩
        cases hh : handS S0 c st gl with
        | none => exact fun M' H' hM hs => hk _ _ M' H' (by omega) (s4.trans hs) rfl (by rw [hh]; rfl)
        | some S1 => exact fun q' M' H' hM hs h' => hk _ _ M' H' (by omega) (s4.trans hs) rfl (by rw [hh]; exact ⟨q', rfl, h'⟩)))))))
end
end K10
set_option maxHeartbeats 4000000
/-! enumerate over a tuple. -/
namespace K10
open PySem PySem.Spec PyProof.Rows L2 SX
open C8 (Cal pe_c)
theorem enum_one {v : Value} {o : Obj} {Hh : Heap → Prop} (B : Begins v o Hh) : Meets (Builtin.«enumerate.__new__» ⟨[.type "enumerate", v], []⟩) (fun _ R s => Hh s.heap ∧ R (.ok (.ret (.ref (s.heap.push o).objs.size))) { s with heap := (s.heap.push o).push { cls := .type "enumerate", data := .fields #[.none, .bool false, .ref s.heap.objs.size, rawInt 0, .none, .none] } }) := .of_wp fun prog w A R s h => by
  obtain ⟨hp, g, d, tk, os⟩ := s
  obtain ⟨hH, hR⟩ := h
  have ty := PySem.sub_enumerate
  have go : ∀ {A' : Around} {E' : Value → Shared → Prop} {Q' : Value → Shared → Prop}, Q' (.ref hp.objs.size) ⟨hp.push o, g, d, tk, os⟩ → wpAny (model prog w) A' (pyIter v) Q' E' ⟨hp, g, d, tk, os⟩ := fun z => B.iter prog w _ _ ⟨hp, g, d, tk, os⟩ _ hH z
  wp_walk using go
  refine wpAny_stack_any fun sk => wpAny_pure ?_
  split
  · rename_i c1 _ _ _ _ _
    cases (c1 == Value.type "enumerate") <;> (wp_walk using go; exact ⟨_, rfl, hR⟩)
  · (wp_walk using go; exact ⟨_, rfl, hR⟩)
theorem enum_call {prog : Program} {w : World} {A : Around} {E : Value → Shared → Prop} {s : Shared} {v : Value} {o : Obj} {Hh : Heap → Prop} {Q : Value → Shared → Prop} (B : Begins v o Hh) (hH : Hh s.heap)
    (k : ∀ h', IsEnum h' (s.heap.objs.size + 1) s.heap.objs.size 0 .none → h'.get? s.heap.objs.size = some o → (∀ b u, s.heap.get? b = some u → h'.get? b = some u) → Q (.ref (s.heap.objs.size + 1)) { s with heap := h' }) :
    wpAny (model prog w) A (call (.type "enumerate") [v]) Q E s := by
  refine callType_new PySem.F.called_enumerate (by decide) (PySem.F.typeCall_enumerate_1 _) (PySem.F.newCall_enumerate_1 _) (fun x => PySem.F.args_object_init_2 x _) PySem.F.entry_enumerate_new (enum_one B) ⟨hH, ?_⟩
  have sz : (s.heap.push o).objs.size = s.heap.objs.size + 1 := Heap.size_push ..
  have e1 : IsEnum ((s.heap.push o).push { cls := .type "enumerate", data := .fields #[.none, .bool false, .ref s.heap.objs.size, rawInt 0, .none, .none] }) (s.heap.objs.size + 1) s.heap.objs.size 0 .none := by
    rw [← sz]
    exact Heap.get?_push_size (s.heap.push o) rfl
  rw [sz]
  exact ⟨⟨_, e1, rfl⟩, k _ e1 (Heap.get?_push_of_some _ (Heap.get?_push_size _ B.free)) fun b u x => Heap.get?_push_of_some _ (Heap.get?_push_of_some _ x)⟩
section
variable {P : Program} {w : World} {K : PySem.W.Frag}
def IteT (K : PySem.W.Frag) (a : Addr) : It :=
  ⟨fun i H => ∃ xs x, SqT K H a xs ∧ xs[i]? = some x, fun i H x H' => ∃ T y, x = .ref T ∧ H T = none ∧ H' = upd H T (.tup [.int (i : Nat), y]) ∧ ∀ xs, SqT K H a xs → xs[i]? = some y, fun i H => ∃ xs, SqT K H a xs ∧ xs.length = i⟩
theorem turn_enumT {elts : List Expr} {kk : Nat} {tpos : Pos} (a e it : Addr) :
    Turn P w K (.Tuple elts kk tpos) (IteT K a) [e, it] e (fun i h => (∃ old, IsEnum h e it ((i : Nat) : Int) old) ∧ h.IsTupleIter it a i ∧ e ≠ it ∧ e ≠ a ∧ a ≠ it) where
  mem := by simp
  obj := fun i h st b hb => by
    obtain ⟨⟨old, he⟩, ⟨o, ho, hc, hd⟩, _⟩ := st
    rcases (show b = e ∨ b = it by simpa using hb) with rfl | rfl
    · exact ⟨_, he, fun v q => nomatch q⟩
    · exact ⟨o, ho, fun v q => by rw [hd] at q; cases q⟩
  keep := fun i h h' st k => let ⟨⟨old, he⟩, hi, hne⟩ := st; ⟨⟨old, k e (by simp) _ he⟩, hi.at fun o q => k it (by simp) o q, hne⟩
  item := by
    intro X hP hw hK hc i pins s σ H E I hf st hg
    subst hP hw hK
    obtain ⟨⟨old, he⟩, hit, hne, hea, hai⟩ := st
    obtain ⟨xs, x, hq, hx⟩ := hg
    obtain ⟨its, rv, p, hz⟩ := I.tuple hq
    obtain ⟨u, hu, ru⟩ := rv.get hx
    have hu' : its.toArray[i]? = some u := by simpa using hu
    have hel : e < s.heap.objs.size := Heap.lt_size he
    have hil : it < s.heap.objs.size := by obtain ⟨_, q, _⟩ := hit; exact Heap.lt_size q
    have hlt : i < its.toArray.size := by rw [List.size_toArray]; exact (List.getElem?_eq_some_iff.mp hu).1
    refine wpAny_pyNext_enum_itemD (Draws.tuple (A := X.A.in1) (I.ok.hd hc) it a hai its.toArray) he ⟨hit, p⟩ hlt hne (by simp [hne, hea]) fun y h' tk hy ho st' hT hsz hk => ?_
    obtain rfl : u = y := by rw [hu'] at hy; exact Option.some.inj hy
    obtain ⟨hit', p'⟩ := st'
    refine ⟨_, rfl, wpAny_letOwnedTupleGo_enum (s := { s with heap := h', toks := tk + 1 }) ho fun h'' he' sb => ?_⟩
    have hT2 : h''.get? s.heap.objs.size = some { cls := .type "tuple", data := .seq #[.int i tk, u] } := (sb.2 _ (Nat.ne_of_gt hel)).trans hT
    have new : ObjOk X.prog X.w (upd H s.heap.objs.size (.tup [.int (i : Nat), x])) h'' s.heap.objs.size (.tup [.int (i : Nat), x]) := ⟨show 2 ≤ sizeLine by decide, [.int i tk, u], .cons ⟨_, rfl⟩ (.cons ru .nil), ⟨_, hT2, rfl, _, rfl⟩⟩
    have I1 : Inv X pins σ (upd H s.heap.objs.size (.tup [.int (i : Nat), x])) { s with heap := h'', toks := tk + 1 } := I.turnedNew (ch := [e, it]) (fun b ob hb q => (sb.2 b (fun z => hb (by simp [z]))).trans (hk b ob (fun z => hb (by simp [z])) (fun z => hb (by simp [z])) q)) hf (Nat.le_refl _) new
    refine ⟨.ref s.heap.objs.size, _, I1, rfl, ⟨_, x, rfl, I.hok.fresh (Nat.le_refl _), rfl, fun ys hy => by rw [I.tuple_inj hy hq]; exact hx⟩, ⟨⟨u, ?_⟩, hit'.at fun o q => (sb.2 it (Ne.symm hne)).trans q, hne, hea, hai⟩, fun b hb => ?_⟩
    · have e1 : ((i + 1 : Nat) : Int) = (i : Int) + 1 := by omega
      rw [e1]; exact he'
    · have hb' : b < s.heap.objs.size := by
        rcases (show b = e ∨ b = it by simpa using hb) with rfl | rfl <;> assumption
      rw [upd_ne (Nat.ne_of_lt hb')]
      exact (hf b hb).1
  done := by
    intro X hP hw hK hc i pins s σ H E I hf st hg
    subst hP hw hK
    obtain ⟨⟨old, he⟩, hit, hne, hea, hai⟩ := st
    obtain ⟨xs, hq, hx⟩ := hg
    obtain ⟨its, rv, p, hz⟩ := I.tuple hq
    obtain ⟨f0, f1, f2, f3, f4, f5⟩ := hf it (by simp)
    have hl := rv.length
    have ei : i = its.toArray.size := by rw [List.size_toArray]; omega
    rw [ei] at hit
    exact wpAny_pyNext_enum_endD (Draws.tuple (prog := X.prog) (w := X.w) (A := X.A.in1) (I.ok.hd hc) it a hai its.toArray) he ⟨hit, p⟩ fun h' eb => ⟨rfl, I.turned (t' := s.toks) (fun b o hb q => eb b o hb q) f0 f1 f3 f4 f5⟩
  self := fun A i s Q E st h => let ⟨⟨_, he⟩, _⟩ := st; wpAny_pyIter_enum he h
end
section
variable {X : Cx} {σ : L2.St} {H : Hp} {e : Expr} {ds : List PyData}
theorem src_enumT {elts : List Expr} {kk : Nat} {tpos p pos : Pos} (h : EE X σ H e (.tuple ds)) (hm : X.mg "enumerate" = none) (hg : Gl X "enumerate" := by rfl) (hs : starEach [e] X.env = [(false, eval e X.env)] := by exact star_one (by rfl)) :
    SRC X σ H (.Tuple elts kk tpos) (.Call (.Name "enumerate" p) [e] [] pos) (enumD ds) := by
  refine ⟨fun σ' H1 R => WE X e σ' H1 fun v H2 => ∃ a xs, v = .ref a ∧ SqT X.K H2 a xs ∧ R (IteT X.K a) H2, ⟨fun pins s σ' H1 R I hw => ?_⟩, fun H1 s1 R k => (h H1 s1).mono fun v H2 ⟨s2, dv⟩ => ?_⟩
  · refine Call_ (ld_blt I hg hm boot_enumerate (PyProof.Rows.callWith_type1 (thn ((wa_of (pa_cons (pw e) pa_nil hs) (Q := fun vs H2 => ∃ a xs, vs = [.ref a] ∧ SqT X.K H2 a xs ∧ R (IteT X.K a) H2) (hw.mono fun v H2 ⟨a, xs, e1, e2, e3⟩ => ⟨a, xs, by rw [e1], e2, e3⟩)) pos pins s I) fun us s1 ⟨vs, H1, I1, r1, a, xs, ex, hq, q⟩ => ?_) hs rfl))
    subst ex
    cases r1 with
    | cons r rr =>
      cases rr
      cases r
      obtain ⟨its, rv, p', hz⟩ := I1.tuple hq
      refine enum_call (begins_tuple a its.toArray) p' fun h' he hit hk => wpAny_pyIter_enum he ?_
      have I2 : Inv X pins σ' H1 { s1 with heap := h' } := I1.kept (t' := s1.toks) hk
      have hal : a < s1.heap.objs.size := by obtain ⟨o, ho, _⟩ := p'; exact Heap.lt_size ho
      refine ⟨s1.heap.objs.size + 1, [s1.heap.objs.size + 1, s1.heap.objs.size], _, _, H1, rfl, I2, turn_enumT a (s1.heap.objs.size + 1) s1.heap.objs.size, ⟨⟨.none, he⟩, ⟨_, hit, rfl, rfl⟩, Nat.succ_ne_self _, Nat.ne_of_gt (Nat.lt_succ_of_lt hal), Nat.ne_of_lt hal⟩, fun b hb => ?_, q⟩
      have hle : s1.heap.objs.size ≤ b := by
        rcases (show b = s1.heap.objs.size + 1 ∨ b = s1.heap.objs.size by simpa using hb) with rfl | rfl
        · exact Nat.le_add_right _ _
        · exact Nat.le_refl _
      exact I1.fpOk hle (I1.hok.fresh hle)
  · obtain ⟨a, xs, rfl, hq, ha⟩ := dp_tup dv
    have hl := dpAll_len ha
    refine ⟨a, xs, rfl, hq, k _ H2 (fun H => SqT X.K H a xs) (fun i H x H' => ∃ T y, x = .ref T ∧ H T = none ∧ H' = upd H T (.tup [.int (i : Nat), y]) ∧ xs[i]? = some y) s2 ?_ (fun H3 s3 => same_seqT (same_tx s3) hq) fun i H3 x H4 hi s3 y => ?_⟩
    · rw [enumD_len, ← hl]
      exact ⟨fun i H hi hg => ⟨xs, xs[i], hg, List.getElem?_eq_getElem hi⟩, fun H hg => ⟨xs, hg, rfl⟩, fun i H x H' hi hg ⟨T, y, e1, e2, e3, e4⟩ => ⟨T, y, e1, e2, e3, e4 xs hg⟩⟩
    · obtain ⟨T, y, rfl, hT, rfl, e2⟩ := y
      obtain ⟨d, e3, e4⟩ := dpAll_get ha e2
      exact ⟨same_new hT, _, enumD_get e3, .tup (.of upd_same) (.cons (.int _) (.cons (e4.same (s3.trans (same_new hT))) .nil))⟩
end
end K10
set_option maxHeartbeats 4000000
/-! sorted(a list), the very items told. -/
namespace K10
open PySem PySem.Spec PyProof.Rows L2 SX
open PySem.W (AllAlike Sortable dataLe Frag sort_maps)
open C8 (Cal pe_c)
/-- the values in the order of their data -/
def sortV (xs : List V) (ds : List PyData) : List V := ((xs.zip ds).mergeSort (dataLe false Prod.snd)).map Prod.fst
section
variable {X : Cx}
theorem cr_sortX_core {pins : List (Addr × Obj)} {s : Shared} {σ : L2.St} {H : Hp} {v : Value} {xs : List V} {ds : List PyData} {Q : VK} (hu : X.A.units + 200 < cLine) (I : Inv X pins σ H s) (ha : DpAll X.K H xs ds)
    (hcol : ∀ (Q' : List Value → Shared → Prop) (E' : Value → Shared → Prop), (∀ (s1 : Shared) (us : List Value), (∀ b o, s.heap.get? b = some o → s1.heap.get? b = some o) → s1.gens = s.gens → s1.drawn = s.drawn → s1.os = s.os → Vals xs us → Q' us s1) → wpAny (model X.prog X.w) X.A.in1 (collect v) Q' E' s)
    (hal : AllAlike ds) (hk : Sortable ds) (hl : ds.length ≤ 100000) (hd : ∀ d ∈ ds, d.depth ≤ 100) (q : ∀ p H', Same H H' → H p = none → H' p = some (.lst (sortV xs ds)) → DpAll X.K H' (sortV xs ds) (sortD ds) → Q (.ref p) H') :
    wpAny (model X.prog X.w) X.A (call (.builtin "sorted") [v]) (L2.EP X pins σ Q) X.xe s := by
  have hz := zip_snd (dpAll_len ha)
  have hzl : (xs.zip ds).length = ds.length := by rw [← List.length_map (f := Prod.snd), hz]
  refine sorted_gen (bs := xs.zip ds) (enc := Prod.snd) (R := fun v (b : V × PyData) => RelV b.1 v ∧ Dp X.K H b.1 b.2) (fun Q' E' k => hcol Q' E' fun s1 us k1 g1 d1 o1 rv => k s1 us k1 g1 d1 o1 (each_of_vals rv ha)) (fun h' vs k e => ?_) (by rw [hz]; exact hal) (by rw [hz]; exact hk)
    (by rw [hzl, sizeLine_eq]; omega) (fun b hb => ?_) fun h1 s2 L out c k1 k2 g2 d2 o2 hL hg he => ?_
  · exact e.mono fun v b ⟨r, dd⟩ => Dp.reads (I.kept (h' := h') (t' := s.toks) k) b.2 b.1 v dd r
  · have hm : b.2 ∈ ds := by rw [← hz]; exact List.mem_map.mpr ⟨b, hb, rfl⟩
    have := hd _ hm
    omega
  · obtain ⟨hp2, gs, dr, tk, os⟩ := s2
    obtain ⟨hp, gs0, dr0, tk0, os0⟩ := s
    cases g2
    cases d2
    cases o2
    have I1 := I.kept (h' := h1) (t' := tk) k1
    obtain ⟨e1, e2⟩ := vals_of_each he
    have e3 : ((xs.zip ds).mergeSort (dataLe false Prod.snd)).map Prod.snd = sortD ds := by
      unfold sortD
      have e4 : ((xs.zip ds).mergeSort (dataLe false Prod.snd)).map Prod.snd = ((xs.zip ds).map Prod.snd).mergeSort (dataLe false id) := sort_maps (s := dataLe false id) Prod.snd (fun a _ b _ => rfl)
      rw [e4, hz]
    rw [e3] at e2
    have hn : H L = none := I1.hok.fresh hL
    have hlen : (((xs.zip ds).mergeSort (dataLe false Prod.snd)).map Prod.fst).length ≤ sizeLine := by
      rw [List.length_map, List.length_mergeSort, hzl, sizeLine_eq]
      omega
    have I2 := I1.laid (t' := tk) (a := L) (o := .lst (((xs.zip ds).mergeSort (dataLe false Prod.snd)).map Prod.fst)) k2 hL ⟨hlen, out, c, e1, hg⟩
    exact ⟨.ref L, _, I2, rfl, q L _ (same_new hn) hn upd_same (e2.same (same_new hn))⟩
theorem we_sortX {σ : L2.St} {H : Hp} {e : Expr} {p pos : Pos} {ds : List PyData} {Q : VK} (hu : X.A.units + 200 < cLine) (h : WE X e σ H fun v H1 => ∃ a xs, v = .ref a ∧ H1 a = some (.lst xs) ∧ DpAll X.K H1 xs ds ∧ ∀ q H2, Same H1 H2 → H1 q = none → H2 q = some (.lst (sortV xs ds)) → DpAll X.K H2 (sortV xs ds) (sortD ds) → Q (.ref q) H2)
    (hal : AllAlike ds) (hk : Sortable ds) (hl : ds.length ≤ 100000) (hd : ∀ d ∈ ds, d.depth ≤ 100) (hm : X.mg "sorted" = none) (hg : Gl X "sorted" := by rfl) (he : starEach [e] X.env = (false, eval e X.env) :: starEach [] X.env := by exact star_cons (by rfl)) (hpl : (backTo pos (starEach [] X.env)).any (·.1) = false := by exact star_any (by rfl)) : WE X (.Call (.Name "sorted" p) [e] [] pos) σ H Q := by
  refine we_of (pe_callB (id := "sorted") (r := fun vs H1 Q => ∃ a xs, vs = [.ref a] ∧ H1 a = some (.lst xs) ∧ DpAll X.K H1 xs ds ∧ ∀ q H2, Same H1 H2 → H1 q = none → H2 q = some (.lst (sortV xs ds)) → DpAll X.K H2 (sortV xs ds) (sortD ds) → Q (.ref q) H2) (fun pins s σ H vs us Q I r ⟨a, xs, e1, hs, ha, q⟩ => ?_) hg hm (by decide +kernel) (pa_cons (pw e) pa_nil he) (by decide) (by decide) he hpl) (h.mono fun v H1 ⟨a, xs, e1, e2, e3, e4⟩ => ⟨a, xs, by rw [e1], e2, e3, e4⟩)
  subst e1
  cases r with
  | cons r1 r2 =>
    cases r2
    obtain rfl := (show _ = Value.ref a from r1)
    obtain ⟨its, rv, ⟨o, n, g1, g2, g3, g4⟩, hz⟩ := I.list (.of hs)
    refine cr_sortX_core hu I ha (fun Q' E' k => ?_) hal hk hl hd q
    have hit : its.toArray.size ≤ sizeLine := by rw [List.size_toArray, ← rv.length]; exact hz
    exact wpAny_collect_seq (hsz := hit) a (.inl rfl) g1 g2 g4 fun h' kk => k ⟨h', s.gens, s.drawn, s.toks, s.os⟩ _ kk rfl rfl rfl (by simpa using rv)
end
end K10
/-! A world of just the things that a deed names, in which it can be done; how great needs and nets are. -/
namespace K10
theorem rowAt_put {w : List (List Nat)} {i p : Nat} {l : List Nat} (hi : i < w.length) : rowAt (putW w i l) p = if p = i then srt (rowAt w i ++ l) else rowAt w p := by
  unfold rowAt putW
  by_cases h : p = i
  · subst h
    rw [if_pos rfl, List.getElem?_append_right (by simp; omega)]
    have : p - (w.take p).length = 0 := by simp; omega
    rw [this]
    rfl
  · rw [if_neg h]
    by_cases hp : p < i
    · rw [List.getElem?_append_left (by simp; omega), List.getElem?_take_of_lt hp]
    · rw [List.getElem?_append_right (by simp; omega), List.getElem?_append_right (by simp; omega)]
      simp only [List.length_take, List.length_cons, List.length_nil, List.getElem?_drop]
      congr 2
      omega
theorem putW_length {w : List (List Nat)} {i : Nat} {l : List Nat} (hi : i < w.length) : (putW w i l).length = w.length := by
  unfold putW
  simp
  omega
theorem cn_put {w : List (List Nat)} {i p c : Nat} {l : List Nat} (hi : i < w.length) : cn (putW w i l) p c = cn w p c + if p = i then l.count c else 0 := by
  unfold cn
  rw [rowAt_put hi]
  by_cases h : p = i
  · subst h
    rw [if_pos rfl, if_pos rfl, srt_count, List.count_append]
  · rw [if_neg h, if_neg h]
    rfl
theorem sumAt_put {w : List (List Nat)} {i c : Nat} {l : List Nat} (hi : i < w.length) : ∀ {lot : List Nat}, lot.Nodup → sumAt (putW w i l) c lot = sumAt w c lot + if i ∈ lot then l.count c else 0
  | [], _ => by simp [sumAt_nil]
  | p :: lot, hn => by
    rw [List.nodup_cons] at hn
    rw [sumAt_cons, sumAt_cons, sumAt_put hi hn.2, cn_put hi]
    by_cases h : p = i
    · subst h
      simp [hn.1]
      omega
    · have : (i ∈ p :: lot) ↔ i ∈ lot := by
        rw [List.mem_cons]
        exact ⟨fun q => q.resolve_left fun e => h e.symm, .inr⟩
      simp only [this, if_neg h]
      omega
/-- how many steps name this kind -/
def nK (deed : List (Nat × Nat × Nat)) (c : Nat) : Nat := deed.countP fun x => decide (x.1 = c)
theorem deedS_snoc (n : Nat) (deed : List (Nat × Nat × Nat)) (x : Nat × Nat × Nat) : deedS n (deed ++ [x]) = (deedS n deed).bind fun st => stepS st x := by
  unfold deedS
  rw [List.foldl_append]
  rfl
theorem deedS_ok {n : Nat} {deed : List (Nat × Nat × Nat)} {st : SSt} (hd : ∀ x ∈ deed, whatOk x.1 ∧ stepOk n x) (e : deedS n deed = some st) : SOk n st := deedF_ok deed (first_ok n) hd (deedS_eq n deed ▸ e)
theorem stepS_nd {st st' : SSt} {x : Nat × Nat × Nat} (e : stepS st x = some st') : (st'.nd = st.nd) ∨ (x.1 ≠ 42 ∧ x.1 ≠ 126 ∧ 0 < due st x.1 x.2.1 ∧ rowAt st.bl x.2.1 ≠ [] ∧ st'.nd = st.nd ++ [(rowAt st.bl x.2.1, x.1, (due st x.1 x.2.1).toNat)]) := by
  unfold stepS at e
  by_cases c1 : x.1 = 42
  · rw [if_pos c1] at e; cases e; exact .inl rfl
  · rw [if_neg c1] at e
    by_cases c2 : x.1 = 126
    · rw [if_pos c2] at e; cases e; exact .inl rfl
    · rw [if_neg c2] at e
      by_cases c3 : 0 < due st x.1 x.2.1 ∧ rowAt st.bl x.2.1 = []
      · rw [if_pos c3] at e; cases e
      · rw [if_neg c3] at e
        cases e
        dsimp only
        by_cases c4 : 0 < due st x.1 x.2.1
        · rw [if_pos c4]
          exact .inr ⟨c1, c2, c4, fun q => c3 ⟨c4, q⟩, rfl⟩
        · rw [if_neg c4]; exact .inl rfl
theorem let_ne {c : Nat} (h : c ∈ LET) : c ≠ 42 ∧ c ≠ 126 := by
  have := mem_LET.mp h
  omega
/-- a world of just the things named, in which all needs are met -/
theorem can_world {n : Nat} (hn : 0 < n) : ∀ (r : List (Nat × Nat × Nat)) {st : SSt}, (∀ x ∈ r.reverse, whatOk x.1 ∧ stepOk n x) → deedS n r.reverse = some st →
    ∃ w ∈ canWs n r.reverse, w.length = n ∧ (∀ y ∈ st.nd, metW w y = true) ∧ ∀ c ∈ LET, sumAt w c (List.range n) = nK r.reverse c
  | [], st, _, e => by
    cases e
    refine ⟨_, List.mem_singleton.mpr rfl, by simp, (fun y hy => by cases hy), fun c _ => ?_⟩
    show sumAt (List.replicate n []) c (List.range n) = 0
    have : ∀ l : List Nat, sumAt (List.replicate n []) c l = 0 := by
      intro l
      induction l with
      | nil => rfl
      | cons p l ih =>
        rw [sumAt_cons, ih]
        unfold cn rowAt
        rw [List.getElem?_replicate]
        split <;> rfl
    exact this _
  | x :: r, st, hd, e => by
    rw [List.reverse_cons] at hd e ⊢
    have hd1 : ∀ y ∈ r.reverse, whatOk y.1 ∧ stepOk n y := fun y hy => hd y (List.mem_append_left _ hy)
    obtain ⟨hx1, hx2⟩ := hd x (by simp)
    rw [deedS_snoc] at e
    cases q : deedS n r.reverse with
    | none => rw [q] at e; cases e
    | some st0 =>
      rw [q] at e
      have e : stepS st0 x = some st := e
      obtain ⟨w, hw, hl, hm, ht⟩ := can_world hn r hd1 q
      have ok := deedS_ok hd1 q
      have hcan : canWs n (r.reverse ++ [x]) = canStep n (canWs n r.reverse) x := by
        unfold canWs
        rw [List.foldl_append]
        rfl
      have hk : ∀ c, nK (r.reverse ++ [x]) c = nK r.reverse c + if x.1 = c then 1 else 0 := fun c => by
        unfold nK
        rw [List.countP_append]
        by_cases h : x.1 = c <;> simp [h]
      by_cases hs : x.1 = 42 ∨ x.1 = 126
      · refine ⟨w, by rw [hcan]; unfold canStep; rw [if_pos hs]; exact hw, hl, ?_, fun c hc => ?_⟩
        · rcases stepS_nd e with h | h
          · rw [h]; exact hm
          · rcases hs with hs | hs
            · exact absurd hs h.1
            · exact absurd hs h.2.1
        · rw [ht c hc, hk, if_neg]
          · rfl
          · rintro rfl
            rcases hs with hs | hs
            · exact (let_ne hc).1 hs
            · exact (let_ne hc).2 hs
      · have put : ∀ s, s < n → putW w s [x.1] ∈ canWs n (r.reverse ++ [x]) := fun s h => by
          rw [hcan]
          unfold canStep
          rw [if_neg hs]
          exact List.mem_flatMap.mpr ⟨w, hw, List.mem_map.mpr ⟨s, List.mem_range.mpr h, rfl⟩⟩
        have tot : ∀ s, s < n → ∀ c ∈ LET, sumAt (putW w s [x.1]) c (List.range n) = nK (r.reverse ++ [x]) c := fun s h c hc => by
          rw [sumAt_put (by omega) List.nodup_range, ht c hc, hk, if_pos (List.mem_range.mpr h), List.count_singleton]
          by_cases q : x.1 = c <;> simp [q]
        have old : ∀ s, s < n → ∀ y ∈ st0.nd, metW (putW w s [x.1]) y = true := fun s h y hy => by
          have := of_decide_eq_true (hm y hy)
          refine decide_eq_true (Nat.le_trans this ?_)
          have mono : ∀ l : List Nat, sumAt w y.2.1 l ≤ sumAt (putW w s [x.1]) y.2.1 l := by
            intro l
            induction l with
            | nil => exact Nat.le_refl _
            | cons p l ih =>
              rw [sumAt_cons, sumAt_cons, cn_put (by omega)]
              omega
          exact mono _
        rcases stepS_nd e with h | ⟨_, _, h3, h4, h5⟩
        · exact ⟨_, put 0 hn, (putW_length (by omega)).trans hl, by rw [h]; exact old 0 hn, tot 0 hn⟩
        · obtain ⟨s, hs0⟩ := List.exists_mem_of_ne_nil _ h4
          have hsn := ok.lt _ _ hs0
          refine ⟨_, put s hsn, (putW_length (by omega)).trans hl, fun y hy => ?_, tot s hsn⟩
          rw [h5] at hy
          rcases List.mem_append.mp hy with hy | hy
          · exact old s hsn y hy
          · rw [List.mem_singleton.mp hy]
            refine decide_eq_true ?_
            dsimp only
            rw [sumAt_put (by omega) (asc_nodup (ok.asc _)), if_pos hs0, List.count_singleton]
            rcases deedS_done hd1 hl q with ⟨_, w', _, v⟩ | ⟨⟨y, hy, hf⟩, _⟩
            · have k := v.val x.2.1 x.1
              unfold valS at k
              have hd : due st0 x.1 x.2.1 = 1 - netV st0.nt (x.2.1, x.1) := rfl
              simp
              omega
            · rw [hm y hy] at hf
              cases hf
/-- a deed with a sense can be done -/
theorem can_true {n : Nat} (hn : 0 < n) {deed : List (Nat × Nat × Nat)} {st : SSt} (hd : ∀ x ∈ deed, whatOk x.1 ∧ stepOk n x) (e : deedS n deed = some st) : canB n deed = true := by
  obtain ⟨w, h1, h2, h3, _⟩ := can_world hn deed.reverse (st := st) (by simpa using hd) (by simpa using e)
  rw [List.reverse_reverse] at h1
  unfold canB
  refine decide_eq_true (List.length_pos_of_mem (List.mem_filter.mpr ⟨h1, ?_⟩))
  rcases deedS_done hd h2 e with ⟨_, w', q, _⟩ | ⟨⟨y, hy, hf⟩, _⟩
  · rw [q]; rfl
  · rw [h3 y hy] at hf; cases hf
/-- and one without a sense can't -/
theorem can_false {n : Nat} {deed : List (Nat × Nat × Nat)} (hg : ∀ w ∈ canWs n deed, w.length = n) (hd : ∀ x ∈ deed, whatOk x.1 ∧ stepOk n x) (e : deedS n deed = none) : canB n deed = false := by
  unfold canB
  refine decide_eq_false fun h => ?_
  obtain ⟨w, hw⟩ := List.exists_mem_of_length_pos h
  obtain ⟨h1, h2⟩ := List.mem_filter.mp hw
  rw [deedS_none_done hd (hg w h1) e] at h2
  cases h2
/-- a need's number, by the steps ahead of it -/
theorem due_le {n : Nat} (hn : 0 < n) {deed : List (Nat × Nat × Nat)} {st : SSt} (hd : ∀ x ∈ deed, whatOk x.1 ∧ stepOk n x) (e : deedS n deed = some st) {c p : Nat} (hc : c ∈ LET) : due st c p ≤ 1 + (nK deed c : Nat) := by
  obtain ⟨w, h1, h2, h3, h4⟩ := can_world hn deed.reverse (st := st) (by simpa using hd) (by simpa using e)
  have ok := deedS_ok hd e
  rcases deedS_done hd h2 e with ⟨_, w', q, v⟩ | ⟨⟨y, hy, hf⟩, _⟩
  · have k := v.val p c
    unfold valS at k
    have hd : due st c p = 1 - netV st.nt (p, c) := rfl
    have := sumAt_mono w c (asc_nodup (ok.asc p)) (b := List.range n) fun x hx => List.mem_range.mpr (ok.lt p x hx)
    have h5 := h4 c hc
    rw [List.reverse_reverse] at h5
    omega
  · rw [h3 y hy] at hf; cases hf
end K10
/-! How great the needs are, and worlds that part them. -/
namespace K10
def isL (c : Nat) : Bool := !decide (c = 42) && !decide (c = 126)
def nL (deed : List (Nat × Nat × Nat)) : Nat := deed.countP fun x => isL x.1
theorem nK_le {c : Nat} (hc : c ∈ LET) (deed : List (Nat × Nat × Nat)) : nK deed c ≤ nL deed := by
  unfold nK nL
  refine List.countP_mono_left fun x _ h => ?_
  have h : x.1 = c := by simpa using h
  obtain ⟨h1, h2⟩ := let_ne hc
  unfold isL
  simp [h, h1, h2]
theorem nL_le (deed : List (Nat × Nat × Nat)) : nL deed ≤ deed.length := List.countP_le_length
theorem let_of {c : Nat} (h : whatOk c) (h1 : c ≠ 42) (h2 : c ≠ 126) : c ∈ LET := by
  rcases h with h | h | h
  · exact h
  · exact absurd h h1
  · exact absurd h h2
def ndSum (l : List (List Nat × Nat × Nat)) : Nat := (l.map (·.2.2)).sum
structure NdOk (n : Nat) (deed : List (Nat × Nat × Nat)) (nd : List (List Nat × Nat × Nat)) : Prop where
  one : ∀ y ∈ nd, LotOk n y.1 ∧ y.2.1 ∈ LET ∧ 1 ≤ y.2.2
  len : nd.length ≤ nL deed
  sum : 2 * ndSum nd ≤ nL deed * (nL deed + 1)
  kind : ∀ y ∈ nd, ∃ x ∈ deed, x.1 = y.2.1
theorem nd_ok {n : Nat} (hn : 0 < n) : ∀ (r : List (Nat × Nat × Nat)) {st : SSt}, (∀ x ∈ r.reverse, whatOk x.1 ∧ stepOk n x) → deedS n r.reverse = some st → NdOk n r.reverse st.nd
  | [], st, _, e => by
    cases e
    exact ⟨fun y hy => (by cases hy), Nat.zero_le _, Nat.zero_le _, fun y hy => (by cases hy)⟩
  | x :: r, st, hd, e => by
    rw [List.reverse_cons] at hd e ⊢
    have hd1 : ∀ y ∈ r.reverse, whatOk y.1 ∧ stepOk n y := fun y hy => hd y (List.mem_append_left _ hy)
    obtain ⟨hx1, hx2⟩ := hd x (by simp)
    rw [deedS_snoc] at e
    cases q : deedS n r.reverse with
    | none => rw [q] at e; cases e
    | some st0 =>
      rw [q] at e
      have e : stepS st0 x = some st := e
      obtain ⟨i1, i2, i3, i4⟩ := nd_ok hn r hd1 q
      have ok := deedS_ok hd1 q
      have hk : nL (r.reverse ++ [x]) = nL r.reverse + if isL x.1 = true then 1 else 0 := by
        unfold nL
        rw [List.countP_append]
        by_cases h : isL x.1 = true <;> simp [h]
      have i4' : ∀ y ∈ st0.nd, ∃ z ∈ r.reverse ++ [x], z.1 = y.2.1 := fun y hy => by
        obtain ⟨z, hz, e⟩ := i4 y hy
        exact ⟨z, List.mem_append_left _ hz, e⟩
      rcases stepS_nd e with h | ⟨h1, h2, h3, h4, h5⟩
      · rw [h]
        refine ⟨i1, by omega, ?_, i4'⟩
        refine Nat.le_trans i3 (Nat.mul_le_mul (by omega) (by omega))
      · have hc := let_of hx1 h1 h2
        have hl : isL x.1 = true := by unfold isL; simp [h1, h2]
        rw [if_pos hl] at hk
        have hdue := due_le hn hd1 q (p := x.2.1) hc
        have hkl := nK_le hc r.reverse
        rw [h5]
        refine ⟨fun y hy => ?_, by rw [List.length_append, List.length_singleton]; omega, ?_, fun y hy => ?_⟩
        · rcases List.mem_append.mp hy with hy | hy
          · exact i1 y hy
          · rw [List.mem_singleton.mp hy]
            exact ⟨⟨h4, ok.asc _, ok.lt _⟩, hc, by dsimp only; omega⟩
        · unfold ndSum at *
          rw [List.map_append, List.sum_append, hk]
          have e2 : (nL r.reverse + 1) * (nL r.reverse + 1 + 1) = nL r.reverse * (nL r.reverse + 1) + 2 * (nL r.reverse + 1) := by
            rw [Nat.mul_comm (nL r.reverse) (nL r.reverse + 1), ← Nat.mul_comm (nL r.reverse + 1) 2, ← Nat.mul_add]
          rw [e2]
          simp only [List.map_cons, List.map_nil, List.sum_cons, List.sum_nil]
          omega
        · rcases List.mem_append.mp hy with hy | hy
          · exact i4' y hy
          · rw [List.mem_singleton.mp hy]
            exact ⟨x, by simp, rfl⟩
/-! ### deeds of single things alone -/
def kc (deed : List (Nat × Nat × Nat)) (k : Nat × Nat) : Nat := deed.countP fun x => decide ((x.2.1, x.1) = k)
structure AllL (n : Nat) (deed : List (Nat × Nat × Nat)) (st : SSt) : Prop where
  bl : st.bl = (firstS n).bl
  nt : ∀ k, -(kc deed k : Int) ≤ netV st.nt k
  nd : ∀ y ∈ st.nd, ∃ s, y.1 = [s] ∧ y.2.2 ≤ kc deed (s, y.2.1)
theorem all_letters {n : Nat} : ∀ (r : List (Nat × Nat × Nat)) {st : SSt}, (∀ x ∈ r.reverse, whatOk x.1 ∧ stepOk n x) → (∀ x ∈ r.reverse, isL x.1 = true) → deedS n r.reverse = some st → AllL n r.reverse st
  | [], st, _, _, e => by
    cases e
    exact ⟨rfl, fun k => by show -((0 : Nat) : Int) ≤ 0; omega, fun y hy => (by cases hy)⟩
  | x :: r, st, hd, hl, e => by
    rw [List.reverse_cons] at hd hl e ⊢
    have hd1 : ∀ y ∈ r.reverse, whatOk y.1 ∧ stepOk n y := fun y hy => hd y (List.mem_append_left _ hy)
    obtain ⟨hx1, hx2⟩ := hd x (by simp)
    have hlx := hl x (by simp)
    rw [deedS_snoc] at e
    cases q : deedS n r.reverse with
    | none => rw [q] at e; cases e
    | some st0 =>
      rw [q] at e
      have e : stepS st0 x = some st := e
      obtain ⟨i1, i2, i3⟩ := all_letters r hd1 (fun y hy => hl y (List.mem_append_left _ hy)) q
      have ok := deedS_ok hd1 q
      have hk : ∀ k, kc (r.reverse ++ [x]) k = kc r.reverse k + if (x.2.1, x.1) = k then 1 else 0 := fun k => by
        unfold kc
        rw [List.countP_append]
        by_cases h : (x.2.1, x.1) = k <;> simp [h]
      have c1 : x.1 ≠ 42 := fun h => by unfold isL at hlx; simp [h] at hlx
      have c2 : x.1 ≠ 126 := fun h => by unfold isL at hlx; simp [h] at hlx
      have old : ∀ y ∈ st0.nd, ∃ s, y.1 = [s] ∧ y.2.2 ≤ kc (r.reverse ++ [x]) (s, y.2.1) := fun y hy => by
        obtain ⟨s, s1, s2⟩ := i3 y hy
        exact ⟨s, s1, by rw [hk]; omega⟩
      unfold stepS at e
      rw [if_neg c1, if_neg c2] at e
      by_cases c3 : 0 < due st0 x.1 x.2.1 ∧ rowAt st0.bl x.2.1 = []
      · rw [if_pos c3] at e; cases e
      · rw [if_neg c3] at e
        cases e
        refine ⟨i1, fun k => ?_, fun y hy => ?_⟩
        · dsimp only
          have h1 := i2 k
          rw [setNets_id ok.nod, netV_put, netV_put, netV_put, hk]
          have h2 := i2 (x.2.2, x.1)
          have h3 : ¬ ((x.2.2, x.1) : Nat × Nat) = (x.2.1, x.1) := fun e => hx2.2.2 (congrArg Prod.fst e).symm
          rw [if_neg h3]
          by_cases e1 : k = (x.2.2, x.1)
          · subst e1
            rw [if_pos rfl]
            omega
          · rw [if_neg e1]
            by_cases e2 : k = (x.2.1, x.1)
            · subst e2
              rw [if_pos rfl, if_pos rfl]
              omega
            · rw [if_neg e2]
              omega
        · dsimp only at hy
          split at hy
          · rcases List.mem_append.mp hy with hy | hy
            · exact old y hy
            · rw [List.mem_singleton.mp hy]
              refine ⟨x.2.1, ?_, ?_⟩
              · dsimp only
                rw [i1, first_row, if_pos hx2.1]
              · dsimp only
                rw [hk, if_pos rfl]
                have h2 := i2 (x.2.1, x.1)
                have hd : due st0 x.1 x.2.1 = 1 - netV st0.nt (x.2.1, x.1) := rfl
                omega
          · exact old y hy
theorem sum_kc : ∀ (deed : List (Nat × Nat × Nat)) {ks : List (Nat × Nat)}, ks.Nodup → (ks.map (kc deed)).sum ≤ deed.length
  | [], ks, _ => by
    have : ∀ l : List (Nat × Nat), (l.map (kc [])).sum = 0 := by
      intro l
      induction l with
      | nil => rfl
      | cons k l ih => rw [List.map_cons, List.sum_cons, ih]; rfl
    rw [this]
    exact Nat.zero_le _
  | x :: deed, ks, hn => by
    have ih := sum_kc deed hn
    have : (ks.map (kc (x :: deed))).sum = (ks.map (kc deed)).sum + ks.count (x.2.1, x.1) := by
      clear ih hn
      induction ks with
      | nil => rfl
      | cons k ks ih =>
        rw [List.map_cons, List.sum_cons, List.map_cons, List.sum_cons, ih, List.count_cons]
        have : kc (x :: deed) k = kc deed k + if (x.2.1, x.1) = k then 1 else 0 := by
          unfold kc
          rw [List.countP_cons]
          simp
        rw [this]
        by_cases h : (x.2.1, x.1) = k
        · subst h; simp; omega
        · have h' : (k == (x.2.1, x.1)) = false := by simpa using fun e => h e.symm
          simp [h, h']; omega
    have hc : ks.count (x.2.1, x.1) ≤ 1 := List.nodup_iff_count.mp hn _
    rw [List.length_cons]
    omega
def grSum (gs : Grt) : Nat := (gs.map (·.2)).sum
theorem grSum_put {gs : Grt} {k : List Nat × Nat} {m : Nat} (hn : (gs.map (·.1)).Nodup) : grSum (grtPut gs k m) + (grtAt gs k).getD 0 = grSum gs + m := by
  unfold grtPut
  cases e : grtAt gs k with
  | none =>
    simp only [Option.isSome_none, Bool.false_eq_true, if_false, Option.getD_none]
    unfold grSum
    simp
  | some v =>
    simp only [Option.isSome_some, if_true, Option.getD_some]
    unfold grSum
    induction gs with
    | nil => simp [grtAt] at e
    | cons z zs ih =>
      rw [List.map_cons, List.nodup_cons] at hn
      rw [grtAt_cons] at e
      rw [List.map_cons, List.map_cons, List.sum_cons, List.map_cons, List.sum_cons]
      by_cases h : z.1 = k
      · rw [if_pos h] at e
        cases e
        rw [if_pos h]
        have : zs.map (fun g => if g.1 = k then (g.1, m) else g) = zs := by
          conv => rhs; rw [← List.map_id zs]
          refine List.map_congr_left fun g hg => ?_
          have : ¬ g.1 = k := fun q => hn.1 (h ▸ q ▸ List.mem_map.mpr ⟨g, hg, rfl⟩)
          rw [if_neg this]
          rfl
        rw [this]
        dsimp only
        omega
      · rw [if_neg h] at e
        rw [if_neg h]
        have := ih hn.2 e
        omega
theorem grSum_all (needs : List (List Nat × Nat × Nat)) : grSum (grtAll needs) ≤ ndSum needs := by
  have : ∀ (b : List (List Nat × Nat × Nat)) (gs : Grt), (gs.map (·.1)).Nodup → grSum (b.foldl grtStep gs) ≤ grSum gs + ndSum b := by
    intro b
    induction b with
    | nil => intro gs _; exact Nat.le_refl _
    | cons x b ih =>
      intro gs hn
      have h1 := ih (grtStep gs x) (grtPut_nod hn)
      have h2 := grSum_put (gs := gs) (k := (x.1, x.2.1)) (m := max x.2.2 ((grtAt gs (x.1, x.2.1)).getD 0)) hn
      unfold grtStep at h1
      rw [List.foldl_cons]
      unfold ndSum at *
      rw [List.map_cons, List.sum_cons]
      unfold grtStep
      omega
  have h := this needs [] (by simp)
  have z : grSum [] = 0 := rfl
  rw [z, Nat.zero_add] at h
  exact h
theorem grtPut_length (gs : Grt) (k : List Nat × Nat) (m : Nat) : (grtPut gs k m).length ≤ gs.length + 1 := by
  unfold grtPut
  split <;> simp
theorem grtAll_length (needs : List (List Nat × Nat × Nat)) : (grtAll needs).length ≤ needs.length := by
  have : ∀ (b : List (List Nat × Nat × Nat)) (gs : Grt), (b.foldl grtStep gs).length ≤ gs.length + b.length := by
    intro b
    induction b with
    | nil => intro gs; simp
    | cons x b ih =>
      intro gs
      have h1 := ih (grtStep gs x)
      have h2 : (grtStep gs x).length ≤ gs.length + 1 := grtPut_length ..
      rw [List.foldl_cons, List.length_cons]
      omega
  have := this needs []
  simpa [grtAll] using this
/-- the needs' numbers together are few; one other at most, or apart lots -/
theorem few {n : Nat} (hn : 0 < n) {deed : List (Nat × Nat × Nat)} {st : SSt} (hd : deedOk n deed) (e : deedS n deed = some st) :
    grSum (grtAll st.nd) ≤ 3 ∧ ((grtAll st.nd).length ≤ 2 ∨ ∀ g ∈ grtAll st.nd, ∃ s, g.1.1 = [s]) := by
  have hN := nd_ok hn deed.reverse (st := st) (by simpa using hd.2) (by simpa using e)
  rw [List.reverse_reverse] at hN
  by_cases h2 : nL deed ≤ 2
  · refine ⟨Nat.le_trans (grSum_all _) ?_, .inl (Nat.le_trans (grtAll_length _) (Nat.le_trans hN.len h2))⟩
    have h := hN.sum
    have : nL deed = 0 ∨ nL deed = 1 ∨ nL deed = 2 := by omega
    rcases this with q | q | q <;> rw [q] at h <;> omega
  · have h3 : nL deed = deed.length := by
      have := nL_le deed
      have := hd.1
      omega
    have hl : ∀ x ∈ deed, isL x.1 = true := by
      have := List.countP_eq_length.mp h3
      exact this
    have A := all_letters deed.reverse (st := st) (by simpa using hd.2) (by simpa using hl) (by simpa using e)
    rw [List.reverse_reverse] at A
    have G := grok_all st.nd
    have one : ∀ g ∈ grtAll st.nd, ∃ s, g.1.1 = [s] ∧ g.2 ≤ kc deed (s, g.1.2) := fun g hg => by
      obtain ⟨s, s1, s2⟩ := A.nd _ (G.from' g hg)
      exact ⟨s, s1, s2⟩
    refine ⟨?_, .inr fun g hg => (one g hg).imp fun s h => h.1⟩
    have key : ∀ gs : Grt, (gs.map (·.1)).Nodup → (∀ g ∈ gs, ∃ s, g.1.1 = [s] ∧ g.2 ≤ kc deed (s, g.1.2)) → ∃ ks : List (Nat × Nat), ks.Nodup ∧ (∀ k ∈ ks, ∃ g ∈ gs, g.1 = ([k.1], k.2)) ∧ grSum gs ≤ (ks.map (kc deed)).sum := by
      intro gs
      induction gs with
      | nil => intro _ _; exact ⟨[], by simp, fun k hk => (by cases hk), Nat.le_refl _⟩
      | cons z zs ih =>
        intro hnd h
        rw [List.map_cons, List.nodup_cons] at hnd
        obtain ⟨ks, k1, k2, k3⟩ := ih hnd.2 fun g hg => h g (List.mem_cons_of_mem _ hg)
        obtain ⟨s, s1, s2⟩ := h z (List.mem_cons_self ..)
        refine ⟨(s, z.1.2) :: ks, List.nodup_cons.mpr ⟨fun hk => ?_, k1⟩, fun k hk => ?_, ?_⟩
        · obtain ⟨g, g1, g2⟩ := k2 _ hk
          refine hnd.1 (List.mem_map.mpr ⟨g, g1, ?_⟩)
          show g.1 = z.1
          rw [g2]
          exact Prod.ext s1.symm rfl
        · rcases List.mem_cons.mp hk with rfl | hk
          · exact ⟨z, List.mem_cons_self .., Prod.ext s1 rfl⟩
          · obtain ⟨g, g1, g2⟩ := k2 _ hk
            exact ⟨g, List.mem_cons_of_mem _ g1, g2⟩
        · unfold grSum at *
          rw [List.map_cons, List.sum_cons, List.map_cons, List.sum_cons]
          omega
    obtain ⟨ks, k1, _, k3⟩ := key _ G.nod one
    have := sum_kc deed k1
    have := hd.1
    omega
end K10
/-! Worlds of one kind alone that part a need from the others. -/
namespace K10
def fS (f : Nat → Nat) (l : List Nat) : Nat := (l.map f).sum
theorem fS_nil (f : Nat → Nat) : fS f [] = 0 := rfl
theorem fS_cons (f : Nat → Nat) (p : Nat) (l : List Nat) : fS f (p :: l) = f p + fS f l := by simp [fS]
theorem fS_zero {f : Nat → Nat} : ∀ {l : List Nat}, (∀ p ∈ l, f p = 0) → fS f l = 0
  | [], _ => rfl
  | p :: l, h => by rw [fS_cons, h p (List.mem_cons_self ..), fS_zero fun q hq => h q (List.mem_cons_of_mem _ hq)]
theorem fS_pos {f : Nat → Nat} : ∀ {l : List Nat}, 0 < fS f l → ∃ p ∈ l, 0 < f p
  | [], h => by simp [fS] at h
  | p :: l, h => by
    by_cases hp : 0 < f p
    · exact ⟨p, List.mem_cons_self .., hp⟩
    · rw [fS_cons] at h
      obtain ⟨q, hq, hf⟩ := fS_pos (l := l) (f := f) (by omega)
      exact ⟨q, List.mem_cons_of_mem _ hq, hf⟩
theorem fS_zero_of {f : Nat → Nat} {l : List Nat} (h : fS f l = 0) : ∀ p ∈ l, f p = 0 := by
  induction l with
  | nil => intro p hp; cases hp
  | cons q l ih =>
    rw [fS_cons] at h
    intro p hp
    rcases List.mem_cons.mp hp with rfl | hp
    · omega
    · exact ih (by omega) p hp
/-- one less at p -/
def less1 (f : Nat → Nat) (p : Nat) : Nat → Nat := fun q => if q = p then f p - 1 else f q
theorem fS_less {f : Nat → Nat} {p : Nat} (hp : 0 < f p) : ∀ {l : List Nat}, l.Nodup → fS (less1 f p) l + (if p ∈ l then 1 else 0) = fS f l
  | [], _ => rfl
  | q :: l, hn => by
    rw [List.nodup_cons] at hn
    have ih := fS_less hp hn.2
    rw [fS_cons, fS_cons]
    by_cases h : q = p
    · subst h
      rw [if_neg hn.1] at ih
      rw [if_pos (List.mem_cons_self ..)]
      unfold less1 at *
      rw [if_pos rfl]
      omega
    · have : (p ∈ q :: l) ↔ p ∈ l := by
        rw [List.mem_cons]
        exact ⟨fun e => e.resolve_left fun e => h e.symm, .inr⟩
      simp only [this]
      have e : less1 f p q = f q := if_neg h
      rw [e]
      omega
theorem last_pos (f : Nat → Nat) : ∀ n : Nat, (∃ p, p < n ∧ 0 < f p) → ∃ p, p < n ∧ 0 < f p ∧ ∀ q, p < q → q < n → f q = 0
  | 0, ⟨p, h, _⟩ => by omega
  | n + 1, ⟨p, h1, h2⟩ => by
    by_cases h : 0 < f n
    · exact ⟨n, by omega, h, fun q a b => by omega⟩
    · have : p ≠ n := fun e => h (e ▸ h2)
      obtain ⟨q, a, b, c⟩ := last_pos f n ⟨p, by omega, h2⟩
      refine ⟨q, by omega, b, fun r r1 r2 => ?_⟩
      by_cases e : r = n
      · subst e; omega
      · exact c r r1 (by omega)
theorem srt_rep (c : Nat) (k : Nat) : srt (List.replicate k c) = List.replicate k c := sorted_eq (srt_sorted _) (by
  rw [List.pairwise_replicate]
  exact .inr (Nat.le_refl _)) (srt_perm _)
/-- the world with so many things of one kind is among those of one kind alone -/
theorem alone_has (n c : Nat) : ∀ (m : Nat) (f : Nat → Nat), fS f (List.range n) = m → ∃ w ∈ aloneW n c m, w.length = n ∧ ∀ p, p < n → rowAt w p = List.replicate (f p) c
  | 0, f, h => by
    refine ⟨_, List.mem_singleton.mpr rfl, by simp, fun p hp => ?_⟩
    rw [fS_zero_of h p (List.mem_range.mpr hp)]
    unfold rowAt
    rw [List.getElem?_replicate, if_pos hp]
    rfl
  | m + 1, f, h => by
    obtain ⟨q, hq, hf⟩ := fS_pos (f := f) (l := List.range n) (by omega)
    obtain ⟨p, p1, p2, p3⟩ := last_pos f n ⟨q, List.mem_range.mp hq, hf⟩
    have e := fS_less p2 (List.nodup_range (n := n))
    rw [if_pos (List.mem_range.mpr p1)] at e
    obtain ⟨w, w1, w2, w3⟩ := alone_has n c m (less1 f p) (by omega)
    refine ⟨putW w p [c], ?_, (putW_length (by omega)).trans w2, fun r hr => ?_⟩
    · show putW w p [c] ∈ aloneStep n c (aloneW n c m)
      unfold aloneStep
      refine List.mem_flatMap.mpr ⟨w, w1, List.mem_map.mpr ⟨p, List.mem_filter.mpr ⟨List.mem_range.mpr p1, ?_⟩, rfl⟩⟩
      unfold freeUp
      rw [List.isEmpty_iff, List.filter_eq_nil_iff]
      intro i hi
      have hi := List.mem_range.mp hi
      have e : less1 f p (p + 1 + i) = f (p + 1 + i) := if_neg (by omega)
      rw [w3 _ (by omega), e, p3 _ (by omega) (by omega)]
      simp
    · rw [rowAt_put (by omega)]
      by_cases hrp : r = p
      · subst hrp
        rw [if_pos rfl, w3 r hr]
        have e : less1 f r r = f r - 1 := if_pos rfl
        rw [e]
        have : List.replicate (f r - 1) c ++ [c] = List.replicate (f r) c := by
          rw [← List.replicate_one (a := c), List.replicate_append_replicate]
          congr 1
          omega
        rw [this, srt_rep]
      · rw [if_neg hrp, w3 r hr]
        have e : less1 f p r = f r := if_neg hrp
        rw [e]
/-! ### a place of its own for each other need -/
def rep (lot : List Nat) (y : List Nat × Nat) : Nat := ((y.1.filter fun p => !decide (p ∈ lot)) ++ y.1).headD 0
theorem rep_mem {lot : List Nat} {y : List Nat × Nat} (h : y.1 ≠ []) : rep lot y ∈ y.1 := by
  unfold rep
  cases e : y.1.filter fun p => !decide (p ∈ lot) with
  | nil =>
    obtain ⟨a, l, q⟩ := List.exists_cons_of_ne_nil h
    rw [q]
    simp
  | cons a l =>
    have : a ∈ y.1.filter fun p => !decide (p ∈ lot) := by rw [e]; simp
    simpa using (List.mem_filter.mp this).1
theorem rep_in {lot : List Nat} {y : List Nat × Nat} (h : rep lot y ∈ lot) : partB y.1 lot = true := by
  rw [partB_iff]
  intro p hp
  apply Classical.byContradiction
  intro hn
  unfold rep at h
  have : p ∈ y.1.filter fun p => !decide (p ∈ lot) := List.mem_filter.mpr ⟨hp, by simpa using hn⟩
  cases e : y.1.filter fun p => !decide (p ∈ lot) with
  | nil => rw [e] at this; cases this
  | cons a l =>
    rw [e] at h
    have ha : a ∈ y.1.filter fun p => !decide (p ∈ lot) := by rw [e]; simp
    have := (List.mem_filter.mp ha).2
    simp at h this
    exact this h
def repF (lot : List Nat) (os : List (List Nat × Nat)) (p : Nat) : Nat := (os.map fun y => if rep lot y = p then y.2 else 0).sum
theorem repF_sum (lot : List Nat) : ∀ (os : List (List Nat × Nat)) {l : List Nat}, l.Nodup → fS (repF lot os) l = (os.map fun y => if rep lot y ∈ l then y.2 else 0).sum
  | [], l, _ => fS_zero fun _ _ => rfl
  | y :: os, l, hn => by
    have ih := repF_sum lot os hn
    rw [List.map_cons, List.sum_cons, ← ih]
    clear ih
    induction l with
    | nil => simp [fS]
    | cons p l ih =>
      rw [List.nodup_cons] at hn
      have := ih hn.2
      rw [fS_cons, fS_cons, this]
      have e : repF lot (y :: os) p = (if rep lot y = p then y.2 else 0) + repF lot os p := by simp [repF]
      rw [e]
      by_cases h : rep lot y = p
      · subst h
        simp [hn.1]
        omega
      · have : (rep lot y ∈ p :: l) ↔ rep lot y ∈ l := by
          rw [List.mem_cons]
          exact ⟨fun q => q.resolve_left h, .inr⟩
        simp only [this, if_neg h]
        omega
theorem sum_le_of {α : Type} {f g : α → Nat} : ∀ {l : List α}, (∀ x ∈ l, f x ≤ g x) → (l.map f).sum ≤ (l.map g).sum
  | [], _ => Nat.le_refl _
  | x :: l, h => by
    rw [List.map_cons, List.map_cons, List.sum_cons, List.sum_cons]
    have := h x (List.mem_cons_self ..)
    have := sum_le_of fun y hy => h y (List.mem_cons_of_mem x hy)
    omega
theorem sum_ge {α : Type} {f : α → Nat} : ∀ {l : List α} {x : α}, x ∈ l → f x ≤ (l.map f).sum
  | y :: l, x, h => by
    rw [List.map_cons, List.sum_cons]
    rcases List.mem_cons.mp h with rfl | h
    · omega
    · have := sum_ge (f := f) h
      omega
theorem nod_key {gs : Grt} (hnd : (gs.map (·.1)).Nodup) {z g : (List Nat × Nat) × Nat} (hz : z ∈ gs) (hg : g ∈ gs) (e : z.1 = g.1) : z = g := by
  induction gs with
  | nil => cases hz
  | cons a l ih =>
    rw [List.map_cons, List.nodup_cons] at hnd
    rcases List.mem_cons.mp hz with hz1 | hz1 <;> rcases List.mem_cons.mp hg with hg1 | hg1
    · rw [hz1, hg1]
    · exact absurd (List.mem_map.mpr ⟨g, hg1, by rw [← e, hz1]⟩) hnd.1
    · exact absurd (List.mem_map.mpr ⟨z, hz1, by rw [e, hg1]⟩) hnd.1
    · exact ih hnd.2 hz1 hg1
/-- for each need told: a world with at most three things that meets the others of its kind and not this one -/
theorem parted {n : Nat} (hn : 0 < n) {deed : List (Nat × Nat × Nat)} {st : SSt} (hd : deedOk n deed) (e : deedS n deed = some st) {k : List Nat × Nat × Nat} (hk : k ∈ toldN (grtAll st.nd)) :
    ∃ f : Nat → Nat, fS f (List.range n) ≤ 3 ∧ fS f k.1 < k.2.2 ∧ ∀ y ∈ toldN (grtAll st.nd), y ≠ k → y.2.1 = k.2.1 → y.2.2 ≤ fS f y.1 := by
  have hN := nd_ok hn deed.reverse (st := st) (by simpa using hd.2) (by simpa using e)
  rw [List.reverse_reverse] at hN
  obtain ⟨f1, f2⟩ := few hn hd e
  have G := grok_all st.nd
  generalize grtAll st.nd = gs at *
  unfold toldN at hk
  obtain ⟨g, hg, rfl⟩ := List.mem_map.mp hk
  obtain ⟨hg1, hg2⟩ := List.mem_filter.mp hg
  have lotg := (hN.one _ (G.from' g hg1)).1
  have hsur : sur 10 g.1.1 (othW gs g.1) < g.2 := by
    unfold toldOne at hg2
    exact of_decide_eq_true hg2
  have hos : ∀ y ∈ othW gs g.1, ∃ z ∈ gs, z.1.2 = g.1.2 ∧ z.1.1 ≠ g.1.1 ∧ y = (z.1.1, z.2) := fun y hy => by
    unfold othW at hy
    obtain ⟨z, hz, rfl⟩ := List.mem_map.mp hy
    obtain ⟨hz1, hz2⟩ := List.mem_filter.mp hz
    simp only [Bool.and_eq_true, decide_eq_true_eq, Bool.not_eq_true', decide_eq_false_iff_not] at hz2
    exact ⟨z, hz1, hz2.1, hz2.2, rfl⟩
  have lotz : ∀ y ∈ othW gs g.1, LotOk n y.1 := fun y hy => by
    obtain ⟨z, z1, _, _, rfl⟩ := hos y hy
    exact (hN.one _ (G.from' z z1)).1
  refine ⟨repF g.1.1 (othW gs g.1), ?_, ?_, fun y hy hne hyk => ?_⟩
  · rw [repF_sum _ _ List.nodup_range]
    refine Nat.le_trans (sum_le_of (g := fun y => y.2) fun y _ => by split <;> omega) (Nat.le_trans ?_ f1)
    unfold othW grSum
    rw [List.map_map]
    show ((gs.filter _).map fun g => g.2).sum ≤ _
    clear f1 f2 G hk hg hg1 hg2 hsur hos lotz
    induction gs with
    | nil => exact Nat.le_refl _
    | cons z zs ih =>
      rw [List.filter_cons]
      split
      · rw [List.map_cons, List.map_cons, List.sum_cons, List.sum_cons]; omega
      · rw [List.map_cons, List.sum_cons]; omega
  · rw [repF_sum _ _ (asc_nodup lotg.2.1)]
    dsimp only
    rcases f2 with f2 | f2
    · have hl : (othW gs g.1).length ≤ 1 := by
        unfold othW
        rw [List.length_map]
        have : (gs.filter fun z => decide (z.1.2 = g.1.2) && !decide (z.1.1 = g.1.1)).length < gs.length := by
          refine List.length_filter_lt_length_iff_exists.mpr ⟨g, hg1, by simp⟩
        omega
      cases q : othW gs g.1 with
      | nil => simp; omega
      | cons y os =>
        rw [q] at hl
        have : os = [] := List.eq_nil_of_length_eq_zero (by rw [List.length_cons] at hl; omega)
        subst this
        rw [List.map_cons, List.map_nil, List.sum_cons, List.sum_nil]
        by_cases h : rep g.1.1 y ∈ g.1.1
        · rw [if_pos h]
          have : y.2 ≤ sur 10 g.1.1 (othW gs g.1) := sur_ge 9 g.1.1 (othW gs g.1) (y := y) (by rw [q]; simp) (rep_in h)
          omega
        · rw [if_neg h]; omega
    · have hz : ((othW gs g.1).map fun y => if rep g.1.1 y ∈ g.1.1 then y.2 else 0).sum = 0 := by
        have hh : ∀ y ∈ othW gs g.1, (if rep g.1.1 y ∈ g.1.1 then y.2 else 0) = 0 := fun y hy => by
          refine if_neg fun h => ?_
          obtain ⟨z, z1, z2, z3, rfl⟩ := hos y hy
          obtain ⟨a, ha⟩ := f2 z z1
          obtain ⟨b, hb⟩ := f2 g hg1
          have := partB_iff.mp (rep_in h)
          dsimp only at this
          rw [ha, hb] at this
          have := List.mem_singleton.mp (this a (List.mem_singleton.mpr rfl))
          exact z3 (by rw [ha, hb, this])
        have := sum_le_of (l := othW gs g.1) (f := fun y => if rep g.1.1 y ∈ g.1.1 then y.2 else 0) (g := fun _ => 0) fun y hy => Nat.le_of_eq (hh y hy)
        have z0 : ∀ l : List (List Nat × Nat), (l.map fun _ => 0).sum = 0 := by
          intro l
          induction l with
          | nil => rfl
          | cons _ _ ih => rw [List.map_cons, List.sum_cons, ih]
        rw [z0] at this
        omega
      omega
  · obtain ⟨z, hz, rfl⟩ := List.mem_map.mp hy
    obtain ⟨hz1, _⟩ := List.mem_filter.mp hz
    dsimp only at hyk hne ⊢
    have hlot : z.1.1 ≠ g.1.1 := fun q => hne (by
      have e1 : z.1 = g.1 := Prod.ext q hyk
      have : z = g := nod_key G.nod hz1 hg1 e1
      rw [this])
    have hm : (z.1.1, z.2) ∈ othW gs g.1 := by
      unfold othW
      exact List.mem_map.mpr ⟨z, List.mem_filter.mpr ⟨hz1, by simp [hyk, hlot]⟩, rfl⟩
    have lz := lotz _ hm
    rw [repF_sum _ _ (asc_nodup lz.2.1)]
    refine Nat.le_trans ?_ (sum_ge (f := fun y => if rep g.1.1 y ∈ z.1.1 then y.2 else 0) hm)
    rw [if_pos (rep_mem lz.1)]
    exact Nat.le_refl _
end K10
/-! The world to which a sense leads is the world behind the deed. -/
namespace K10
/-! ### nets are small -/
def absS (xs : Nets) : Nat := (xs.map fun e => e.2.natAbs).sum
theorem absS_cons (x : (Nat × Nat) × Int) (xs : Nets) : absS (x :: xs) = x.2.natAbs + absS xs := by simp [absS]
theorem absS_app (xs ys : Nets) : absS (xs ++ ys) = absS xs + absS ys := by simp [absS]
theorem absS_put {xs : Nets} (hn : (xs.map (·.1)).Nodup) (k : Nat × Nat) (i : Int) : absS (nPut xs k i) ≤ absS xs + (i - netV xs k).natAbs := by
  unfold nPut netV
  cases e : nAt xs k with
  | none =>
    simp only [Option.isSome_none, Bool.false_eq_true, if_false, Option.getD_none]
    rw [absS_app, absS_cons]
    have : absS [] = 0 := rfl
    omega
  | some v =>
    simp only [Option.isSome_some, if_true, Option.getD_some]
    induction xs with
    | nil => simp [nAt] at e
    | cons z zs ih =>
      rw [List.map_cons, List.nodup_cons] at hn
      rw [nAt_cons] at e
      rw [List.map_cons, absS_cons, absS_cons]
      by_cases h : z.1 = k
      · rw [if_pos h] at e
        cases e
        rw [if_pos h]
        have : zs.map (fun g => if g.1 = k then (g.1, i) else g) = zs := by
          conv => rhs; rw [← List.map_id zs]
          refine List.map_congr_left fun g hg => ?_
          have : ¬ g.1 = k := fun q => hn.1 (h ▸ q ▸ List.mem_map.mpr ⟨g, hg, rfl⟩)
          rw [if_neg this]
          rfl
        rw [this]
        dsimp only
        omega
      · rw [if_neg h] at e
        rw [if_neg h]
        have := ih hn.2 e
        omega
theorem absS_add (φ : Nat × Nat → Nat × Nat) : ∀ (xs f : Nets), (f.map (·.1)).Nodup → absS (addNets φ f xs) ≤ absS f + absS xs
  | [], f, _ => by simp [addNets, absS]
  | x :: xs, f, hn => by
    have h1 := absS_add φ xs (nPut f (φ x.1) (netV f (φ x.1) + x.2)) (nod_put hn)
    have h2 := absS_put hn (φ x.1) (netV f (φ x.1) + x.2)
    rw [absS_cons]
    show absS (addNets φ (nPut f (φ x.1) (netV f (φ x.1) + x.2)) xs) ≤ _
    have : netV f (φ x.1) + x.2 - netV f (φ x.1) = x.2 := by omega
    rw [this] at h2
    omega
theorem absS_le {xs : Nets} {e : (Nat × Nat) × Int} (h : e ∈ xs) : e.2.natAbs ≤ absS xs := sum_ge (f := fun e => e.2.natAbs) h
theorem nPut_length (f : Nets) (k : Nat × Nat) (i : Int) : (nPut f k i).length ≤ f.length + 1 := by
  unfold nPut
  split <;> simp
theorem step_small {n : Nat} {st st' : SSt} {x : Nat × Nat × Nat} {B : Nat} (h : SOk n st) (e : stepS st x = some st') (h1 : absS st.nt ≤ B) (h2 : st.nt.length ≤ B) : absS st'.nt ≤ B + 2 ∧ st'.nt.length ≤ B + 2 := by
  unfold stepS at e
  split at e
  · cases e
    have a := absS_add (toG x.2.1 x.2.2) st.nt [] (by simp)
    have b := addNets_len (toG x.2.1 x.2.2) st.nt []
    have : absS [] = 0 := rfl
    simp at b
    dsimp only
    omega
  · split at e
    · cases e
      dsimp only
      rw [setNets_map _ (toX_inj _ _) h.nod, List.length_map]
      have : absS (st.nt.map fun e => (toX x.2.1 x.2.2 e.1, e.2)) = absS st.nt := by
        unfold absS
        rw [List.map_map]
        rfl
      omega
    · split at e
      · cases e
      · cases e
        dsimp only
        rw [setNets_id h.nod]
        have a := absS_put h.nod (x.2.1, x.1) (netV st.nt (x.2.1, x.1) - 1)
        have b := absS_put (nod_put (k := (x.2.1, x.1)) (i := netV st.nt (x.2.1, x.1) - 1) h.nod) (x.2.2, x.1) (netV (nPut st.nt (x.2.1, x.1) (netV st.nt (x.2.1, x.1) - 1)) (x.2.2, x.1) + 1)
        have c := nPut_length st.nt (x.2.1, x.1) (netV st.nt (x.2.1, x.1) - 1)
        have d := nPut_length (nPut st.nt (x.2.1, x.1) (netV st.nt (x.2.1, x.1) - 1)) (x.2.2, x.1) (netV (nPut st.nt (x.2.1, x.1) (netV st.nt (x.2.1, x.1) - 1)) (x.2.2, x.1) + 1)
        omega
theorem deedF_small {n : Nat} : ∀ (deed : List (Nat × Nat × Nat)) {st st' : SSt} {B : Nat}, SOk n st → (∀ x ∈ deed, whatOk x.1 ∧ stepOk n x) → deedF st deed = some st' → absS st.nt ≤ B → st.nt.length ≤ B → absS st'.nt ≤ B + 2 * deed.length ∧ st'.nt.length ≤ B + 2 * deed.length
  | [], st, st', B, _, _, e, h1, h2 => by cases e; exact ⟨h1, h2⟩
  | x :: r, st, st', B, h, hd, e, h1, h2 => by
    obtain ⟨a1, a2⟩ := hd x (List.mem_cons_self ..)
    unfold deedF at e
    cases q : stepS st x with
    | none => rw [q] at e; cases e
    | some st1 =>
      rw [q] at e
      obtain ⟨b1, b2⟩ := step_small h q h1 h2
      have := deedF_small r (step_ok h a2 a1 q) (fun y hy => hd y (List.mem_cons_of_mem _ hy)) e b1 b2
      rw [List.length_cons]
      omega
theorem deedS_small {n : Nat} {deed : List (Nat × Nat × Nat)} {st : SSt} (hd : deedOk n deed) (e : deedS n deed = some st) : absS st.nt ≤ 6 ∧ st.nt.length ≤ 6 := by
  have := deedF_small deed (B := 0) (first_ok n) hd.2 (deedS_eq n deed ▸ e) (Nat.zero_le _) (Nat.zero_le _)
  have := hd.1
  omega
/-! ### where, nets -/
def whS (st : SSt) (p : Nat) : Nat := ((List.range st.bl.length).filter fun a => decide (p ∈ rowAt st.bl a)).headD 0
def whL (st : SSt) : List Nat := (List.range st.bl.length).map (whS st)
theorem whS_filter {n : Nat} {st : SSt} (h : SOk n st) {p : Nat} (hp : p < n) : ∃ a, a < n ∧ p ∈ rowAt st.bl a ∧ (List.range st.bl.length).filter (fun a => decide (p ∈ rowAt st.bl a)) = [a] := by
  obtain ⟨a, ha⟩ := h.cov p hp
  have han := h.rowlt ha
  refine ⟨a, han, ha, asc_ext (List.pairwise_lt_range.filter _) (by simp) fun x => ?_⟩
  rw [List.mem_filter, List.mem_range, decide_eq_true_eq, List.mem_singleton, h.len]
  exact ⟨fun q => h.inj _ _ p q.2 ha, fun q => by subst q; exact ⟨han, ha⟩⟩
theorem whS_iff {n : Nat} {st : SSt} (h : SOk n st) {p g : Nat} (hp : p < n) : whS st p = g ↔ p ∈ rowAt st.bl g := by
  obtain ⟨a, a1, a2, a3⟩ := whS_filter h hp
  unfold whS
  rw [a3]
  show a = g ↔ _
  exact ⟨fun q => by subst q; exact a2, fun q => h.inj _ _ p a2 q⟩
theorem whL_at {n : Nat} {st : SSt} (h : SOk n st) {p : Nat} (hp : p < n) : (whL st)[p]?.getD 0 = whS st p := by
  unfold whL
  rw [List.getElem?_map, List.getElem?_range (by rw [h.len]; exact hp)]
  rfl
/-- the rows told, in some order -/
def netRows (st : SSt) : List (Nat × Nat × Int) := (st.nt.filter fun e => !decide (e.2 = 0)).map fun e => (e.1.1, e.1.2, e.2)
/-! ### led -/
def ledF (here : List Nat) (r : Nat × Nat × Int) : List Nat := if 0 < r.2.2 then here ++ List.replicate (min r.2.2 9).toNat r.2.1 else here.filter (fun x => x != r.2.1) ++ List.replicate ((here.count r.2.1 : Int) + r.2.2).toNat r.2.1
def ledFine : List Nat → List (Nat × Nat × Int) → Prop
  | _, [] => True
  | here, r :: rs => (0 < r.2.2 ∨ 0 ≤ (here.count r.2.1 : Int) + r.2.2) ∧ ledFine (ledF here r) rs
def here0 (w : List (List Nat)) (wh : List Nat) (g : Nat) : List Nat := (((List.range w.length).filter fun p => decide (wh[p]?.getD 0 = g)).map (rowAt w)).flatten
def rowsOf (nets : List (Nat × Nat × Int)) (g : Nat) : List (Nat × Nat × Int) := nets.filter fun r => decide (r.1 = g)
def ledRow (w : List (List Nat)) (wh : List Nat) (nets : List (Nat × Nat × Int)) (g : Nat) : List Nat := srt ((rowsOf nets g).foldl ledF (here0 w wh g))
def ledW (w : List (List Nat)) (wh : List Nat) (nets : List (Nat × Nat × Int)) (needs : List (List Nat × Nat × Nat)) : Option (List (List Nat)) :=
  if (needs.all (metW w)) = true then some ((List.range w.length).map (ledRow w wh nets)) else none
theorem here0_count (w : List (List Nat)) (wh : List Nat) (g c : Nat) : (here0 w wh g).count c = sumAt w c ((List.range w.length).filter fun p => decide (wh[p]?.getD 0 = g)) := by
  unfold here0
  generalize (List.range w.length).filter _ = l
  induction l with
  | nil => rfl
  | cons p l ih =>
    rw [List.map_cons, List.flatten_cons, List.count_append, ih, sumAt_cons]
    rfl
def rowSum (rs : List (Nat × Nat × Int)) (c : Nat) : Int := ((rs.filter fun r => decide (r.2.1 = c)).map (·.2.2)).sum
theorem rowSum_cons (r : Nat × Nat × Int) (rs : List (Nat × Nat × Int)) (c : Nat) : rowSum (r :: rs) c = (if r.2.1 = c then r.2.2 else 0) + rowSum rs c := by
  unfold rowSum
  rw [List.filter_cons]
  by_cases h : r.2.1 = c <;> simp [h]
theorem rowSum_out {rs : List (Nat × Nat × Int)} {c : Nat} (h : c ∉ rs.map (·.2.1)) : rowSum rs c = 0 := by
  induction rs with
  | nil => rfl
  | cons r rs ih =>
    rw [List.map_cons, List.mem_cons, not_or] at h
    rw [rowSum_cons, ih h.2, if_neg fun e => h.1 e.symm]
    rfl
theorem count_ledF {here : List Nat} {r : Nat × Nat × Int} {c : Nat} (h9 : r.2.2 ≤ 9) (hf : 0 < r.2.2 ∨ 0 ≤ (here.count r.2.1 : Int) + r.2.2) : ((ledF here r).count c : Int) = here.count c + if r.2.1 = c then r.2.2 else 0 := by
  unfold ledF
  by_cases hp : 0 < r.2.2
  · rw [if_pos hp, List.count_append, List.count_replicate]
    by_cases hc : r.2.1 = c
    · subst hc
      simp
      omega
    · simp [hc]
  · rw [if_neg hp, List.count_append, List.count_replicate]
    by_cases hc : r.2.1 = c
    · subst hc
      have : (here.filter fun x => x != r.2.1).count r.2.1 = 0 := List.count_eq_zero.mpr fun q => by
        have := (List.mem_filter.mp q).2
        simp at this
      rw [this]
      simp
      omega
    · have : (here.filter fun x => x != r.2.1).count c = here.count c := List.count_filter (by simpa using fun e => hc e.symm)
      rw [this]
      simp [hc]
theorem led_count : ∀ (rs : List (Nat × Nat × Int)) (here : List Nat), (rs.map (·.2.1)).Nodup → (∀ r ∈ rs, r.2.2 ≤ 9 ∧ (0 < r.2.2 ∨ 0 ≤ (here.count r.2.1 : Int) + r.2.2)) → ledFine here rs ∧ ∀ c, ((rs.foldl ledF here).count c : Int) = here.count c + rowSum rs c
  | [], here, _, _ => ⟨trivial, fun c => by show (here.count c : Int) = here.count c + 0; omega⟩
  | r :: rs, here, hn, h => by
    rw [List.map_cons, List.nodup_cons] at hn
    obtain ⟨h9, hf⟩ := h r (List.mem_cons_self ..)
    have hc := fun c => count_ledF (c := c) h9 hf
    obtain ⟨a, b⟩ := led_count rs (ledF here r) hn.2 fun q hq => by
      obtain ⟨q9, qf⟩ := h q (List.mem_cons_of_mem _ hq)
      refine ⟨q9, qf.imp id fun qf => ?_⟩
      have ne : ¬ r.2.1 = q.2.1 := fun e => hn.1 (e ▸ List.mem_map.mpr ⟨q, hq, rfl⟩)
      rw [hc, if_neg ne]
      omega
    refine ⟨⟨hf, a⟩, fun c => ?_⟩
    rw [List.foldl_cons, b, hc, rowSum_cons]
    omega
theorem sumI_perm {a b : List Int} (h : a.Perm b) : a.sum = b.sum := by
  induction h with
  | nil => rfl
  | cons x _ ih => rw [List.sum_cons, List.sum_cons, ih]
  | swap x y l => simp only [List.sum_cons]; omega
  | trans _ _ h1 h2 => exact h1.trans h2
theorem rowSum_perm {a b : List (Nat × Nat × Int)} (h : a.Perm b) (c : Nat) : rowSum a c = rowSum b c := by
  unfold rowSum
  exact sumI_perm ((h.filter _).map _)
theorem rows_sum {st : SSt} (hn : (st.nt.map (·.1)).Nodup) (g c : Nat) : rowSum (rowsOf (netRows st) g) c = netV st.nt (g, c) := by
  rw [← sumK_one hn]
  unfold rowSum rowsOf netRows sumK
  rw [List.filter_map, List.filter_map, List.map_map, List.filter_filter, List.filter_filter]
  generalize st.nt = l
  induction l with
  | nil => rfl
  | cons e l ih =>
    rw [List.filter_cons, List.filter_cons]
    obtain ⟨⟨a, b⟩, v⟩ := e
    by_cases h1 : a = g <;> by_cases h2 : b = c <;> by_cases h3 : v = 0 <;> simp [h1, h2, h3] at ih ⊢ <;> exact ih
theorem rows_nod {nets : List (Nat × Nat × Int)} {st : SSt} (hp : nets.Perm (netRows st)) (hn : (st.nt.map (·.1)).Nodup) (g : Nat) : ((rowsOf nets g).map (·.2.1)).Nodup := by
  have h1 : ((rowsOf (netRows st) g).map (·.2.1)).Nodup := by
    unfold rowsOf netRows
    unfold List.Nodup at *
    rw [List.filter_map, List.map_map, List.pairwise_map]
    rw [List.pairwise_map] at hn
    refine List.Pairwise.imp_of_mem ?_ ((hn.filter _).filter _)
    intro x y hx hy hne e
    have hx2 := (List.mem_filter.mp hx).2
    have hy2 := (List.mem_filter.mp hy).2
    simp only [Function.comp, decide_eq_true_eq] at hx2 hy2 e
    exact hne (Prod.ext (hx2.trans hy2.symm) e)
  exact ((hp.filter _).map _).nodup_iff.mpr h1
theorem perm_of_count {a b : List Nat} (h : ∀ c, a.count c = b.count c) : a.Perm b := List.perm_iff_count.mpr h
/-- the sense leads where the deed leads -/
theorem led_done {n : Nat} {deed : List (Nat × Nat × Nat)} {st : SSt} {w : List (List Nat)} {nets : List (Nat × Nat × Int)} {needs : List (List Nat × Nat × Nat)} (hd : deedOk n deed) (e : deedS n deed = some st) (hw : w.length = n) (hs : ∀ w', doneW w deed = some w' → SortW w')
    (hp : nets.Perm (netRows st)) (hm : (∀ y ∈ needs, metW w y = true) ↔ ∀ y ∈ st.nd, metW w y = true) :
    doneW w deed = ledW w (whL st) nets needs ∧ (needs.all (metW w) = true → ∀ g, g < n → ledFine (here0 w (whL st) g) (rowsOf nets g)) := by
  have ok := deedS_ok hd.2 e
  have sm := deedS_small hd e
  rcases deedS_done hd.2 hw e with ⟨m, w', d, v⟩ | ⟨⟨y, hy, hf⟩, d⟩
  · have all : needs.all (metW w) = true := List.all_eq_true.mpr (hm.mpr m)
    have hblk : ∀ g, (List.range w.length).filter (fun p => decide ((whL st)[p]?.getD 0 = g)) = rowAt st.bl g := fun g => asc_ext (List.pairwise_lt_range.filter _) (ok.asc g) fun p => by
      rw [List.mem_filter, List.mem_range, decide_eq_true_eq, hw]
      constructor
      · rintro ⟨h1, h2⟩
        rw [whL_at ok h1] at h2
        exact (whS_iff ok h1).mp h2
      · intro h
        have h1 := ok.lt _ _ h
        exact ⟨h1, by rw [whL_at ok h1]; exact (whS_iff ok h1).mpr h⟩
    have hsum : ∀ g c, rowSum (rowsOf nets g) c = netV st.nt (g, c) := fun g c => by
      have := rowSum_perm (hp.filter fun r => decide (r.1 = g)) c
      exact this.trans (rows_sum ok.nod g c)
    have hrow : ∀ g r, r ∈ rowsOf nets g → r.2.2 ≤ 9 ∧ netV st.nt (g, r.2.1) = r.2.2 := fun g r hr => by
      obtain ⟨h1, h2⟩ := List.mem_filter.mp hr
      have h2 : r.1 = g := by simpa using h2
      obtain ⟨e, he, rfl⟩ := List.mem_map.mp (hp.mem_iff.mp h1)
      have he := (List.mem_filter.mp he).1
      have := absS_le he
      dsimp only at h2 ⊢
      refine ⟨by omega, ?_⟩
      unfold netV
      have : ((g, e.1.2) : Nat × Nat) = e.1 := Prod.ext h2.symm rfl
      rw [this, nAt_mem ok.nod he]
      rfl
    have hl : ∀ g, ledFine (here0 w (whL st) g) (rowsOf nets g) ∧ ∀ c, (((rowsOf nets g).foldl ledF (here0 w (whL st) g)).count c : Int) = (here0 w (whL st) g).count c + rowSum (rowsOf nets g) c := fun g => led_count _ _ (rows_nod hp ok.nod g) fun r hr => by
      obtain ⟨h1, h2⟩ := hrow g r hr
      refine ⟨h1, .inr ?_⟩
      rw [here0_count, hblk, ← h2]
      have := v.val g r.2.1
      unfold valS at this
      omega
    refine ⟨?_, fun _ g _ => (hl g).1⟩
    rw [d]
    unfold ledW
    rw [if_pos all]
    congr 1
    refine List.ext_getElem? fun g => ?_
    by_cases hg : g < n
    · rw [List.getElem?_map, List.getElem?_range (by rw [hw]; exact hg)]
      have hl' : w'.length = n := v.len
      have e1 : w'[g]? = some (rowAt w' g) := by
        unfold rowAt
        rw [List.getElem?_eq_getElem (by omega)]
        rfl
      rw [e1]
      show _ = some (ledRow w (whL st) nets g)
      congr 1
      unfold ledRow
      have hsw : (rowAt w' g).Pairwise (· ≤ ·) := hs w' d _ (List.mem_of_getElem? e1)
      refine sorted_eq hsw (srt_sorted _) ((perm_of_count fun c => ?_).trans (srt_perm _).symm)
      have h1 := (hl g).2 c
      rw [here0_count, hblk, hsum] at h1
      have h2 := v.val g c
      unfold valS cn at h2
      omega
    · rw [List.getElem?_eq_none (by rw [v.len]; omega), List.getElem?_eq_none (by rw [List.length_map, List.length_range]; omega)]
  · have nall : ¬ needs.all (metW w) = true := fun h => by
      have := hm.mp (List.all_eq_true.mp h) y hy
      rw [hf] at this
      cases this
    refine ⟨?_, fun h => absurd h nall⟩
    rw [d]
    unfold ledW
    rw [if_neg nall]
end K10
set_option maxHeartbeats 4000000
/-! Comprehensions whose items are told more closely; rows of nets. -/
namespace K10
open PySem PySem.Spec PyProof.Rows L2 SX
open C8 (Cal pe_c)
section
variable {X : Cx} {σ : L2.St} {H H' : Hp} {e : Expr} {es : List Expr}
theorem we_of_wef {Q : VK} (h : WEF X [] 0 e σ H fun v _ _ H1 => Q v H1) : WE X e σ H Q := .mk fun pins s I => thn (h pins s I (TkH.nil I) (Nat.zero_le _)) fun u s1 ⟨x, H1, I1, r, _, _, q⟩ => ⟨x, H1, I1, r, q⟩
theorem wa_cons {Q : List V → Hp → Prop} (h : WE X e σ H fun v H1 => WA X es σ H1 fun vs H2 => Q (v :: vs) H2) (hs : starEach (e :: es) X.env = (false, eval e X.env) :: starEach es X.env := by exact star_cons (by rfl)) : WA X (e :: es) σ H Q := wa_of (pa_cons (pw e) (paw es) hs) h
theorem wa_nil {Q : List V → Hp → Prop} (h : Q [] H) : WA X [] σ H Q := wa_of pa_nil h
theorem we_tup {k : Nat} {pos : Pos} {Q : VK} (h : WA X es σ H fun vs H1 => vs.length ≤ 1000 ∧ ∀ p, H1 p = none → Q (.ref p) (upd H1 p (.tup vs))) : WE X (.Tuple es k pos) σ H Q := we_of (pe_tup (paw es)) (h.mono fun vs H1 ⟨z, q⟩ => ⟨by rw [sizeLine_eq]; omega, q⟩)
/-- what is walked, the i-th of as told by Y -/
def SRCZ {α : Type} (X : Cx) (wi : TI) (σ : L2.St) (H : Hp) (as : List α) (Y : α → V → Hp → Prop) : Prop := ∀ H1, Same H H1 → ∀ R : It → Hp → Prop,
  (∀ J H2 G Y', Same H1 H2 → Walk J as.length G Y' → (∀ H3, Same H2 H3 → G H3) → (∀ i H3 x H4, i < as.length → Same H2 H3 → Y' i H3 x H4 → Same H3 H4 ∧ ∃ d, as[i]? = some d ∧ Y d x H4) → R J H2) → wi σ H1 R
theorem ent_lcZ {α : Type} {as : List α} {Y : α → V → Hp → Prop} {wi : TI} {g : TG} {tt : TT} {te : TE} {vs : List Nat} {R : Addr → Hp → V → PyData → Prop} (hR : Rst R) (st : SRCZ X wi σ H as Y) (hz : as.length ≤ 100000) (f : α → Bool) (F : α → PyData)
    (step : ∀ D d x H', d ∈ as → Same H H' → H D = none → H' D ≠ none → Y d x H' → ∀ Rr : L2.St → Hp → Prop,
      (∀ σ2, wipe σ2 vs = wipe σ vs → (∀ Q : Bool → Hp → Prop, (∀ H3, Same H' H3 → Q (f d) H3) → tt σ2 H' Q) → (f d = true → ∀ H3, Same H' H3 → ∀ Q : VK, (∀ y H4, Same H3 H4 → R D H4 y (F d) → Q y H4) → te σ2 H3 Q) → Rr σ2 H') → g x (wipe σ vs) H' Rr) :
    ENtR R (tLc wi g tt te vs) σ H ((as.filter f).map F) := fun H1 s1 Q k => st H1 s1 _ fun J H2 G Y' s2 w hG hY D hD => by
  have hHD : H D = none := (s1.trans s2).free hD
  refine lc_it w (fun i H' => Same H2 H' ∧ ∃ xs, H' D = some (.lst xs) ∧ RAll (R D) H' xs (((as.take i).filter f).map F)) ⟨same_new hD, [], upd_same, .nil⟩ (fun i H' _ p => hG H' p.1) (fun i x H3 H4 hi p y => ?_) fun H' p => ?_
  · obtain ⟨p1, xs, p2, p3⟩ := p
    obtain ⟨s4, d, hd, dx⟩ := hY i H3 x H4 hi p1 y
    have hmem : d ∈ as := List.mem_of_getElem? hd
    have p4 : H4 D = some (.lst xs) := s4 _ _ p2
    have hlen : xs.length ≤ 100000 := by
      have e1 := Paired.length p3
      rw [List.length_map] at e1
      have e2 := List.length_filter_le f (as.take i)
      rw [List.length_take] at e2
      omega
    have hp3 : ∀ {H5 : Hp}, Same H3 H5 → RAll (R D) H5 xs (((as.take i).filter f).map F) := fun {H5} s5 => Paired.mapP p3 fun a b r => hR.same r s5
    have htk : as.take (i + 1) = as.take i ++ [d] := by rw [List.take_add_one, hd]; rfl
    refine step D d x H4 hmem ((s1.trans s2).trans (p1.trans s4)) hHD (by rw [p4]; simp) dx _ fun σ2 hw ht he => ⟨hw, ht _ fun H5 s5 => ?_⟩
    cases hf : f d with
    | true =>
      rw [if_pos rfl]
      refine he hf H5 s5 _ fun y H6 s6 ry => ?_
      have s36 : Same H3 H6 := s4.trans (s5.trans s6)
      have p6 : H6 D = some (.lst xs) := s36 _ _ p2
      refine ⟨xs, p6, Nat.lt_of_le_of_lt hlen (by decide), same_mut (p1.trans s36) hD, xs ++ [y], upd_same, ?_⟩
      rw [htk, List.filter_append, List.map_append, List.filter_cons, if_pos hf]
      exact rall_app (hR.chg ry p6) (Paired.mapP (hp3 s36) fun a b r => hR.chg r p6)
    | false =>
      rw [if_neg Bool.false_ne_true]
      refine ⟨p1.trans (s4.trans s5), xs, s5 _ _ p4, ?_⟩
      rw [htk, List.filter_append, List.map_append, List.filter_cons, if_neg (by rw [hf]; exact Bool.false_ne_true)]
      show RAll (R D) H5 xs (((as.take i).filter f).map F ++ [])
      rw [List.append_nil]
      exact hp3 (s4.trans s5)
  · obtain ⟨p1, xs, p2, p3⟩ := p
    rw [List.take_length] at p3
    exact k D xs H' (s2.trans p1) (s2.free hD) p2 p3
/-- [elt for x in iter if c], x in slot j -/
theorem we_lcZ {α : Type} {as : List α} {Y : α → V → Hp → Prop} {R : Addr → Hp → V → PyData → Prop} {x : Str} {px pos : Pos} {iter elt c : Expr} {scope : Scope} {wi : TI} {Q : VK} (j : Nat) (hN : X.N.Nodup) (hR : Rst R) (p : PI X (.Name x px) iter wi) (hs : SRCZ X wi σ H as Y) (hz : as.length ≤ 100000) (f : α → Bool) (F : α → PyData)
    (ht : ∀ d ∈ as, ∀ v H', Same H H' → Y d v H' → TBk X scope ((wipe σ [j]).set j (some v)) H' c (f d)) (he : ∀ D, ∀ d ∈ as, f d = true → ∀ v H' H3, Same H H' → Y d v H' → Same H' H3 → H3 D ≠ none → ∀ (s : Shared) (H0 : Hp) (C : Addr) (cl : List (Str × Addr)) (fp : List Addr), WE (X.blk s H0 scope (compEnvC scope cl C X.env) fp) elt ((wipe σ [j]).set j (some v)) H3 fun y H4 => Same H3 H4 ∧ R D H4 y (F d))
    (k : ∀ p xs H2, Same H H2 → H p = none → H2 p = some (.lst xs) → RAll (R p) H2 xs ((as.filter f).map F) → Q (.ref p) H2)
    (ok : BlkOk X.N X.env.scope scope [(x, j)] := by exact blkOk_by rfl) (hg : ∀ (s : Shared) (H : Hp) (C : Addr) (cl : List (Str × Addr)) (fp : List Addr), PG (X.blk s H scope (compEnvC scope cl C X.env) fp) (.Name x px) (gName j) := by exact fun _ _ _ _ _ => pg_name (by assumption) rfl (.inl rfl)) (hc : X.calm = true := by rfl) (hfs : ∀ x, foldedSetIterable iter X.env x = pure x := by intro _; rfl) :
    WE X (.ListComp elt [⟨.Name x px, iter, [c], 0⟩] scope pos) σ H Q := by
  have z := ent_lcZ (X := X) (σ := σ) (H := H) (wi := wi) (g := gName j) (tt := ttB X scope c) (te := teB X scope elt) (vs := [j]) hR hs hz f F fun D d v H' hd s' hn hn' dx Rr kk => kk _ (by
      show ((wipe σ [j]).set j (some v)).set j none = σ.set j none
      rw [List.set_set]
      show (σ.set j none).set j none = _
      rw [List.set_set]) (fun Q hq => fun s H0 C cl fp => (ht d hd v H' s' dx s H0 C cl fp).run fun H1 s1 => hq H1 s1) fun hf H3 s3 Q hq => fun s H0 C cl fp => (he D d hd hf v H' H3 s' dx s3 (by
        cases e : H' D with
        | none => exact absurd e hn'
        | some u => rw [s3 _ _ e]; simp) s H0 C cl fp).mono fun y H4 ⟨s4, r⟩ => hq y H4 s4 r
  exact we_of (pe_lc hc hN p ok hg (fun s H C cl fp => pts_one (pt_ttB s H C cl fp)) (fun s H C cl fp => pe_teB s H C cl fp) hfs) (z H (Same.refl H) Q k)
variable {rest : List Stmt} {D : Ends}
/-- y = [elt for x in iter if c] -/
theorem wss_setLcZ {α : Type} {as : List α} {Y : α → V → Hp → Prop} {R : Addr → Hp → V → PyData → Prop} {x y : Str} {px py pos spos : Pos} {iter elt c : Expr} {scope : Scope} {wi : TI} (i j : Nat) (hN : X.N.Nodup) (hR : Rst R) (p : PI X (.Name x px) iter wi) (hs : SRCZ X wi σ H as Y) (hz : as.length ≤ 100000) (f : α → Bool) (F : α → PyData)
    (ht : ∀ d ∈ as, ∀ v H', Same H H' → Y d v H' → TBk X scope ((wipe σ [j]).set j (some v)) H' c (f d)) (he : ∀ D, ∀ d ∈ as, f d = true → ∀ v H' H3, Same H H' → Y d v H' → Same H' H3 → H3 D ≠ none → ∀ (s : Shared) (H0 : Hp) (C : Addr) (cl : List (Str × Addr)) (fp : List Addr), WE (X.blk s H0 scope (compEnvC scope cl C X.env) fp) elt ((wipe σ [j]).set j (some v)) H3 fun y H4 => Same H3 H4 ∧ R D H4 y (F d))
    (k : ∀ p xs H2, Same H H2 → H p = none → H2 p = some (.lst xs) → RAll (R p) H2 xs ((as.filter f).map F) → WSs X rest D (σ.set i (some (.ref p))) H2)
    (hy : X.N[i]? = some y := by rfl) (hyl : X.env.scope.names.lookup y = some .local := by rfl) (hsw : swapsWith (.ListComp elt [⟨.Name x px, iter, [c], 0⟩] scope pos) (some (.Name y py)) spos.line X.env = pure true := by rfl)
    (ok : BlkOk X.N X.env.scope scope [(x, j)] := by exact blkOk_by rfl) (hg : ∀ (s : Shared) (H : Hp) (C : Addr) (cl : List (Str × Addr)) (fp : List Addr), PG (X.blk s H scope (compEnvC scope cl C X.env) fp) (.Name x px) (gName j) := by exact fun _ _ _ _ _ => pg_name (by assumption) rfl (.inl rfl)) (hc : X.calm = true := by rfl) (hfs : ∀ x, foldedSetIterable iter X.env x = pure x := by intro _; rfl) :
    WSs X (.Assign [.Name y py] (.ListComp elt [⟨.Name x px, iter, [c], 0⟩] scope pos) spos :: rest) D σ H := by
  have z := ent_lcZ (X := X) (σ := σ) (H := H) (wi := wi) (g := gName j) (tt := ttB X scope c) (te := teB X scope elt) (vs := [j]) hR hs hz f F fun D d v H' hd s' hn hn' dx Rr kk => kk _ (by
      show ((wipe σ [j]).set j (some v)).set j none = σ.set j none
      rw [List.set_set]
      show (σ.set j none).set j none = _
      rw [List.set_set]) (fun Q hq => fun s H0 C cl fp => (ht d hd v H' s' dx s H0 C cl fp).run fun H1 s1 => hq H1 s1) fun hf H3 s3 Q hq => fun s H0 C cl fp => (he D d hd hf v H' H3 s' dx s3 (by
        cases e : H' D with
        | none => exact absurd e hn'
        | some u => rw [s3 _ _ e]; simp) s H0 C cl fp).mono fun y H4 ⟨s4, r⟩ => hq y H4 s4 r
  exact wss_cons (ws_of (ps_setLc hc hN hy hyl hsw p ok hg (fun s H C cl fp => pts_one (pt_ttB s H C cl fp)) (fun s H C cl fp => pe_teB s H C cl fp) hfs) (z H (Same.refl H) _ k))
end
/-- a row of nets; g: its text's token is good -/
def RowAt (g : Bool) (M : Nat) (H : Hp) (a : Addr) (r : Nat × Nat × Int) : Prop := ∃ (o : Obj) (n : Nat) (t t1 t2 : Tok), H a = some (.frz o (.tup [.int (r.1 : Int), .str (S [r.2.1]), .int r.2.2])) ∧ o.cls = .type "tuple" ∧ o.data = .seq [Value.int (r.1 : Int) t1, .str (S [r.2.1]) t, .int r.2.2 t2].toArray n ∧ (g = true → Gtok M t)
theorem RowAt.same {g : Bool} {M : Nat} {H H' : Hp} {a : Addr} {r : Nat × Nat × Int} (h : RowAt g M H a r) (s : Same H H') : RowAt g M H' a r := by
  obtain ⟨o, n, t, t1, t2, h1, h2⟩ := h
  exact ⟨o, n, t, t1, t2, s _ _ h1, h2⟩
theorem RowAt.mono {g : Bool} {M M' : Nat} {H : Hp} {a : Addr} {r : Nat × Nat × Int} (h : RowAt g M H a r) (n : M ≤ M') : RowAt g M' H a r := by
  obtain ⟨o, m, t, t1, t2, h1, h2, h3, h4⟩ := h
  exact ⟨o, m, t, t1, t2, h1, h2, h3, fun e => (h4 e).mono n⟩
theorem RowAt.dp {K : PySem.W.Frag} {g : Bool} {M : Nat} {H : Hp} {a : Addr} {r : Nat × Nat × Int} (h : RowAt g M H a r) : Dp K H (.ref a) (netD r) := by
  obtain ⟨o, n, t, t1, t2, h1, h2⟩ := h
  exact .tup (.inl (.inr ⟨_, h1⟩)) (.cons (.int _) (.cons (.str _) (.cons (.int _) .nil)))
/-- what a sense tells -/
def ToldAt (K : PySem.W.Frag) (g : Bool) (M : Nat) (H : Hp) (a : Addr) (wh : List Nat) (nets : List (Nat × Nat × Int)) (needs : List (List Nat × Nat × Nat)) : Prop := ∃ (wr nr er : Addr) (as : List Addr), SqT K H a [.ref wr, .ref nr, .ref er] ∧ Dp K H (.ref wr) (nD wh) ∧ SqT K H nr (as.map .ref) ∧ Paired (fun q r => RowAt g M H q r) as nets ∧ Dp K H (.ref er) (.tuple (needs.map needD))
theorem ToldAt.same {K : PySem.W.Frag} {g : Bool} {M : Nat} {H H' : Hp} {a : Addr} {wh : List Nat} {nets : List (Nat × Nat × Int)} {needs : List (List Nat × Nat × Nat)} (h : ToldAt K g M H a wh nets needs) (s : Same H H') : ToldAt K g M H' a wh nets needs := by
  obtain ⟨wr, nr, er, as, h1, h2, h3, h4, h5⟩ := h
  exact ⟨wr, nr, er, as, same_seqT (same_tx s) h1, h2.same s, same_seqT (same_tx s) h3, Paired.mapP h4 fun a b r => r.same s, h5.same s⟩
theorem rows_dp {K : PySem.W.Frag} {g : Bool} {M : Nat} {H : Hp} {as : List Addr} {nets : List (Nat × Nat × Int)} (h : Paired (fun q r => RowAt g M H q r) as nets) : DpAll K H (as.map .ref) (nets.map netD) := by
  induction h with
  | nil => exact .nil
  | cons r _ ih => exact .cons r.dp ih
theorem ToldAt.dp {K : PySem.W.Frag} {g : Bool} {M : Nat} {H : Hp} {a : Addr} {wh : List Nat} {nets : List (Nat × Nat × Int)} {needs : List (List Nat × Nat × Nat)} (h : ToldAt K g M H a wh nets needs) : Dp K H (.ref a) (toldD wh nets needs) := by
  obtain ⟨wr, nr, er, as, h1, h2, h3, h4, h5⟩ := h
  exact .tup h1 (.cons h2 (.cons (.tup h3 (rows_dp h4)) (.cons h5 .nil)))
end K10
/-! Each need told has a world of its kind, beside what the others ask for, that meets all but it. -/
namespace K10
theorem joinW_length {a b : List (List Nat)} (h : a.length = b.length) : (joinW a b).length = a.length := by
  unfold joinW
  rw [List.length_zipWith, h, Nat.min_self]
theorem cn_join {a b : List (List Nat)} (h : a.length = b.length) (p c : Nat) : cn (joinW a b) p c = cn a p c + cn b p c := by
  unfold cn rowAt joinW
  rw [List.getElem?_zipWith]
  by_cases hp : p < a.length
  · rw [List.getElem?_eq_getElem hp, List.getElem?_eq_getElem (by omega)]
    simp only [Option.getD_some]
    rw [srt_count, List.count_append]
  · rw [List.getElem?_eq_none (by omega), List.getElem?_eq_none (by omega)]
    rfl
theorem cn_met {n c : Nat} : ∀ (needs : List (List Nat × Nat × Nat)) (u : List (List Nat)), u.length = n → (∀ x ∈ needs, LotOk n x.1) → (∀ p, cn u p c = 0) → (needs.foldl (metStep c) u).length = n ∧ ∀ p, cn (needs.foldl (metStep c) u) p c = 0
  | [], u, hl, _, h => ⟨hl, h⟩
  | x :: r, u, hl, hx, h => by
    rw [List.foldl_cons]
    have hx1 := hx x (List.mem_cons_self ..)
    have hr : ∀ y ∈ r, LotOk n y.1 := fun y hy => hx y (List.mem_cons_of_mem _ hy)
    unfold metStep
    by_cases hc : x.2.1 = c
    · rw [if_pos hc]
      exact cn_met r u hl hr h
    · rw [if_neg hc]
      have hh : x.1.headD 0 < u.length := by
        obtain ⟨a, l, q⟩ := List.exists_cons_of_ne_nil hx1.1
        rw [q, hl]
        exact hx1.2.2 a (by rw [q]; exact List.mem_cons_self ..)
      refine cn_met r _ ((putW_length hh).trans hl) hr fun p => ?_
      rw [cn_put hh, h p, List.count_replicate]
      have : (x.2.1 == c) = false := by simpa using hc
      rw [this]
      simp
def needAt (l : List (List Nat × Nat × Nat)) (i : Nat) : List Nat × Nat × Nat := l[i]?.getD ([], 0, 0)
def missed (mine : List (List Nat × Nat × Nat)) (w : List (List Nat)) : List Nat := (List.range mine.length).filter fun i => !metW w (needAt mine i)
theorem nodup_at {α : Type} {l : List α} (h : l.Nodup) {i j : Nat} {a : α} (hi : l[i]? = some a) (hj : l[j]? = some a) : i = j := by
  obtain ⟨i1, i2⟩ := List.getElem?_eq_some_iff.mp hi
  obtain ⟨j1, j2⟩ := List.getElem?_eq_some_iff.mp hj
  apply Classical.byContradiction
  intro ne
  have := List.pairwise_iff_getElem.mp h
  rcases Nat.lt_or_gt_of_ne ne with q | q
  · exact this i j i1 j1 q (i2.trans j2.symm)
  · exact this j i j1 i1 q (j2.trans i2.symm)
theorem toldN_nodup {gs : Grt} (h : (gs.map (·.1)).Nodup) : (toldN gs).Nodup := by
  unfold toldN List.Nodup at *
  rw [List.pairwise_map] at h ⊢
  exact (h.filter _).imp fun {a b} ne e => ne (by
    have e1 := congrArg (fun z : List Nat × Nat × Nat => z.1) e
    have e2 := congrArg (fun z : List Nat × Nat × Nat => z.2.1) e
    exact Prod.ext e1 e2)
theorem told_lot {n : Nat} (hn : 0 < n) {deed : List (Nat × Nat × Nat)} {st : SSt} (hd : deedOk n deed) (e : deedS n deed = some st) : ∀ y ∈ toldN (grtAll st.nd), LotOk n y.1 ∧ y.2.1 ∈ LET ∧ 1 ≤ y.2.2 ∧ ∃ x ∈ deed, x.1 = y.2.1 := fun y hy => by
  have hN := nd_ok hn deed.reverse (st := st) (by simpa using hd.2) (by simpa using e)
  rw [List.reverse_reverse] at hN
  have G := grok_all st.nd
  unfold toldN at hy
  obtain ⟨g, hg, rfl⟩ := List.mem_map.mp hy
  have m := G.from' g (List.mem_filter.mp hg).1
  obtain ⟨a, b, c⟩ := hN.one _ m
  exact ⟨a, b, c, hN.kind _ m⟩
/-- the needs told: their numbers -/
theorem told_sum {n : Nat} (hn : 0 < n) {deed : List (Nat × Nat × Nat)} {st : SSt} (hd : deedOk n deed) (e : deedS n deed = some st) : ndSum (toldN (grtAll st.nd)) ≤ 3 ∧ (toldN (grtAll st.nd)).length ≤ 3 := by
  obtain ⟨f1, _⟩ := few hn hd e
  have hN := nd_ok hn deed.reverse (st := st) (by simpa using hd.2) (by simpa using e)
  rw [List.reverse_reverse] at hN
  have := grtAll_length st.nd
  have := nL_le deed
  have := hd.1
  have := hN.len
  constructor
  · refine Nat.le_trans ?_ f1
    unfold ndSum toldN grSum
    rw [List.map_map]
    generalize grtAll st.nd = gs
    generalize toldOne gs = q
    induction gs with
    | nil => exact Nat.le_refl _
    | cons z zs ih =>
      rw [List.filter_cons]
      split
      · rw [List.map_cons, List.map_cons, List.sum_cons, List.sum_cons]
        exact Nat.add_le_add (Nat.le_refl _) ih
      · rw [List.map_cons, List.sum_cons]; omega
  · unfold toldN
    rw [List.length_map]
    have := List.length_filter_le (toldOne (grtAll st.nd)) (grtAll st.nd)
    omega
/-- each need is parted from the others of its kind -/
theorem parted_at {n : Nat} (hn : 0 < n) {deed : List (Nat × Nat × Nat)} {st : SSt} {needs : List (List Nat × Nat × Nat)} (hd : deedOk n deed) (e : deedS n deed = some st) (hp : needs.Perm (toldN (grtAll st.nd))) {c i : Nat} (hi : i < (needs.filter fun y => decide (y.2.1 = c)).length) :
    ∃ m, m < 4 ∧ ∃ a ∈ aloneW n c m, missed (needs.filter fun y => decide (y.2.1 = c)) (joinW a (metAll n needs c)) = [i] ∧ doneW (joinW a (metAll n needs c)) deed = none := by
  have lots := told_lot hn hd e
  have nd : (needs.filter fun y => decide (y.2.1 = c)).Nodup := (hp.nodup_iff.mpr (toldN_nodup (grok_all st.nd).nod)).filter _
  generalize hmine : needs.filter (fun y => decide (y.2.1 = c)) = mine at *
  have hmem : ∀ y ∈ mine, y ∈ toldN (grtAll st.nd) ∧ y.2.1 = c := fun y hy => by
    rw [← hmine] at hy
    obtain ⟨h1, h2⟩ := List.mem_filter.mp hy
    exact ⟨hp.mem_iff.mp h1, by simpa using h2⟩
  have hki : mine[i]? = some mine[i] := List.getElem?_eq_getElem hi
  obtain ⟨k1, k2⟩ := hmem _ (List.getElem_mem hi)
  obtain ⟨f, f1, f2, f3⟩ := parted hn hd e k1
  obtain ⟨a, a1, a2, a3⟩ := alone_has n c _ f rfl
  have bs := cn_met (n := n) (c := c) needs (List.replicate n []) (by simp) (fun x hx => (lots x (hp.mem_iff.mp hx)).1) fun p => by
    unfold cn rowAt
    rw [List.getElem?_replicate]
    split <;> rfl
  have bl : (metAll n needs c).length = n := bs.1
  have hcn : ∀ p, p < n → cn (joinW a (metAll n needs c)) p c = f p := fun p hp => by
    rw [cn_join (by omega), show cn (metAll n needs c) p c = 0 from bs.2 p]
    unfold cn
    rw [a3 p hp, List.count_replicate_self]
    omega
  have hsum : ∀ l : List Nat, (∀ p ∈ l, p < n) → sumAt (joinW a (metAll n needs c)) c l = fS f l := by
    intro l
    induction l with
    | nil => intro _; rfl
    | cons p l ih =>
      intro h
      rw [sumAt_cons, fS_cons, ih fun q hq => h q (List.mem_cons_of_mem _ hq), hcn p (h p (List.mem_cons_self ..))]
  have hmet : ∀ y ∈ mine, metW (joinW a (metAll n needs c)) y = decide (y.2.2 ≤ fS f y.1) := fun y hy => by
    obtain ⟨h1, h2⟩ := hmem y hy
    unfold metW
    rw [h2, hsum _ (lots y h1).1.2.2]
  refine ⟨_, by omega, a, a1, ?_, ?_⟩
  · unfold missed
    refine asc_ext (List.pairwise_lt_range.filter _) (by simp) fun j => ?_
    rw [List.mem_filter, List.mem_range, List.mem_singleton]
    constructor
    · rintro ⟨h1, h2⟩
      have hj : mine[j]? = some mine[j] := List.getElem?_eq_getElem h1
      unfold needAt at h2
      rw [hj, Option.getD_some, hmet _ (List.getElem_mem h1)] at h2
      apply Classical.byContradiction
      intro ne
      obtain ⟨q1, q2⟩ := hmem _ (List.getElem_mem h1)
      have := f3 mine[j] q1 (fun eq => ne (nodup_at nd hj (eq ▸ hki))) (by rw [q2, k2])
      simp at h2
      omega
    · rintro rfl
      refine ⟨hi, ?_⟩
      unfold needAt
      rw [hki, Option.getD_some, hmet _ (List.getElem_mem hi)]
      simp
      omega
  · rcases deedS_done hd.2 (w := joinW a (metAll n needs c)) ((joinW_length (by omega)).trans a2) e with ⟨m, _⟩ | ⟨_, d⟩
    · exfalso
      have hN := nd_ok hn deed.reverse (st := st) (by simpa using hd.2) (by simpa using e)
      have := (told_met (fun x hx => (hN.one x hx).1) (joinW a (metAll n needs c))).mp m _ k1
      rw [hmet _ (List.getElem_mem hi)] at this
      have := of_decide_eq_true this
      omega
    · exact d
end K10
set_option maxHeartbeats 4000000
/-! sense_of. -/
namespace K10
open PySem PySem.Spec PyProof.Rows L2 SX
open C8 (Cal pe_c)
theorem netD_inj {a b : Nat × Nat × Int} (h : netD a = netD b) : a = b := by
  obtain ⟨a1, a2, a3⟩ := a
  obtain ⟨b1, b2, b3⟩ := b
  simp at h
  obtain ⟨h1, h2, h3⟩ := h
  have e1 : a1 = b1 := by omega
  have e2 : a2 = b2 := h2
  rw [e1, e2, h3]
theorem needD_inj {a b : List Nat × Nat × Nat} (h : needD a = needD b) : a = b := by
  obtain ⟨a1, a2, a3⟩ := a
  obtain ⟨b1, b2, b3⟩ := b
  simp at h
  obtain ⟨h1, h2, h3⟩ := h
  have e1 : a1 = b1 := by
    have h1' : a1.map iN = b1.map iN := by simpa using h1
    clear h1 h2 h3
    induction a1 generalizing b1 with
    | nil =>
      cases b1 with
      | nil => rfl
      | cons _ _ => simp at h1'
    | cons x a1 ih =>
      cases b1 with
      | nil => simp at h1'
      | cons y b1 =>
        simp at h1'
        rw [ih b1 (by simpa using h1'.2)]
        congr 1
        omega
  have e2 : a2 = b2 := h2
  have e3 : a3 = b3 := by omega
  rw [e1, e2, e3]
theorem perm_map_ex {α β : Type} [DecidableEq α] {f : α → β} : ∀ {zs : List β} {l : List α}, zs.Perm (l.map f) → ∃ l' : List α, zs = l'.map f ∧ l'.Perm l
  | [], l, h => by
    have : l.map f = [] := List.nil_perm.mp h
    have : l = [] := List.map_eq_nil_iff.mp this
    subst this
    exact ⟨[], rfl, .nil⟩
  | z :: zs, l, h => by
    have hz : z ∈ l.map f := h.mem_iff.mp (List.mem_cons_self ..)
    obtain ⟨a, ha, rfl⟩ := List.mem_map.mp hz
    have p1 : l.Perm (a :: l.erase a) := List.perm_cons_erase ha
    have p2 : (f a :: zs).Perm (f a :: (l.erase a).map f) := h.trans (p1.map f)
    obtain ⟨l', e, p⟩ := perm_map_ex ((List.perm_cons _).mp p2)
    exact ⟨a :: l', by rw [e]; rfl, (p.cons a).trans p1.symm⟩
theorem map_inj_eq {α β : Type} {f : α → β} (hf : ∀ a b, f a = f b → a = b) : ∀ {l m : List α}, l.map f = m.map f → l = m
  | [], [], _ => rfl
  | [], _ :: _, h => by simp at h
  | _ :: _, [], h => by simp at h
  | a :: l, b :: m, h => by
    rw [List.map_cons, List.map_cons] at h
    injection h with h1 h2
    rw [hf a b h1, map_inj_eq hf h2]
theorem sortD_perm (ds : List PyData) : (sortD ds).Perm ds := List.mergeSort_perm ..
/-- the rows as they come out sorted -/
theorem sorted_rows {K : PySem.W.Frag} {g : Bool} {M : Nat} {H : Hp} {xs : List V} {rows : List (Nat × Nat × Int)} {D : Addr} (h : RAll (fun H x d => ∃ q r, x = .ref q ∧ RowAt g M H q r ∧ d = netD r) H xs (rows.map netD)) :
    ∃ (as : List Addr) (nets : List (Nat × Nat × Int)), sortV xs (rows.map netD) = as.map .ref ∧ Paired (fun q r => RowAt g M H q r) as nets ∧ sortD (rows.map netD) = nets.map netD ∧ nets.Perm rows := by
  have hl : xs.length = (rows.map netD).length := Paired.length h
  have hz := zip_snd hl
  have e3 : ((xs.zip (rows.map netD)).mergeSort (PySem.W.dataLe false Prod.snd)).map Prod.snd = sortD (rows.map netD) := by
    unfold sortD
    have e4 : ((xs.zip (rows.map netD)).mergeSort (PySem.W.dataLe false Prod.snd)).map Prod.snd = ((xs.zip (rows.map netD)).map Prod.snd).mergeSort (PySem.W.dataLe false id) := PySem.W.sort_maps (s := PySem.W.dataLe false id) Prod.snd (fun a _ b _ => rfl)
    rw [e4, hz]
  have all : ∀ z ∈ (xs.zip (rows.map netD)).mergeSort (PySem.W.dataLe false Prod.snd), ∃ q r, z.1 = V.ref q ∧ RowAt g M H q r ∧ z.2 = netD r := fun z hz' => by
    have hm : z ∈ xs.zip (rows.map netD) := (List.mergeSort_perm _ _).mem_iff.mp hz'
    clear e3 hz hz' hl
    generalize rows.map netD = ds at h hm
    unfold RAll at h
    induction h with
    | nil => simp at hm
    | @cons x d xs ds r _ ih =>
      rw [List.zip_cons_cons] at hm
      rcases List.mem_cons.mp hm with rfl | hm
      · exact r
      · exact ih hm
  have split : ∀ zs : List (V × PyData), (∀ z ∈ zs, ∃ q r, z.1 = V.ref q ∧ RowAt g M H q r ∧ z.2 = netD r) → ∃ (as : List Addr) (nets : List (Nat × Nat × Int)), zs.map Prod.fst = as.map V.ref ∧ Paired (fun q r => RowAt g M H q r) as nets ∧ zs.map Prod.snd = nets.map netD := by
    intro zs
    induction zs with
    | nil => intro _; exact ⟨[], [], rfl, .nil, rfl⟩
    | cons z zs ih =>
      intro hz
      obtain ⟨q, r, e1, e2, e4⟩ := hz z (List.mem_cons_self ..)
      obtain ⟨as, nets, f1, f2, f3⟩ := ih fun y hy => hz y (List.mem_cons_of_mem _ hy)
      exact ⟨q :: as, r :: nets, by rw [List.map_cons, List.map_cons, e1, f1], .cons e2 f2, by rw [List.map_cons, List.map_cons, e4, f3]⟩
  obtain ⟨as, nets, f1, f2, f3⟩ := split _ all
  refine ⟨as, nets, f1, f2, by rw [← e3, f3], ?_⟩
  have hp : (nets.map netD).Perm (rows.map netD) := by rw [← f3, e3]; exact sortD_perm _
  obtain ⟨l', q1, q2⟩ := perm_map_ex hp
  rw [map_inj_eq (fun a b => netD_inj) q1]
  exact q2
theorem enumD_rows (bl : List (List Nat)) : enumD (bl.map nD) = (List.range bl.length).map fun a => .tuple [iN a, nD (rowAt bl a)] := by
  refine List.ext_getElem? fun i => ?_
  by_cases hi : i < bl.length
  · have e : (bl.map nD)[i]? = some (nD (rowAt bl i)) := by
      rw [List.getElem?_map]
      unfold rowAt
      rw [List.getElem?_eq_getElem hi]
      rfl
    rw [enumD_get e, List.getElem?_map, List.getElem?_range hi]
    rfl
  · rw [List.getElem?_eq_none (by rw [enumD_len, List.length_map]; omega), List.getElem?_eq_none (by rw [List.length_map, List.length_range]; omega)]
/-- the told nets, needs: sorted -/
def NetsOf (st : SSt) (nets : List (Nat × Nat × Int)) : Prop := sortD ((netRows st).map netD) = nets.map netD ∧ nets.Perm (netRows st)
def NeedsOf (st : SSt) (needs : List (List Nat × Nat × Nat)) : Prop := sortD ((toldN (grtAll st.nd)).map needD) = needs.map needD ∧ needs.Perm (toldN (grtAll st.nd))
theorem needs_of (st : SSt) : ∃ needs, NeedsOf st needs := by
  obtain ⟨l, e, p⟩ := perm_map_ex (sortD_perm ((toldN (grtAll st.nd)).map needD))
  exact ⟨l, e, p⟩
section
variable {X : Cx} {σ : L2.St} {H H' : Hp} {pos p1 p2 p3 p4 : Pos} {kk : Nat} {rest : List Stmt} {D : Ends}
theorem wt_isNV {x : Str} {v : V} {j : Nat} {Q : Bool → Hp → Prop} (i : Nat) (hσ : σ[i]? = some (some v)) (q : Q (decide (v = .non)) H) (hN : X.N[i]? = some x := by rfl) (hv : Vis X.env.scope x := by first | exact Or.inl rfl | exact Or.inr (Or.inl rfl) | exact Or.inr (Or.inr rfl)) (hd1 : (x == ("__debug__" : Str)) = false := by decide) (hd2 : (x == ("__classdict__" : Str)) = false := by decide) : WT X (.Compare (.Name x p1) [.Is] [.Constant .none j p2] pos) σ H Q :=
  wt_of (pt_cmpR op_isN (pe_var hN hv hd1 hd2) pe_non rfl) ⟨v, hσ, rfl, _, rfl, q⟩
theorem wss_ifW {c : Expr} {body orelse : List Stmt} (h : WT X c σ H fun b H1 => WSs X (if b = true then body else orelse) { D with nx := WSs X rest D } σ H1) : WSs X (.If c body orelse pos :: rest) D σ H := wss_cons (ws_of (ps_if (ptw c) (pssw body) (pssw orelse)) (h.mono fun b H1 q => by
  cases b with
  | true => rw [if_pos rfl] at q ⊢; exact q
  | false => rw [if_neg Bool.false_ne_true] at q ⊢; exact q))
/-- a, b, c = a tuple in a slot -/
theorem wss_unpack3 {x y z n : Str} {a : Addr} {v1 v2 v3 : V} {p5 : Pos} (s i j k : Nat) (hNd : X.N.Nodup) (hσ : σ[s]? = some (some (.ref a))) (hq : SqT X.K H a [v1, v2, v3]) (q : WSs X rest D (((σ.set i (some v1)).set j (some v2)).set k (some v3)) H)
    (hs : X.N[s]? = some n := by rfl) (hi : X.N[i]? = some x := by rfl) (hj : X.N[j]? = some y := by rfl) (hk : X.N[k]? = some z := by rfl) (lx : Loc X.env.scope x := by first | exact .inl rfl | exact .inr rfl) (ly : Loc X.env.scope y := by first | exact .inl rfl | exact .inr rfl) (lz : Loc X.env.scope z := by first | exact .inl rfl | exact .inr rfl)
    (fx : X.fn x = true ∨ X.env.scope.names.lookup x = some .local := by first | exact .inl rfl | exact .inr rfl) (fy : X.fn y = true ∨ X.env.scope.names.lookup y = some .local := by first | exact .inl rfl | exact .inr rfl) (fz : X.fn z = true ∨ X.env.scope.names.lookup z = some .local := by first | exact .inl rfl | exact .inr rfl) (hc : X.calm = true := by rfl)
    (hv : Vis X.env.scope n := by first | exact Or.inl rfl | exact Or.inr (Or.inl rfl) | exact Or.inr (Or.inr rfl)) (hd1 : (n == ("__debug__" : Str)) = false := by decide) (hd2 : (n == ("__classdict__" : Str)) = false := by decide)
    (hsw : swapsWithSole [.Tuple [.Name x p1, .Name y p2, .Name z p3] kk p4] (.Name n p5) pos.line X.env = pure false := by rfl) (hw : swappedStores [.Tuple [.Name x p1, .Name y p2, .Name z p3] kk p4] (.Name n p5) X.env = pure none := by rfl)
    (h1 : (assignEach [.Tuple [.Name x p1, .Name y p2, .Name z p3] kk p4] X.env).map (·.2) = [assign (.Tuple [.Name x p1, .Name y p2, .Name z p3] kk p4) X.env] := by rfl) : WSs X (.Assign [.Tuple [.Name x p1, .Name y p2, .Name z p3] kk p4] (.Name n p5) pos :: rest) D σ H :=
  wss_cons (ws_of (ps_asg (pe_var hs hv hd1 hd2) (pg3 i j k hNd hi hj hk lx ly lz fx fy fz hc) hsw hw h1) ⟨.ref a, hσ, a, _, rfl, hq, rfl, v1, _, rfl, v2, _, rfl, v3, _, rfl, rfl, q⟩)
end
section
variable {X : Cx} {σ : L2.St} {H H' : Hp} {e : Expr} {pos p : Pos} {rest : List Stmt} {D : Ends}
theorem wss_retW (h : WE X e σ H fun v H1 => D.rt v H1) : WSs X (.Return (some e) pos :: rest) D σ H := wss_cons (ws_of (ps_ret (pw e)) h)
/-- tuple(e), e a list: the items -/
theorem we_tupleW {Q : VK} (h : WE X e σ H fun v H1 => ∃ l xs, v = .ref l ∧ H1 l = some (.lst xs) ∧ ∀ q, H1 q = none → Q (.ref q) (upd H1 q (.tup xs))) (hm : X.mg "tuple" = none)
    (hg : Gl X "tuple" := by rfl) (he : starEach [e] X.env = (false, eval e X.env) :: starEach [] X.env := by exact star_cons (by rfl)) (hpl : (backTo pos (starEach [] X.env)).any (·.1) = false := by exact star_any (by rfl)) : WE X (.Call (.Name "tuple" p) [e] [] pos) σ H Q :=
  we_of (pe_callTy call_tuple_of hg hm (by decide +kernel) (pa_cons (pw e) pa_nil he) (by decide) (by decide) he hpl) (h.mono fun v H1 ⟨l, xs, e1, hx, k⟩ => ⟨l, xs, by rw [e1], .inl ⟨.of hx, k⟩⟩)
theorem lcr_fmE {elt iter c tg : Expr} {scope : Scope} {α : Type} {as : List α} {enc : α → PyData} {ds ls : List PyData} {R : Addr → Hp → V → PyData → Prop} {g : TG} (hR : Rok X.K R) (own : List (Str × Nat)) (hs : SRC X σ H tg iter ds) (hds : ds = as.map enc) (hg : ∀ (s : Shared) (H : Hp) (C : Addr) (cl : List (Str × Addr)) (fp : List Addr), PG (X.blk s H scope (compEnvC scope cl C X.env) fp) tg g)
    (f : α → Bool) (F : α → PyData) (hz : as.length ≤ 100000)
    (step : ∀ D d x H', d ∈ as → Same H H' → H D = none → H' D ≠ none → Dp X.K H' x (enc d) → ∀ Rr : L2.St → Hp → Prop,
      (∀ σ2, wipe σ2 (own.map (·.2)) = wipe σ (own.map (·.2)) → TBk X scope σ2 H' c (f d) → (f d = true → ∀ H3, Same H' H3 → ∀ (s : Shared) (H0 : Hp) (C : Addr) (cl : List (Str × Addr)) (fp : List Addr), WE (X.blk s H0 scope (compEnvC scope cl C X.env) fp) elt σ2 H3 fun y H4 => Same H3 H4 ∧ R D H4 y (F d)) → Rr σ2 H') → g x (wipe σ (own.map (·.2))) H' Rr) (e : (as.filter f).map F = ls)
    (ok : BlkOk X.N X.env.scope scope own := by exact blkOk_by rfl) : LcR X σ H elt tg iter [c] scope ls := by
  subst hds e
  exact lcr_fm hR own hs ok hg f F hz step
end
section
variable {P : Program} {w : World} {K : PySem.W.Frag} {mg : Str → Option Value} {base : Heap}
def spSenseOf (P : Program) (w : World) (K : PySem.W.Frag) (g : Bool) : Sp := fun vs H Q _ => ∃ (M : Nat) (sv : V) (o : Option SSt) (n : Nat), vs = [sv] ∧ OptSt P w K g M H o sv ∧ (∀ st, o = some st → SmS n st ∧ ∀ y ∈ st.nd, y.1.length ≤ 100) ∧ 2 ≤ n ∧
  match o with
  | none => ∀ H', Same H H' → Q .non H'
  | some st => ∀ q H' nets needs, Same H H' → ToldAt K g M H' q (whL st) nets needs → NetsOf st nets → NeedsOf st needs → Q (.ref q) H'
theorem c_sense_of (V : Ev mg) (G : Gd K mg "sense_of" s_sense_of) (g : Bool) (Ct : Cal P w K mg base 13 "needs_told" (spF K P_told) []) : Cal P w K mg base 14 "sense_of" (spSenseOf P w K g) [] := by
  obtain ⟨f, fd, F, gg⟩ := G.ex
  refine ⟨f, fd, p_sense_of, [], ?_, gg, F.kp, F.bindsN (fun _ _ _ _ _ _ us hl => match us, hl with | [_], _ => rfl), .nil⟩
  refine F.ok sc_sense_of (fun vs H Q E ⟨_, _, _, _, h, _⟩ => by rw [h]; rfl) fun cdv A outer s H vs Q E hr h => ?_
  obtain ⟨M, sv, o, n, rfl, hsv, hsm, hn2, hk⟩ := h
  refine ⟨_, PSs.nox (pssw _), ?_⟩
  have hN := sc_sense_of.nd
  have hu := room_u hr
  refine wss_ifW (wt_isNV 0 rfl ?_)
  cases o with
  | none =>
    obtain rfl : sv = .non := hsv
    rw [if_pos (by simp)]
    exact wss_ret ee_none fun v H1 s1 d1 => by rw [dp_none d1]; exact hk H1 s1
  | some st =>
    obtain ⟨a, rfl, b, d, nd, od, xs, q1, q2, q3, q4, q5, q6⟩ := hsv
    obtain ⟨hst, hlots⟩ := hsm st rfl
    rw [if_neg (by simp)]
    refine wss_nil ?_
    refine wss_unpack3 0 1 2 3 hN rfl q1 ?_
    refine wss_setN 4 hN (en_lst ea_nil) fun wl ys H1 s1 hw0 hw1 hys => ?_
    cases dpAll_nil hys
    have hn6 := hst.n6
    have hbl := hst.blk
    have s1w : Same H H1 := s1
    have sHw : ∀ {zs : List L2.V}, Same H (upd H1 wl (.lst zs)) := fun {zs} => same_mut s1 hw0
    -- for place in range(len(blocks)): where.append(..)
    refine wss_forV (H0 := H) (g := gName 5) (ds := (List.range n).map fun (i : Nat) => PyData.int (i : Int)) PassesOwn.never s1 (srv_rangeN (n := n) (EE.is (ee_lenS (ds := st.bl.map nD) (ee_var 1 rfl q2) rfl (by rw [List.length_map]; omega) V.len) (by rw [List.length_map, hbl])) V.range (by omega)) (pgn 5 hN)
      (fun i σ' H' => Same H H' ∧ ∃ (x5 : Option L2.V), σ' = [some (.ref a), some (.ref b), some (.ref d), some (.ref nd), some (.ref wl), x5, none, none, none, none] ∧ H' wl = some (.lst ((List.range i).map fun p => L2.V.int ((whS st p : Nat) : Int)))) ?_ ?_ ?_ ?_
    · exact fun H2 s2 => ⟨s1.trans s2, none, rfl, s2 _ _ hw1⟩
    · exact fun i σ' H' p => p.1
    · rintro i dd x σ' H' H'' hdd ⟨s2, x5, rfl, hw⟩ s3 dx
      rw [List.getElem?_map] at hdd
      obtain ⟨i', hi', rfl⟩ := Option.map_eq_some_iff.mp hdd
      have hin : i < n := by
        have := (List.getElem?_eq_some_iff.mp hi').1
        rwa [List.length_range] at this
      rw [List.getElem?_range hin] at hi'
      obtain rfl := Option.some.inj hi'
      have s23 := s2.trans s3
      obtain ⟨at', a1, a2, a3⟩ := whS_filter hst.ok hin
      have hat : whS st i = at' := (whS_iff hst.ok hin).mpr a2
      refine wss_append 4 rfl (s3 _ _ hw) (by rw [List.length_map, List.length_range]; omega) (ee_ixL (j := 0) (d := iN at') (EN.ee (en_lc hN (lcr_fmE (as := List.range st.bl.length) (enc := fun a => .tuple [iN a, nD (rowAt st.bl a)]) (ls := [iN at']) (g := gTup K 2 (gCons (gName 8) (gCons (gName 9) gNil))) rok_imm [("at", 8), ("lot", 9)] (src_enumT (ee_var 1 rfl (q2.same s23)) V.enum) (enumD_rows st.bl) (fun _ _ _ _ _ => pg2 8 9 hN) (fun a => decide (i ∈ rowAt st.bl a)) (fun a => iN a) (by rw [List.length_range]; omega)
          (fun D dd' x' H5 hd' s5 _ _ dx' Rr kk => g2 dx' fun w1 w2 e1 e2 => kk _ rfl (fun s0 H0' C cl fp => ET.is (et_inI (ns := (rowAt st.bl dd').map fun (k : Nat) => (k : Int)) (ee_var 5 rfl (dx.same s5)) (ee_var 9 rfl e2) (.inl (by rw [List.map_map]; rfl))) (by rw [Bool.eq_iff_iff]; simp [mem_natCast])) fun hf H6 s6 s0 H0' C cl fp => EE.at (ee_var 8 rfl e1) s6 fun y H7 s7 dy => ⟨s7, dy, rfl⟩) (by rw [a3]; rfl)))) (ee_int (i := (0 : Nat))) rfl) fun v3 H3 s3' d3 => wss_nil ⟨same_mut (s23.trans s3') hw0, _, rfl, ?_⟩
      rw [upd_same, List.range_succ, List.map_append, dp_int d3, ← hat]
      rfl
    · rintro σ' H2 ⟨s2, x5, rfl, hw⟩
      rw [List.length_map, List.length_range] at hw
      have hzx : ∀ {H3 : Hp}, Same H H3 → DZ (cxOf CX0 P w K mg base n_sense_of "sense_of" (defScope s_sense_of) f cdv A outer s H E).nox H3 d od xs := fun s3 => ⟨(netx_ddk q6 hst.ok.nod).same s3, s3 _ _ q4, q5⟩
      have hxlen := netx_len q6
      have hnt := hst.nt
      -- told = [(pair[0], pair[1], nets[pair]) for pair in nets if nets[pair] != 0]
      have hwx : (cxOf CX0 P w K mg base n_sense_of "sense_of" (defScope s_sense_of) f cdv A outer s H E).nox.prog = P := rfl
      refine wss_setLcZ (as := st.nt) (Y := fun e v H3 => ∃ q, v = .ref q ∧ KeyAt g M H3 q e.1) (R := fun D H3 v dd => ∃ q r, v = .ref q ∧ RowAt g M H3 q r ∧ dd = netD r) (wi := fun σ' H1 R => σ'[2]? = some (some (.ref d)) ∧ H1 d = some (.frz od (.ext (dPhi P w d xs))) ∧ R (ItD P w d od xs) H1) 6 7 hN ⟨?_, ?_⟩ ?_ ?_ (by omega) (fun e => !decide (e.2 = 0)) (fun e => netD (e.1.1, e.1.2, e.2)) ?_ ?_ ?_
      · rintro D H3 H4 x dd ⟨q, r, e1, e2, e3⟩ s3
        exact ⟨q, r, e1, e2.same s3, e3⟩
      · rintro D H3 x dd ys zs ⟨q, r, e1, e2, e3⟩ hD
        obtain ⟨o, m, t, t1, t2, h1, h2⟩ := e2
        refine ⟨q, r, e1, ⟨o, m, t, t1, t2, ?_, h2⟩, e3⟩
        rw [upd_ne]
        · exact h1
        · intro e
          rw [e, hD] at h1
          cases h1
      · refine ⟨fun pins s' σ' H3 R I ⟨h1, h2, h3⟩ => ?_⟩
        refine thn ((pe_var (X := (cxOf CX0 P w K mg base n_sense_of "sense_of" (defScope s_sense_of) f cdv A outer s H E).nox) (i := 2) (x := "nets") rfl (by first | exact .inl rfl | exact .inr (.inl rfl) | exact .inr (.inr rfl)) (by decide) (by decide)).run pins s' σ' H3 (fun v H4 => v = .ref d ∧ H4 = H3) I ⟨.ref d, h1, rfl, rfl⟩) fun u s2' ⟨y, H4, I2, ry, ey, eh⟩ => ?_
        subst ey eh
        obtain rfl : u = Value.ref d := ry
        obtain ⟨hgd, hx, es, ep, hdt, hsz, ent⟩ := frz_ext rfl rfl I2 h2
        refine iter_keys q5 hgd hx hdt (pi_one (tk := s2'.toks) I2 _ (turn_D _ hdt) ⟨_, Heap.get?_push_size _ rfl, rfl, ?_⟩ h3)
        rw [hsz] <;> rfl
      · intro H3 s3 R k
        refine ⟨rfl, s3 _ _ (s2 _ _ q4), k _ H3 (fun H => H d = some (.frz od (.ext (dPhi P w d xs)))) (fun i H x H' => H' = H ∧ ∃ e, xs[i]? = some e ∧ x = .ref e.2.1) (Same.refl H3) ?_ (fun H4 s4 => s4 _ _ (s3 _ _ (s2 _ _ q4))) fun i H4 x H5 hi s4 ⟨e1, e, e2, e3⟩ => ?_⟩
        · rw [← hxlen]
          exact ⟨fun _ _ hi q => ⟨q, hi⟩, fun _ q => ⟨q, Nat.le_refl _⟩, fun _ _ _ _ _ _ y => y⟩
        · subst e1
          obtain ⟨nx, hnx, r1, r2, r3⟩ := paired_get q6 e2
          exact ⟨Same.refl _, nx, hnx, e.2.1, e3, r3.same (s2.trans (s3.trans s4))⟩
      · rintro e he v H3 s3 ⟨q, rfl, ky⟩ s0 H0' C cl fp
        have hval : entAt xs (keyD e.1) = some e.2 := by
          rw [netx_at q6]
          exact nAt_mem hst.ok.nod he
        exact et_neI (ee_dix (ks := [iN e.1.1, tx [e.1.2]]) hu 2 rfl (hzx (s2.trans s3)).dd.blk (ee_var 7 rfl ky.dp) (ok_key e.1) hval) ee_int
      · rintro D e he hf v H3 H4 s3 ⟨q, rfl, ky⟩ s4 hD s0 H0' C cl fp
        have hval : entAt xs (keyD e.1) = some e.2 := by
          rw [netx_at q6]
          exact nAt_mem hst.ok.nod he
        have ky4 := ky.same s4
        obtain ⟨t, t1, kt, gt⟩ := ky4.kt
        refine we_of_wef (wef_tupZ (waf_cons (wef_ixK (i := 0) (wef_v 7 rfl fun u0 M0 r0 n0 => ⟨rfl, kt, wef_int fun t' M1 n1 => ⟨rfl, Same.refl _, waf_cons (wef_ixK (i := 1) (wef_v 7 rfl fun u2 M2 r2 n2 => ⟨rfl, kt, wef_int fun t'' M3 n3 => ⟨rfl, Same.refl _, waf_cons ((WI.at (wi_of (ee_dix (ks := [iN e.1.1, tx [e.1.2]]) hu 2 rfl (hzx (s2.trans (s3.trans s4))).dd.blk (ee_var 7 rfl ky4.dp) (ok_key e.1) hval)) (Nat.le_refl _) (Same.refl _)).mono fun v4 u4 M4 H5 hM4 ⟨s5, e4, ⟨t4, f4⟩, n4⟩ => waf_nil fun M5 n5 => ⟨by simp, fun q' hq' => ?_⟩)⟩⟩) rfl rfl)⟩⟩) rfl rfl)))
        subst e4 f4
        exact ⟨s5.trans (same_new hq'), q', (e.1.1, e.1.2, e.2), rfl, ⟨_, _, t, t1, t4, upd_same, rfl, rfl, gt⟩, rfl⟩
      · intro p ys H3 s3 hp0 hp1 hrows
        have erows : (st.nt.filter fun e => !decide (e.2 = 0)).map (fun e => netD (e.1.1, e.1.2, e.2)) = (netRows st).map netD := by
          unfold netRows
          rw [List.map_map]
          rfl
        rw [erows] at hrows
        obtain ⟨as, nets, n1, n2, n3, n4⟩ := sorted_rows (K := K) (D := p) hrows
        obtain ⟨needs, m1, m2⟩ := needs_of st
        have s03 := s2.trans s3
        have hdl : DpAll K H3 ys ((netRows st).map netD) := rall_dp (R := fun H x d => ∃ q r, x = .ref q ∧ RowAt g M H q r ∧ d = netD r) (fun x d ⟨q, r, e1, e2, e3⟩ => by rw [e1, e3]; exact e2.dp) hrows
        have hnl : (netRows st).length ≤ 900 := by
          unfold netRows
          rw [List.length_map]
          exact Nat.le_trans (List.length_filter_le ..) hnt
        have aln : PySem.W.AllAlike ((netRows st).map netD) := fun d1 h1 d2 h2 => by
          obtain ⟨r1, _, rfl⟩ := List.mem_map.mp h1
          obtain ⟨r2, _, rfl⟩ := List.mem_map.mp h2
          rfl
        have srt : PySem.W.Sortable ((netRows st).map netD) := .inl fun d1 h1 => by
          obtain ⟨r1, _, rfl⟩ := List.mem_map.mp h1
          exact ⟨_, _, rfl⟩
        have dep : ∀ d ∈ (netRows st).map netD, d.depth ≤ 100 := fun d1 h1 => by
          obtain ⟨r1, _, rfl⟩ := List.mem_map.mp h1
          simp [PyData.depth, PyData.depthAll]
        refine wss_retW (we_tup (wa_cons (we_tupleL 4 rfl (s3 _ _ hw) (fun wr hwr => ?_) V.tuple)))
        have s4 : Same H3 (upd H3 wr (.tup ((List.range n).map fun p => L2.V.int ((whS st p : Nat) : Int)))) := same_new hwr
        have dwr : Dp K (upd H3 wr (.tup ((List.range n).map fun p => L2.V.int ((whS st p : Nat) : Int)))) (.ref wr) (nD (whL st)) := by
          refine .tup (.of upd_same) ?_
          have e1 : (List.range n).map (fun p => L2.V.int ((whS st p : Nat) : Int)) = ((whL st).map fun (k : Nat) => (k : Int)).map .int := by
            unfold whL
            rw [hbl, List.map_map, List.map_map]
            rfl
          have e2 : (whL st).map iN = ((whL st).map fun (k : Nat) => (k : Int)).map .int := by rw [List.map_map]; rfl
          rw [e1, e2]
          exact dpAll_ofInts _
        generalize upd H3 wr (.tup ((List.range n).map fun p => L2.V.int ((whS st p : Nat) : Int))) = H4 at s4 dwr ⊢
        refine wa_cons (we_tupleW (we_sortX hu (we_var 6 rfl ⟨p, ys, rfl, s4 _ _ hp1, hdl.same s4, fun sl H5 s5 hsl0 hsl1 hsd => ⟨sl, _, rfl, hsl1, fun nr hnr => ?_⟩⟩) aln srt (by rw [List.length_map]; omega) dep V.sorted) V.tuple)
        rw [n1]
        have s6 : Same H5 (upd H5 nr (.tup (as.map .ref))) := same_new hnr
        have hnr1 : upd H5 nr (.tup (as.map .ref)) nr = some (.tup (as.map .ref)) := upd_same
        generalize upd H5 nr (.tup (as.map .ref)) = H6 at s6 hnr1 ⊢
        have s36 : Same H3 H6 := s4.trans (s5.trans s6)
        have s06 := s03.trans s36
        refine wa_cons (EE.run (ee_call Ct hr (ea_1 (ee_var 3 rfl (q3.same s06))) ⟨st.nd, rfl, by have := hst.nd; omega, fun x hx => hlots x hx, rfl⟩) fun v7 H7 s7 d7 => wa_nil ⟨by simp, fun q hq => ?_⟩)
        rw [m1] at d7
        obtain ⟨er, zs, rfl, hz1, hz2⟩ := dp_tup d7
        have sq := same_new (o := .tup [.ref wr, .ref nr, .ref er]) hq
        exact hk q _ nets needs (s06.trans (s7.trans sq)) ⟨wr, nr, er, as, .of upd_same, dwr.same ((s5.trans s6).trans (s7.trans sq)), .of ((s7.trans sq) _ _ hnr1), Paired.mapP n2 fun a r h => h.same (s36.trans (s7.trans sq)), d7.same sq⟩ ⟨n3, n4⟩ ⟨m1, m2⟩
end
end K10
set_option maxHeartbeats 4000000
/-! A comprehension over a known tuple, its very items told; tuple of such a list. -/
namespace K10
open PySem PySem.Spec PyProof.Rows L2 SX
open C8 (Cal pe_c)
/-- a list of these very values -/
def rlPhi (p : Addr) (us : List Value) : Heap → Prop := fun h => ∃ n, h.get? p = some { cls := .type "list", data := .seq us.toArray n }
section
variable {X : Cx} {σ : L2.St} {H : Hp} {e : Expr}
theorem rl_ok {H' : Hp} {h : Heap} {p : Addr} {us : List Value} {n : Nat} (e : h.get? p = some { cls := .type "list", data := .seq us.toArray n }) : ObjOk X.prog X.w H' h p (.ext (rlPhi p us)) :=
  ⟨⟨n, e⟩, ⟨_, e⟩, fun h1 h2 ⟨m, z⟩ k => ⟨m, k _ z⟩⟩
/-- tuple(e), e a list of known values -/
theorem we_tupleR {p pos : Pos} {Q : VK} (h : WE X e σ H fun v H1 => ∃ l us xs, v = .ref l ∧ H1 l = some (.ext (rlPhi l us)) ∧ Vals xs us ∧ xs.length ≤ 1000 ∧ ∀ q, H1 q = none → Q (.ref q) (upd H1 q (.frz { cls := .type "tuple", data := .seq us.toArray } (.tup xs)))) (hm : X.mg "tuple" = none)
    (hg : Gl X "tuple" := by rfl) (he : starEach [e] X.env = (false, eval e X.env) :: starEach [] X.env := by exact star_cons (by rfl)) (hpl : (backTo pos (starEach [] X.env)).any (·.1) = false := by exact star_any (by rfl)) : WE X (.Call (.Name "tuple" p) [e] [] pos) σ H Q := by
  refine we_of (pe_callTy (T := "tuple") (r := fun vs H1 Q => ∃ l us xs, vs = [.ref l] ∧ H1 l = some (.ext (rlPhi l us)) ∧ Vals xs us ∧ xs.length ≤ 1000 ∧ ∀ q, H1 q = none → Q (.ref q) (upd H1 q (.frz { cls := .type "tuple", data := .seq us.toArray } (.tup xs)))) (fun pins s σ H vs us' Q I r ⟨l, us, xs, e1, hl, hv, hz, q⟩ => ?_) hg hm (by decide +kernel) (pa_cons (pw e) pa_nil he) (by decide) (by decide) he hpl) (h.mono fun v H1 ⟨l, us, xs, e1, q⟩ => ⟨l, us, xs, by rw [e1], q⟩)
  subst e1
  cases r with
  | cons r1 r2 =>
    cases r2
    obtain rfl := (show _ = Value.ref l from r1)
    obtain ⟨⟨n, hn⟩, _, _⟩ := I.hok l _ hl
    have hlen := hv.length
    have hse := sizeLine_eq
    refine call_tuple_list (items := us.toArray) ⟨_, hn, rfl, n, rfl⟩ (fun h' kp => ?_) (by simp only [List.size_toArray]; omega)
    have I1 : Inv X pins σ H { s with heap := h' } := I.kept (t' := s.toks) kp
    have hf : H h'.objs.size = none := I1.hok.fresh (Nat.le_refl _)
    exact ⟨.ref h'.objs.size, _, I1.laid (t' := s.toks) (o := .frz { cls := .type "tuple", data := .seq us.toArray } (.tup xs)) (fun b o e => Heap.get?_push_of_some _ e) (Nat.le_refl _) ⟨Heap.get?_push_size _ rfl, by omega, us, hv, ⟨_, Heap.get?_push_size _ rfl, rfl, _, rfl⟩⟩, rfl, q _ hf⟩
/-- [elt for x in y], y the known tuple at q: each item handed on as it is -/
theorem we_lcK {x y : Str} {px py pos : Pos} {elt : Expr} {scope : Scope} {q : Addr} {xs : List V} {its : List Value} {Q : VK} (i j : Nat) (hNd : X.N.Nodup) (hσ : σ[i]? = some (some (.ref q))) (kt : Ktup H q xs its) (hz : xs.length ≤ 1000)
    (helt : ∀ (m : Nat) v u, xs[m]? = some v → its[m]? = some u → ∀ (s : Shared) (H0 : Hp) (C : Addr) (cl : List (Str × Addr)) (fp : List Addr) (H' : Hp), WEF (X.blk s H0 scope (compEnvC scope cl C X.env) fp) [(x, v, u)] 0 elt ((wipe σ [j]).set j (some v)) H' fun v' u' _ H2 => Same H' H2 ∧ v' = v ∧ u' = u)
    (k : ∀ p H2, Same H H2 → H p = none → H2 p = some (.ext (rlPhi p its)) → Vals xs its → Q (.ref p) H2)
    (hN : X.N[i]? = some y := by rfl) (hv : Vis X.env.scope y := by first | exact Or.inl rfl | exact Or.inr (Or.inl rfl) | exact Or.inr (Or.inr rfl)) (hd1 : (y == ("__debug__" : Str)) = false := by decide) (hd2 : (y == ("__classdict__" : Str)) = false := by decide)
    (hj : X.N[j]? = some x := by rfl) (hlk : scope.names.lookup x = some .local := by rfl) (ok : BlkOk X.N X.env.scope scope [(x, j)] := by exact blkOk_by rfl) (hc : X.calm = true := by rfl) (hfs : ∀ z, foldedSetIterable (.Name y py) X.env z = pure z := by intro _; rfl) (hkind : ∀ {cl C}, (compEnvC scope cl C X.env).scope.names.lookup x = some .local := by intros; rfl) :
    WE X (.ListComp elt [⟨.Name x px, .Name y py, [], 0⟩] scope pos) σ H Q := by
  refine .mk ?_
  intro pins s I
  rw [eval_ListComp]
  have hfree : ∀ z ∈ scope.names, z.2 = .free → ∃ c, X.env.cells.lookup z.1 = some c := fun z hz' e => (ok.free z hz' e).elim (fun k => I.ok.has _ (.inl k)) fun k => I.ok.has _ (.inr k)
  refine wpAny_comprehension_free (use := none) rfl hfs (closure_ok hfree) ok.kind (fun z hz' e => by rw [ok.uniq z hz', e]) (thn ((pe_var hN hv hd1 hd2).run pins s σ H (fun v H2 => v = .ref q ∧ H2 = H) I ⟨.ref q, hσ, rfl, rfl⟩) fun xv s1 ⟨xx, H1, I1, rx, ex, eh⟩ => ?_)
  subst ex eh
  obtain rfl : xv = Value.ref q := rx
  obtain ⟨rv, pt, hzz⟩ := kt.is I1
  refine wpAny_pyIter_tuple pt ?_
  -- the iterator
  generalize hit : s1.heap.objs.size = it
  generalize hs2 : ({ s1 with heap := s1.heap.push { cls := .type "tuple_iterator", data := .fields #[.ref q, .int 0 0] } } : Shared) = s2
  have k12 : ∀ b o, s1.heap.get? b = some o → s2.heap.get? b = some o := fun b o e => by rw [← hs2]; exact Heap.get?_push_of_some _ e
  have I2 : Inv X pins σ H1 s2 := by rw [← hs2]; exact I1.kept (t' := s1.toks) fun b o e => Heap.get?_push_of_some _ e
  have st2 : s2.heap.IsTupleIter it q 0 := by rw [← hs2, ← hit]; exact ⟨_, Heap.get?_push_size _ rfl, rfl, rfl⟩
  have z2 : s2.heap.objs.size = it + 1 := by rw [← hs2, ← hit]; exact Heap.size_push ..
  have fit : FpOk X pins H1 it := I1.fpOk (by omega) (I1.hok.fresh (by omega))
  refine wpAny_newObj_type (newEnv_comp ?_) (by show 0 ≤ sizeLine; decide)
  -- the new list
  generalize hD : s2.heap.objs.size = D
  generalize hs3 : ({ s2 with heap := s2.heap.push { cls := .type "list", data := .seq ([] : List Value).toArray } } : Shared) = s3
  have h3 : s3.heap = s2.heap.push { cls := .type "list", data := .seq ([] : List Value).toArray } := by rw [← hs3]
  have gD : s3.heap.get? D = some { cls := .type "list", data := .seq ([] : List Value).toArray } := by rw [h3, ← hD]; exact Heap.get?_push_size _ rfl
  have hDn : H1 D = none := I2.hok.fresh (Nat.le_of_eq hD)
  have I3 : Inv X pins σ (upd H1 D (.ext (rlPhi D []))) s3 := by
    rw [← hs3]
    exact I2.laid (t' := s2.toks) (fun b o e => Heap.get?_push_of_some _ e) (Nat.le_of_eq hD) (rl_ok (X := X) (n := 0) (by rw [← hD]; exact Heap.get?_push_size _ rfl))
  have hDit : it ≠ D := by omega
  have st3 : s3.heap.IsTupleIter it q 0 := st2.at fun o e => by rw [h3]; exact Heap.get?_push_of_some _ e
  have z3 : s3.heap.objs.size = D + 1 := by rw [h3, Heap.size_push, hD]
  have f3 : ∀ b ∈ [it], FpOk X pins (upd H1 D (.ext (rlPhi D []))) b ∧ b < s3.heap.objs.size := fun b hb => by
    rw [List.mem_singleton.mp hb]
    exact ⟨⟨by rw [upd_ne hDit]; exact fit.1, fit.2⟩, by omega⟩
  have I4 := block_start I3 ok hNd f3
  have kd := hkind (cl := cellsFrom (s3.heap.objs.size + 1) scope.names (cloFrom X.env.cells scope.names [])) (C := s3.heap.objs.size)
  have elt4 := fun m v u h1 h2 => helt m v u h1 h2 s3 (upd H1 D (.ext (rlPhi D []))) s3.heap.objs.size (cellsFrom (s3.heap.objs.size + 1) scope.names (cloFrom X.env.cells scope.names [])) [it]
  show codeAny _ _ (.compStart _ 0 (.ref it) (.ref D) (compEnvC scope (cellsFrom (s3.heap.objs.size + 1) scope.names (cloFrom X.env.cells scope.names [])) s3.heap.objs.size X.env)) (compPost (model X.prog X.w) X.A X.xe none _ (.ref D) s3.heap.objs.size) { s3 with heap := pushCells (s3.heap.push { cls := .type "dict", data := .dict #[] }) scope.names }
  generalize hce : compEnvC scope (cellsFrom (s3.heap.objs.size + 1) scope.names (cloFrom X.env.cells scope.names [])) s3.heap.objs.size X.env = ce at I4 elt4 kd ⊢
  have cL : ce.locals = s3.heap.objs.size := by subst hce; rfl
  generalize hH3 : upd H1 D (.ext (rlPhi D [])) = H3 at I3 I4 elt4 f3
  have hH3D : H3 D = some (.ext (rlPhi D [])) := by rw [← hH3]; exact upd_same
  generalize hs4 : ({ s3 with heap := pushCells (s3.heap.push { cls := .type "dict", data := .dict #[] }) scope.names } : Shared) = s4 at I4 ⊢
  have k34 : ∀ b o, s3.heap.get? b = some o → s4.heap.get? b = some o := fun b o e => by rw [← hs4]; exact pushCells_keeps _ _ _ _ (Heap.get?_push_of_some _ e)
  have st4 : s4.heap.IsTupleIter it q 0 := st3.at fun o e => k34 _ _ e
  have fpo : ∀ {σ' : L2.St} {H' : Hp} {s' : Shared}, Inv (X.blk s3 H3 scope ce [it]) [] σ' H' s' → H' it = none → FpOk (X.blk s3 H3 scope ce [it]) [] H' it := fun {σ' H' s'} I' hn =>
    ⟨hn, (I'.ok.exf it (List.mem_singleton.mpr rfl)).1, I'.ok.exfs it (List.mem_singleton.mpr rfl), .inl (List.mem_singleton.mpr rfl), fun x c e => (I'.ok.exf it (List.mem_singleton.mpr rfl)).2 x c e, fun p hp => absurd (show p ∈ ([] : List (Addr × Obj)) ++ [] from hp) (by simp)⟩
  have hlen : xs.length = its.length := rv.length
  have loop : codeAny (model X.prog X.w) X.A (.compLoop (.ListComp elt [⟨.Name x px, .Name y py, [], 0⟩] scope pos) 0 (.ref it) (.ref D) ce) (compPost (model X.prog X.w) X.A X.xe none (L2.EP X pins σ Q) (.ref D) s3.heap.objs.size) s4 := by
    refine compLoop_any (fun n s' => ∃ m H', n = its.length - m ∧ m ≤ its.length ∧ Inv (X.blk s3 H3 scope ce [it]) [] (wipe σ [j]) H' s' ∧ s'.heap.IsTupleIter it q m ∧ H' it = none ∧ Same H1 H' ∧ H' D = some (.ext (rlPhi D (its.take m)))) ?_ its.length ⟨0, H3, rfl, Nat.zero_le _, I4, st4, (f3 it (List.mem_singleton.mpr rfl)).1.1, by rw [← hH3]; exact same_new hDn, hH3D⟩
    rintro n s5 ⟨m, H5, en, hm, I5, st5, n5, sm5, d5⟩
    have kt5 := kt.same sm5
    obtain ⟨_, pt5, _⟩ := kt5.is I5
    obtain ⟨f0, f1, f2, f3', f4, f5⟩ := fpo I5 n5
    by_cases hlt : m < its.length
    · have hu : its[m]? = some its[m] := List.getElem?_eq_getElem hlt
      have hxv : xs[m]? = some xs[m] := List.getElem?_eq_getElem (by omega)
      have hr : RelV xs[m] its[m] := by
        obtain ⟨u', e1, e2⟩ := rv.get hxv
        rw [hu] at e1
        cases e1
        exact e2
      refine wpAny_pyNext_tuple_item st5 pt5 (x := its[m]) (by simpa using hu) fun h' st' sb => ?_
      have I6 : Inv (X.blk s3 H3 scope ce [it]) [] (wipe σ [j]) H5 { s5 with heap := h' } := I5.turned (t' := s5.toks) (fun b o hb e => (sb.2 b hb).trans e) f0 f1 f3' f4 f5
      obtain ⟨oi, ei, ci, di⟩ := id st'
      refine go_of (s := { s5 with heap := h' }) ei ci di (by decide) ?_
      -- the name
      have I6' := I6.pinned (fp := [it]) (fun b hb => by rw [List.mem_singleton.mp hb]; exact fpo I6 n5) (fun b hb => by rw [List.mem_singleton.mp hb]; exact ⟨oi, ei, fun v z => by rw [di] at z; cases z⟩)
      refine wpAny_assign_Name (store_step (T := []) (v := xs[m]) I6' (TkH.nil I6') hNd hj (show ce.scope.names.lookup x = some .local from kd) hr fun s7 I7 t7 _ => ?_)
      have t7' := t7 [(x, xs[m], its[m])] fun z hz' => .inr (List.mem_singleton.mp hz')
      refine wpAny_tests_nil ?_
      refine thnF (elt4 m _ _ hxv hu H5 _ s7 I7 t7' (Nat.zero_le _)) fun u s8 ⟨v8, H8, I8, r8, _, _, s58, e8, e8'⟩ => ?_
      subst e8 e8'
      have d8 := s58 _ _ d5
      obtain ⟨⟨n8, g8⟩, _, _⟩ := I8.hok D _ d8
      have hse := sizeLine_eq
      refine append_at (hsz := by rw [List.size_toArray, List.length_take]; omega) g8 fun h9 sb9 g9 => ?_
      have etk : its.take (m + 1) = its.take m ++ [its[m]] := take_snoc hu
      have g9' : h9.get? D = some { cls := .type "list", data := .seq (its.take (m + 1)).toArray (n8 + 1) } := by rw [g9, etk]; simp
      have I9 := I8.write (t' := s8.toks) (x := D) (e := D) (o := .ext (rlPhi D (its.take (m + 1)))) (by rw [d8]; trivial) (.inl rfl) (fun b u hb e => (sb9.2 b hb).trans e) ⟨_, g9'⟩ (rl_ok (X := X) g9')
      have pin9 := I9.pin (it, oi) (List.mem_append_right _ (List.mem_append_right _ (mem_pinsAt (fp := [it]) (List.mem_singleton.mpr rfl) ei)))
      refine ⟨its.length - (m + 1), by omega, m + 1, _, rfl, hlt, (I9.unpinned (pins := [])).weak (by simp) (fun i2 v2 e2 => ?_), ⟨oi, pin9.1, ci, di⟩, pin9.2.1, ?_, upd_same⟩
      · by_cases hij : i2 = j
        · subst hij
          obtain ⟨_, hnot⟩ := wipe_some e2
          simp at hnot
        · rw [List.getElem?_set_ne (Ne.symm hij)]
          exact e2
      · exact same_mut (sm5.trans s58) hDn
    · have hml : m = its.length := by omega
      refine wpAny_pyNext_tuple_end (I5.ok.hd hc) st5 pt5 (by simp; omega) fun h' eb => ?_
      have I6 : Inv (X.blk s3 H3 scope ce [it]) [] (wipe σ [j]) H5 { s5 with heap := h' } := I5.turned (t' := s5.toks) (fun b o hb e => eb b o hb e) f0 f1 f3' f4 f5
      have I7 : Inv X pins σ H5 { s5 with heap := h' } := I3.call' (ch := [it]) I6.os I6.base I6.hok I6.bare fun b hb => ⟨(f3 b hb).1.2.2.2.1, (f3 b hb).1.2.1, (f3 b hb).1.2.2.2.2.1, (f3 b hb).1.2.2.2.2.2⟩
      have nC : H5 s3.heap.objs.size = none := by
        have z : H5 ce.locals = none := I6.free
        rw [cL] at z
        exact z
      obtain ⟨mm, hn, _⟩ := I6.loc
      have hn : h'.Ns ce.locals mm := hn
      rw [cL] at hn
      obtain ⟨c0, c1, c2, c3, c4, c5⟩ := I3.fpOk (Nat.le_refl _) nC
      refine ⟨mm, hn, fun h'' sb => ⟨.ref D, H5, I7.turned (t' := s5.toks) (fun b o hb e => (sb.2 b hb).trans e) c0 c1 c3 c4 c5, rfl, k D H5 sm5 hDn ?_ rv⟩⟩
      rw [d5, hml, List.take_length]
  exact codeAny_compStart_list loop (wpAny_pyIter_tupleiter st4 loop)
end
end K10
set_option maxHeartbeats 4000000
/-! deep. -/
namespace K10
open PySem PySem.Spec PyProof.Rows L2 SX
open C8 (Cal pe_c)
section
variable {X : Cx} {T : TT2} {N : Nat} {σ : L2.St} {H : Hp} {p p1 p2 p3 pos q q2 : Pos} {d : PyData}
theorem wef_ty {t : Str} {Ty : String} {Q : V → Value → Nat → Hp → Prop} (hm : X.mg t = none) (hv : bootBuiltins t = some (.type Ty)) (k : ∀ M, N ≤ M → Q (.ty Ty) (.type Ty) M H) (hg : Gl X t := by rfl) (hn : t ≠ "__name__" := by decide) (hd : (t == ("__debug__" : Str)) = false := by decide) : WEF X T N (.Name t pos) σ H Q := .mk fun pins s I t1 n =>
  ld_blt I hg hm hv ⟨.ty Ty, H, I, rfl, t1, n, k _ n⟩ hn hd
/-- isinstance(x, (list, tuple)), names held -/
theorem wd_isi2 {x : Str} {v : V} {c : Bool} {k : Nat} (i : Nat) (hσ : σ[i]? = some (some v)) (hd : Dp X.K H v d) (hm : X.mg "isinstance" = none) (hmL : X.mg "list" = none) (hmT : X.mg "tuple" = none) (hc : (isTy "list" d || isTy "tuple" d) = c) (hN : X.N[i]? = some x := by rfl) (hk : X.env.scope.names.lookup x = some .local := by rfl) (hdb : (x == ("__debug__" : Str)) = false := by decide) (hg : Gl X "isinstance" := by rfl) (hgL : Gl X "list" := by rfl) (hgT : Gl X "tuple" := by rfl)
    (he : starEach [.Name x p1, .Tuple [.Name "list" q, .Name "tuple" q2] k p2] X.env = (false, eval (.Name x p1) X.env) :: starEach [.Tuple [.Name "list" q, .Name "tuple" q2] k p2] X.env := by exact star_cons (by rfl))
    (he2 : starEach [.Tuple [.Name "list" q, .Name "tuple" q2] k p2] X.env = (false, eval (.Tuple [.Name "list" q, .Name "tuple" q2] k p2) X.env) :: starEach [] X.env := by exact star_cons (by rfl)) (hpl : (backTo pos (starEach [.Tuple [.Name "list" q, .Name "tuple" q2] k p2] X.env)).any (·.1) = false := by exact star_any (by rfl))
    (hs : starEach [.Name "list" q, .Name "tuple" q2] X.env = (false, eval (.Name "list" q) X.env) :: starEach [.Name "tuple" q2] X.env := by exact star_cons (by rfl)) (hs2 : starEach [.Name "tuple" q2] X.env = (false, eval (.Name "tuple" q2) X.env) :: starEach [] X.env := by exact star_cons (by rfl)) :
    WD X T N (.Call (.Name "isinstance" p) [.Name x p1, .Tuple [.Name "list" q, .Name "tuple" q2] k p2] [] pos) σ H (.bool c) := fun N' H' hn hsm => .mk fun pins s I t n => by
  have key : wpAny (model X.prog X.w) X.A (eval (.Call (.Name "isinstance" p) [.Name x p1, .Tuple [.Name "list" q, .Name "tuple" q2] k p2] [] pos) X.env) (fun u s1 => ∃ x H1, Inv X pins σ H1 s1 ∧ RelV x u ∧ TkH X T s1 ∧ Same H' H1 ∧ Dp X.K H1 x (.bool c)) X.xe s := ?_
  · exact wpAny_mono (PySem.wpAny_toks_of n key) (fun u s1 ⟨n1, x, H1, I1, r, t1, q1, q2⟩ => ⟨x, H1, I1, r, t1, n1, q1, n1, q2⟩) fun _ _ z => z.2
  refine wpAny_Call_Name_kw (ld_blt (u := .builtin "isinstance") I hg hm (by decide +kernel) ?_ (by decide) (by decide))
  refine PyProof.Rows.callWith_builtin1 (thn ((waf_cons (T := T) (N := N') (Q := fun xs us M H1 => ∃ tp u, us = [u, .ref tp] ∧ RelV v u ∧ Same H' H1 ∧ H1 tp = some (.frz { cls := .type "tuple", data := .seq [Value.type "list", .type "tuple"].toArray } (.tup [.ty "list", .ty "tuple"]))) (wef_v i hσ (fun u M r hM => waf_cons (wef_tupZ (waf_cons (wef_ty hmL (by decide +kernel) (fun M2 h2 => waf_cons (wef_ty hmT (by decide +kernel) (fun M3 h3 => waf_nil fun M4 h4 => ⟨by simp, fun tp htp => waf_nil fun M5 h5 => ⟨tp, u, rfl, r, same_new htp, upd_same⟩⟩) hgT) hs2) hgL) hs)) he2) hN hk hdb) he) pos pins s I t n) fun us s1 ⟨vs, H1, I1, r1, t1, n1, tp, u, eu, ru, sm, htp⟩ => ?_) he hpl
  subst eu
  obtain ⟨P, Z, pp, hx⟩ := kit_of I1 ru (dp_ty (hd.same (hsm.trans sm)))
  obtain ⟨e1, _⟩ := I1.hok tp _ htp
  exact PySem.W.kia_tup Z I1.kIn pp e1 (b := c) (by rw [← hc]; exact kitAny_cons (kit_ty (kit_isTy (by decide) d)) (fun h => kitAny_cons (r := isTy "list" d || isTy "tuple" d) (kit_ty (kit_isTy (by decide) d)) (fun h' => by rw [h, h'] <;> rfl) (fun h' => by rw [h'] <;> simp)) (fun h => by rw [h] <;> rfl)) hx fun tk => ⟨.bl c, H1, I1.tok tk, rfl, t1.tok, sm, .bl c⟩
/-- not e, e a call that gives a bool -/
theorem wb_notD {e : Expr} {b : Bool} (h : WD X T N e σ H (.bool b)) (he : ∀ whole, isTrue e X.env whole = (do let v ← whole; standAt e.pos; holding [v] (truthy v)) := by intro _; rfl) : WB X T N (.UnaryOp .Not e pos) σ H (!b) := fun N' H' hn hs => .mk fun pins s I t n => by
  refine isTrue_not ?_
  rw [he]
  refine wpAny_bind (thn (h N' H' hn hs pins s I t n) fun u s1 ⟨x, H1, I1, r, t1, n1, s01, m1, dv⟩ => ?_)
  have := dp_bool dv
  subst this
  obtain rfl : u = Value.bool b := r
  exact wpAny_bind (wpAny_standAt (wpAny_holding (wpAny_truthy_bool ⟨H1, I1, t1, n1, s01, rfl⟩)))
end
mutual
theorem imm_tupD : ∀ (d : PyData) (m : Nat), okD m d = true → imm (tupD d) = true
  | .none, _, _ => rfl
  | .bool _, _, _ => rfl
  | .int _, _, _ => rfl
  | .str _, _, _ => rfl
  | .list ds, 0, h => by simp [okD] at h
  | .tuple ds, 0, h => by simp [okD] at h
  | .list ds, m + 1, h => by
    simp [okD] at h
    rw [tupD, imm]
    exact imm_tupAll ds m h.2
  | .tuple ds, m + 1, h => by
    simp [okD] at h
    rw [tupD, imm]
    exact imm_tupAll ds m h.2
  | .dict _, m, h => by cases m <;> simp [okD] at h
theorem imm_tupAll : ∀ (ds : List PyData) (m : Nat), okAll m ds = true → immAll (tupAll ds) = true
  | [], _, _ => rfl
  | d :: ds, m, h => by
    have h' : okD m d = true ∧ okAll m ds = true := by simpa [okAll] using h
    rw [tupAll, immAll, imm_tupD d m h'.1, imm_tupAll ds m h'.2]
    rfl
end
/-- deep is known -/
structure GdD (K : PySem.W.Frag) (mg : Str → Option Value) : Prop where
  ex : ∃ (f : Addr) (fd : FuncData), FunD K "deep" "deep" (defArgs s_deep) (defBody s_deep) (defScope s_deep) [.int 40] [] f fd ∧ mg "deep" = some (.ref f)
section
variable {P : Program} {w : World} {K : PySem.W.Frag} {mg : Str → Option Value} {base : Heap}
abbrev FdDeep (K : PySem.W.Frag) (f : Addr) (fd : FuncData) : Prop := FunD K "deep" "deep" (defArgs s_deep) (defBody s_deep) (defScope s_deep) [.int 40] [] f fd
theorem deep_b2 {f : Addr} {fd : FuncData} (F : FdDeep K f fd) : Binds K fd p_deep [] := by
  have h := F.binds1 (ps := p_deep) 2 1 (by simp) rfl (fun T kV doc pm an cdv ct us its h1 h2 => by
    match us, its, h1, h2 with
    | [a, b], [c], _, _ => exact ⟨_, rfl, rfl⟩)
  obtain ⟨ds, h1, h2⟩ := h
  cases h1
  exact h2
theorem deep_b1 {f : Addr} {fd : FuncData} (F : FdDeep K f fd) : ∃ ds, Vals [V.int 40] ds ∧ Binds K fd p_deep ds := by
  refine F.binds1 (ps := p_deep) 1 0 (by simp) rfl (fun T kV doc pm an cdv ct us its h1 h2 => ?_)
  match us, its, h1, h2 with
  | [a], [c], _, _ => exact ⟨_, rfl, rfl⟩
end
end K10
set_option maxHeartbeats 4000000
/-! deep: by data; of a deed whose kinds' tokens are good. -/
namespace K10
open PySem PySem.Spec PyProof.Rows L2 SX
open C8 (Cal pe_c)
section
variable {X : Cx} {T : TT2} {N : Nat} {σ : L2.St} {H : Hp} {pos : Pos}
theorem wef_vv {Q : V → Value → Nat → Hp → Prop} {x : Str} {v : V} (i : Nat) (h : σ[i]? = some (some v)) (q : ∀ u M, RelV v u → N ≤ M → Q v u M H) (hN : X.N[i]? = some x := by rfl) (hv : Vis X.env.scope x := by first | exact Or.inl rfl | exact Or.inr (Or.inl rfl) | exact Or.inr (Or.inr rfl)) (hd : (x == ("__debug__" : Str)) = false := by decide) (hd2 : (x == ("__classdict__" : Str)) = false := by decide) : WEF X T N (.Name x pos) σ H Q := .mk fun pins s I t n =>
  raw_name hN hv I h (fun u r => ⟨v, H, I, r, t, n, q u _ r n⟩) hd hd2
/-- [elt for x in iter], x in slot j -/
theorem we_lcZm {α : Type} {as : List α} {Y : α → V → Hp → Prop} {R : Addr → Hp → V → PyData → Prop} {x : Str} {px pos : Pos} {iter elt : Expr} {scope : Scope} {wi : TI} {Q : VK} (j : Nat) (hN : X.N.Nodup) (hR : Rst R) (p : PI X (.Name x px) iter wi) (hs : SRCZ X wi σ H as Y) (hz : as.length ≤ 100000) (F : α → PyData)
    (he : ∀ D, ∀ d ∈ as, ∀ v H' H3, Same H H' → Y d v H' → Same H' H3 → H3 D ≠ none → ∀ (s : Shared) (H0 : Hp) (C : Addr) (cl : List (Str × Addr)) (fp : List Addr), WE (X.blk s H0 scope (compEnvC scope cl C X.env) fp) elt ((wipe σ [j]).set j (some v)) H3 fun y H4 => Same H3 H4 ∧ R D H4 y (F d))
    (k : ∀ p xs H2, Same H H2 → H p = none → H2 p = some (.lst xs) → RAll (R p) H2 xs (as.map F) → Q (.ref p) H2)
    (ok : BlkOk X.N X.env.scope scope [(x, j)] := by exact blkOk_by rfl) (hg : ∀ (s : Shared) (H : Hp) (C : Addr) (cl : List (Str × Addr)) (fp : List Addr), PG (X.blk s H scope (compEnvC scope cl C X.env) fp) (.Name x px) (gName j) := by exact fun _ _ _ _ _ => pg_name (by assumption) rfl (.inl rfl)) (hc : X.calm = true := by rfl) (hfs : ∀ x, foldedSetIterable iter X.env x = pure x := by intro _; rfl) :
    WE X (.ListComp elt [⟨.Name x px, iter, [], 0⟩] scope pos) σ H Q := by
  have z := ent_lcZ (X := X) (σ := σ) (H := H) (wi := wi) (g := gName j) (tt := tYes) (te := teB X scope elt) (vs := [j]) hR hs hz (fun _ => true) F fun D d v H' hd s' hn hn' dx Rr kk => kk _ (by
      show ((wipe σ [j]).set j (some v)).set j none = σ.set j none
      rw [List.set_set]
      show (σ.set j none).set j none = _
      rw [List.set_set]) (fun Q hq => hq H' (Same.refl H')) fun hf H3 s3 Q hq => fun s H0 C cl fp => (he D d hd v H' H3 s' dx s3 (by
        cases e : H' D with
        | none => exact absurd e hn'
        | some u => rw [s3 _ _ e]; simp) s H0 C cl fp).mono fun y H4 ⟨s4, r⟩ => hq y H4 s4 r
  rw [List.filter_eq_self.mpr fun _ _ => rfl] at z
  exact we_of (pe_lc hc hN p ok hg (fun s H C cl fp => pts_nil) (fun s H C cl fp => pe_teB s H C cl fp) hfs) (z H (Same.refl H) Q k)
end
section
variable {P : Program} {w : World} {K : PySem.W.Frag} {mg : Str → Option Value} {base : Heap}
theorem fn_deep (V : Ev mg) {f : Addr} {fd : FuncData} (F : FdDeep K f fd) (g : mg "deep" = some (.ref f)) : ∀ m, FnOk P w K mg base CX0 (m + 2) f fd p_deep (spF K (P_deep m)) := by
  intro m
  refine fn_data F sc_deep (fun ds r ⟨_, _, h, _⟩ => by rw [h]; rfl) fun cdv A outer s H H0 vs ds r D E hr hv hP hk _ => ?_
  obtain ⟨d, n, rfl, hmn, hok, rfl⟩ := hP
  obtain ⟨v0, v1, rfl, d0, d1⟩ := dpAll_2 hv
  have hN := sc_deep.nd
  refine wss_when (b := !(isTy "list" d || isTy "tuple" d)) (et_not (et_val (ee_isi2 (ee_var 0 rfl d0) V.isi V.list V.tuple rfl))) (fun hb H1 s1 => ?_) fun hb H1 s1 => ?_
  · have e : tupD d = d := by cases d <;> first | rfl | simp [isTy] at hb
    rw [e] at hk
    exact wss_ret (ee_var 0 rfl (d0.same s1)) fun v H2 s2 dv => hk v H2 (s1.trans s2) dv
  · obtain ⟨es, hd⟩ := seq_of (d := d) (by cases h1 : isTy "list" d <;> cases h2 : isTy "tuple" d <;> simp [h1, h2] at hb ⊢)
    obtain ⟨k, rfl, hz, hall⟩ := okD_seq hd hok
    have e : tupD d = .tuple (es.map tupD) := by rcases hd with rfl | rfl <;> simp [tupD, tupAll_map]
    rw [e] at hk
    have C1 : Cal P w K mg base (k + 2) "deep" (spF K (P_deep k)) [] := ⟨f, fd, p_deep, [], fn_deep V F g k, g, F.kp, deep_b2 F, .nil⟩
    refine wss_when (b := decide (n = 0)) (et_eqI (ee_var 1 rfl (d1.same s1)) ee_int) (fun hb H2 s2 => ?_) fun hb H2 s2 => ?_
    · exact absurd (of_decide_eq_true hb) (by omega)
    · have s12 := s1.trans s2
      refine wss_ret (ee_tuple (EN.ee (en_lc hN (lcr_mapE (as := es) (enc := id) 2 (by rw [List.map_id]; exact src_seq hd (ee_var 0 rfl (d0.same s12))) hN tupD (fun e he => imm_tupD e k (hall e he)) (fun e he x H' s' dx s0 H0' C cl fp => ee_call C1 hr (ea_cons (ee_var 2 rfl dx) (ea_1 (ee_sub (ee_var 1 rfl (d1.same (s12.trans s'))) ee_int))) ⟨e, n - 1, rfl, by omega, hall e he, rfl⟩ (hk := Nat.le_refl _)) (by omega) rfl))) (.inl rfl) V.tuple) fun v H3 s3 dv => hk v H3 (s12.trans s3) dv
def spScal (K : PySem.W.Frag) : SpT := fun vs us N H Q => ∃ (v : L2.V) (d : PyData) (n : Int) (u un : Value), vs = [v, .int n] ∧ us = [u, un] ∧ Dp K H v d ∧ isTy "list" d = false ∧ isTy "tuple" d = false ∧ ∀ M H', N ≤ M → Same H H' → Q v u M H'
theorem fnT_scal (V : Ev mg) {f : Addr} {fd : FuncData} (F : FdDeep K f fd) : FnT P w K mg base 1 f fd p_deep (spScal K) := by
  refine fnT_of F sc_deep (fun vs us M H Q ⟨_, _, _, _, _, h, _⟩ => by rw [h]; rfl) fun cdv A outer s H vs us Q hr hv h => ?_
  obtain ⟨v, d, n, u, un, rfl, rfl, dv, h1, h2, hk⟩ := h
  refine ⟨[("thing", v, u)], fun q hq => ?_, ?_⟩
  · rw [List.mem_singleton.mp hq]
    exact ⟨0, rfl, rfl, rfl, rfl⟩
  refine wsf_if (WB.run (wb_notD (wd_isi2 0 rfl dv V.isi V.list V.tuple rfl)) fun H1 s1 => ?_)
  rw [if_pos (by rw [h1, h2]; rfl)]
  exact wsf_ret (wef_t (List.mem_singleton.mpr rfl) fun M hM => hk M H1 hM s1)
def spDeepStep (K : PySem.W.Frag) : Sp := fun vs H Q _ => ∃ (q : Addr) (M : Nat) (x : Nat × Nat × Nat) (n : Int), vs = [.ref q, .int n] ∧ 1 ≤ n ∧ StepAt K M H q x ∧ ∀ p H', Same H H' → StepAt K M H' p x → Q (.ref p) H'
theorem fn_deepStep (V : Ev mg) {f : Addr} {fd : FuncData} (F : FdDeep K f fd) (g : mg "deep" = some (.ref f)) : FnOk P w K mg base CX0 2 f fd p_deep (spDeepStep K) := by
  refine F.ok sc_deep (fun vs H Q E ⟨_, _, _, _, h, _⟩ => by rw [h]; rfl) fun cdv A outer s H vs Q E hr h => ?_
  obtain ⟨q, M, x, n, rfl, hn1, hst, hk⟩ := h
  refine ⟨_, PSs.nox (pssw _), ?_⟩
  have hN := sc_deep.nd
  have C1 : CalT P w K mg base 1 "deep" (spScal K) [] := ⟨f, fd, p_deep, [], fnT_scal V F, g, F.kp, deep_b2 F, .nil⟩
  refine wss_when (b := !(isTy "list" (stepD x) || isTy "tuple" (stepD x))) (et_not (et_val (ee_isi2 (ee_var 0 rfl hst.dp) V.isi V.list V.tuple rfl))) (fun hb => absurd hb (by simp [isTy])) fun hb H1 s1 => ?_
  refine wss_when (b := decide (n = 0)) (et_eqI (ee_var 1 rfl (.int _)) ee_int) (fun hb H2 s2 => absurd (of_decide_eq_true hb) (by omega)) fun hb H2 s2 => ?_
  have s12 := s1.trans s2
  obtain ⟨o, m, t, t1, t2, h1, h2, h3, h4⟩ := hst.same s12
  have kt : Ktup H2 q [.str (S [x.1]), .int (x.2.1 : Int), .int (x.2.2 : Int)] [Value.str (S [x.1]) t, .int (x.2.1 : Int) t1, .int (x.2.2 : Int) t2] := ⟨o, m, h1, h2, h3⟩
  refine wss_retW (we_tupleR (we_lcK 0 2 hN rfl kt (by simp) (fun j v u hj hu s0 H0' C cl fp H' => ?_) fun p H3 s3 hp0 hp1 hvv => ⟨p, _, _, rfl, hp1, hvv, by simp, fun q' hq' => ?_⟩) V.tuple)
  · have hsc : ∃ d, Dp K H' v d ∧ isTy "list" d = false ∧ isTy "tuple" d = false := by
      have hj' : j = 0 ∨ j = 1 ∨ j = 2 := by
        have := (List.getElem?_eq_some_iff.mp hj).1
        simp at this
        omega
      rcases hj' with rfl | rfl | rfl
      · cases hj; exact ⟨_, .str _, rfl, rfl⟩
      · cases hj; exact ⟨_, .int _, rfl, rfl⟩
      · cases hj; exact ⟨_, .int _, rfl, rfl⟩
    obtain ⟨d, dv, e1, e2⟩ := hsc
    refine wef_call C1 hr (by decide) rfl (waf_cons (wef_t (List.mem_singleton.mpr rfl) fun M0 n0 => waf_cons (wef_opI (wef_vv 1 rfl fun u1 M1 r1 n1 => wef_int fun t3 M2 n2 => ⟨n - 1, ?_, fun t4 M3 n3 => waf_nil fun M4 n4 ds hds => ?_⟩))))
    · obtain ⟨t5, rfl⟩ := r1
      exact pi_sub
    · cases hds
      exact ⟨v, d, n - 1, u, _, rfl, rfl, dv, e1, e2, fun M' H'' _ hs => ⟨hs, rfl, rfl⟩⟩
  · exact hk q' _ (s12.trans (s3.trans (same_new hq'))) ⟨_, _, t, t1, t2, upd_same, rfl, rfl, h4⟩
def spDeepDeed (K : PySem.W.Frag) : Sp := fun vs H Q _ => ∃ (a : Addr) (M : Nat) (deed : List (Nat × Nat × Nat)) (n : Int), vs = [.ref a, .int n] ∧ 2 ≤ n ∧ DeedAt K M H a deed ∧ deed.length ≤ 1000 ∧ ∀ p H', Same H H' → DeedAt K M H' p deed → Q (.ref p) H'
theorem fn_deepDeed (V : Ev mg) {f : Addr} {fd : FuncData} (F : FdDeep K f fd) (g : mg "deep" = some (.ref f)) : FnOk P w K mg base CX0 3 f fd p_deep (spDeepDeed K) := by
  refine F.ok sc_deep (fun vs H Q E ⟨_, _, _, _, h, _⟩ => by rw [h]; rfl) fun cdv A outer s H vs Q E hr h => ?_
  obtain ⟨a, M, deed, n, rfl, hn2, hda, hdl, hk⟩ := h
  refine ⟨_, PSs.nox (pssw _), ?_⟩
  have hN := sc_deep.nd
  have C1 : Cal P w K mg base 2 "deep" (spDeepStep K) [] := ⟨f, fd, p_deep, [], fn_deepStep V F g, g, F.kp, deep_b2 F, .nil⟩
  refine wss_when (b := !(isTy "list" (.tuple (deed.map stepD)) || isTy "tuple" (.tuple (deed.map stepD)))) (et_not (et_val (ee_isi2 (ee_var 0 rfl hda.dp) V.isi V.list V.tuple rfl))) (fun hb => absurd hb (by simp [isTy])) fun hb H1 s1 => ?_
  refine wss_when (b := decide (n = 0)) (et_eqI (ee_var 1 rfl (.int _)) ee_int) (fun hb H2 s2 => absurd (of_decide_eq_true hb) (by omega)) fun hb H2 s2 => ?_
  have s12 := s1.trans s2
  obtain ⟨as, h1, h2⟩ := hda.same s12
  have hal : as.length = deed.length := Paired.length h2
  refine wss_retW (we_tupleW (we_lcZm (as := deed) (Y := fun y v H' => ∃ q, v = .ref q ∧ StepAt K M H' q y) (R := fun D H' v d => ∃ q y, v = .ref q ∧ StepAt K M H' q y ∧ d = stepD y) 2 hN ⟨?_, ?_⟩ (pi_tup (pe_var (i := 0) rfl (by first | exact .inl rfl | exact .inr (.inl rfl) | exact .inr (.inr rfl)) (by decide) (by decide))) (fun H3 s3 R k => ⟨.ref a, rfl, a, rfl, ⟨_, same_seqT (same_tx s3) h1⟩, k _ H3 _ _ (Same.refl H3) (?_ : Walk _ deed.length _ (YAt (as.map L2.V.ref))) (fun H4 s4 => same_seqT (same_tx (s3.trans s4)) h1) fun i H4 x H5 hi s4 y => ?_⟩) (by omega) stepD (fun D y hy v H' H3 s' ⟨q, ev, sy⟩ s3 hD s0 H0' C cl fp => ?_) fun p xs H3 s3 hp0 hp1 hx => ?_) V.tuple)
  · rintro D H3 H4 x d ⟨q, y, e1, e2, e3⟩ s3
    exact ⟨q, y, e1, e2.same s3, e3⟩
  · rintro D H3 x d ys zs ⟨q, y, e1, ⟨o, m, t, t1, t2, e2, e2'⟩, e3⟩ hD
    refine ⟨q, y, e1, ⟨o, m, t, t1, t2, ?_, e2'⟩, e3⟩
    rw [upd_ne]
    · exact e2
    · intro e
      rw [e, hD] at e2
      cases e2
  · rw [← hal, ← List.length_map (f := L2.V.ref)]
    exact walk_tup
  · obtain ⟨rfl, hx⟩ := y
    rw [List.getElem?_map] at hx
    obtain ⟨q, hq, rfl⟩ := Option.map_eq_some_iff.mp hx
    obtain ⟨y, hy, sy⟩ := paired_get h2 hq
    exact ⟨Same.refl _, y, hy, q, rfl, sy.same (s3.trans s4)⟩
  · subst ev
    refine we_of (pe_c C1 hr (Nat.le_refl _) rfl (paw _)) (wa_cons (we_var 2 rfl (wa_cons (EE.run (ee_sub (ee_var 1 rfl (.int _)) ee_int) fun v4 H4 s4 d4 => wa_nil ?_))))
    rw [dp_int d4]
    exact ⟨q, M, y, n - 1, rfl, by omega, (sy.same s3).same s4, fun p' H5 s5 h5 => ⟨s4.trans s5, p', y, rfl, h5, rfl⟩⟩
  · have split : ∀ (xs : List L2.V) (deed : List (Nat × Nat × Nat)), RAll (fun H' v d => ∃ q y, v = L2.V.ref q ∧ StepAt K M H' q y ∧ d = stepD y) H3 xs (deed.map stepD) → ∃ bs : List Addr, xs = bs.map .ref ∧ Paired (fun q y => StepAt K M H3 q y) bs deed := by
      intro xs deed
      induction deed generalizing xs with
      | nil => intro h; cases h; exact ⟨[], rfl, .nil⟩
      | cons y deed ih =>
        intro h
        cases h with
        | cons r t =>
          obtain ⟨q, y', e1, e2, e3⟩ := r
          obtain ⟨bs, f1, f2⟩ := ih _ t
          have : y = y' := by
            obtain ⟨a1, a2, a3⟩ := y
            obtain ⟨b1, b2, b3⟩ := y'
            simp at e3
            obtain ⟨g1, g2, g3⟩ := e3
            have e2' : a2 = b2 := by omega
            have e3' : a3 = b3 := by omega
            have e1' : a1 = b1 := by simpa using g1
            rw [e1', e2', e3']
          subst this
          exact ⟨q :: bs, by rw [e1, f1]; rfl, .cons e2 f2⟩
    obtain ⟨bs, rfl, hb2⟩ := split xs deed hx
    refine ⟨p, _, rfl, hp1, fun q hq => ?_⟩
    have sq : Same H3 (upd H3 q (.tup (bs.map .ref))) := same_new hq
    exact hk q _ (s12.trans (s3.trans sq)) ⟨bs, .of upd_same, Paired.mapP hb2 fun a r h => h.same sq⟩
end
end K10
set_option maxHeartbeats 4000000
/-! first_state. -/
namespace K10
open PySem PySem.Spec PyProof.Rows L2 SX
open C8 (Cal pe_c)
section
variable {X : Cx} {σ : L2.St} {H : Hp} {es : List Expr} {d : Addr}
theorem wa_freeze {u : HO} {Q : List V → Hp → Prop} (h : H d = some u) (mu : Mut (some u)) (k : ∀ od, WA X es σ (upd H d (.frz od u)) Q) : WA X es σ H Q := .mk fun pos pins s I => by
  obtain ⟨od, J⟩ := I.lock h mu
  exact k od pos pins s J
/-- {} first, its object known from now on -/
theorem wa_dictZ {pos : Pos} {Q : List V → Hp → Prop} (k : ∀ d od H3, Same H H3 → H3 d = some (.frz od (.ext (dPhi X.prog X.w d []))) → (d == sysModules) = false → WA X es σ H3 fun vs H4 => Q (.ref d :: vs) H4) (hs : starEach (.Dict [] [] pos :: es) X.env = (false, eval (.Dict [] [] pos) X.env) :: starEach es X.env := by exact star_cons (by rfl)) : WA X (.Dict [] [] pos :: es) σ H Q :=
  wa_cons (we_dnew fun d hd hds => wa_freeze (d := d) upd_same trivial fun od => k d od _ (same_mut (same_new hd) hd) upd_same hds) hs
end
section
variable {P : Program} {w : World} {K : PySem.W.Frag} {mg : Str → Option Value} {base : Heap}
def spFirst (P : Program) (w : World) (K : PySem.W.Frag) : Sp := fun vs H Q _ => ∃ n : Nat, vs = [.int (n : Int)] ∧ n ≤ 6 ∧ ∀ q H', Same H H' → (∀ g M, StateAt P w K g M H' q (firstS n)) → Q (.ref q) H'
theorem c_first (V : Ev mg) (G : Gd K mg "first_state" s_first_state) : Cal P w K mg base 1 "first_state" (spFirst P w K) [] := by
  obtain ⟨f, fd, F, gg⟩ := G.ex
  refine ⟨f, fd, p_first_state, [], ?_, gg, F.kp, F.bindsN (fun _ _ _ _ _ _ us hl => match us, hl with | [_], _ => rfl), .nil⟩
  refine F.ok sc_first_state (fun vs H Q E ⟨_, h, _⟩ => by rw [h]; rfl) fun cdv A outer s H vs Q E hr h => ?_
  obtain ⟨n, rfl, hn6, hk⟩ := h
  refine ⟨_, PSs.nox (pssw _), ?_⟩
  have hN := sc_first_state.nd
  refine wss_retW (we_tup (wa_cons (EE.run (ee_tuple (EN.ee (en_lc hN (lcr_mapE (as := List.range n) (enc := iN) (ls := (List.range n).map fun p => nD [p]) 1 (SRV.src (srv_rangeN (n := n) (ee_var 0 rfl (.int _)) V.range (by omega))) hN (fun p => nD [p]) (fun p _ => rfl) (fun p _ x H' s' dx s0 H0' C cl fp => ee_tup (ea_1 (ee_var 1 rfl dx))) (by rw [List.length_range]; omega) rfl))) (.inl rfl) V.tuple) fun v1 H1 s1 d1 => ?_)))
  refine wa_dictZ fun d od H3 s3 hd1 hds => ?_
  refine wa_cons (EE.run (ee_tup ea_nil) fun v4 H4 s4 d4 => wa_nil ⟨by simp, fun q hq => ?_⟩)
  have s5 : Same H4 (upd H4 q (.tup [v1, .ref d, v4])) := same_new hq
  obtain ⟨a1, x1, rfl, e1, e2⟩ := dp_tup d1
  obtain ⟨a4, x4, rfl, e3, e4⟩ := dp_tup d4
  refine hk q _ (s1.trans (s3.trans (s4.trans s5))) fun g M => ⟨a1, d, a4, od, [], .of upd_same, d1.same (s3.trans (s4.trans s5)) |> fun z => ?_, d4.same s5, (s4.trans s5) _ _ hd1, hds, .nil⟩
  show Dp K _ _ (blkD (firstS n).bl)
  have : blkD (firstS n).bl = .tuple ((List.range n).map fun p => nD [p]) := by
    unfold blkD firstS
    rw [List.map_map]
    rfl
  rw [this]
  exact z
end
end K10
set_option maxHeartbeats 4000000
/-! sense, of a deed. -/
namespace K10
open PySem PySem.Spec PyProof.Rows L2 SX
open C8 (Cal pe_c)
theorem S_inj {a b : List Nat} (h : S a = S b) : a = b := by simpa [S_list] using congrArg (fun z : Str => z.cps.toList) h
theorem isStep_ok {n : Nat} {x : Nat × Nat × Nat} (h1 : whatOk x.1) (h2 : stepOk n x) : isStepD n (stepD x) = true := by
  obtain ⟨a, b, c⟩ := h2
  have e1 : whatD (tx [x.1]) = true := by
    show (decide (S [x.1] = S [42]) || decide (S [x.1] = S [126]) || isLetD (.str (S [x.1]))) = true
    rcases h1 with h | h | h
    · have : isLetD (.str (S [x.1])) = true := by
        show (decide ((S [x.1]).length = 1) && inS (S [x.1]) (S LET)) = true
        rw [inS_S, decide_eq_true h]
        rfl
      rw [this, Bool.or_true]
    · rw [h]; rfl
    · rw [h]; simp
  have e2 : stepInts n (iN x.2.1) (iN x.2.2) = true := by
    unfold stepInts
    have f : ∀ k : Nat, k < n → isIntegerD 0 ((n : Int) - 1) (iN k) = true := fun k hk => by
      show (decide ((0 : Int) ≤ k) && decide ((k : Int) ≤ (n : Int) - 1)) = true
      rw [decide_eq_true (by omega), decide_eq_true (by omega)]
      rfl
    rw [f _ a, f _ b]
    show (true && (true && !decide ((x.2.1 : Int) = (x.2.2 : Int)))) = true
    rw [decide_eq_false (by omega)]
    rfl
  show (whatD _ && stepInts n _ _) = true
  rw [e1, e2]
  rfl
theorem isDeed_ok {n : Nat} {deed : List (Nat × Nat × Nat)} (h : deedOk n deed) : isDeedD n (.tuple (deed.map stepD)) = true := by
  show (decide ((deed.map stepD).length ≤ 3) && (deed.map stepD).all (isStepD n)) = true
  rw [decide_eq_true (by rw [List.length_map]; exact h.1), Bool.true_and, List.all_map, List.all_eq_true]
  exact fun x hx => isStep_ok (h.2 x hx).1 (h.2 x hx).2
theorem ask_step (x : Nat × Nat × Nat) : askD (stepD x) := fun ds e => by
  cases e
  exact ⟨by simp, fun a b c e => by
    injection e with e1 _
    exact .inr ⟨_, e1.symm, by simp [Str.length]⟩⟩
theorem sm_of {n : Nat} {deed : List (Nat × Nat × Nat)} {st : SSt} (hn : 2 ≤ n) (hn6 : n ≤ 6) (hd : deedOk n deed) (e : deedS n deed = some st) : SmS n st ∧ ∀ y ∈ st.nd, y.1.length ≤ 100 := by
  have hN := nd_ok (n := n) (show 0 < n by omega) deed.reverse (st := st) (by simpa using hd.2) (by simpa using e)
  rw [List.reverse_reverse] at hN
  have h1 := hN.len
  have h2 := nL_le deed
  have h3 := hd.1
  have h4 := (deedS_small hd e).2
  refine ⟨⟨deedS_ok hd.2 e, hn6, by omega, by omega⟩, fun y hy => ?_⟩
  obtain ⟨⟨_, a, b⟩, _⟩ := hN.one y hy
  have : y.1.length ≤ (List.range n).length := sub_len (asc_nodup a) fun x hx => List.mem_range.mpr (b x hx)
  rw [List.length_range] at this
  omega
theorem take_ok {n : Nat} {deed : List (Nat × Nat × Nat)} (h : deedOk n deed) (i : Nat) : deedOk n (deed.take i) := ⟨by have := h.1; rw [List.length_take]; omega, fun x hx => h.2 x (List.mem_of_mem_take hx)⟩
theorem deedS_succ {n : Nat} {deed : List (Nat × Nat × Nat)} {i : Nat} {x : Nat × Nat × Nat} (h : deed[i]? = some x) : deedS n (deed.take (i + 1)) = (deedS n (deed.take i)).bind fun st => stepS st x := by
  rw [List.take_succ, h]
  exact deedS_snoc n _ x
/-- a deed as sense may be handed -/
def DeedIn (K : PySem.W.Frag) (g : Bool) (M : Nat) (H : Hp) (v : V) (deed : List (Nat × Nat × Nat)) : Prop := (∃ d, Dp K H v d ∧ okD 4 d = true ∧ tupD d = .tuple (deed.map stepD)) ∧ (g = true → ∃ a, v = .ref a ∧ DeedAt K M H a deed)
theorem DeedIn.same {K : PySem.W.Frag} {g : Bool} {M : Nat} {H H' : Hp} {v : V} {deed : List (Nat × Nat × Nat)} (h : DeedIn K g M H v deed) (s : Same H H') : DeedIn K g M H' v deed := by
  obtain ⟨⟨d, h1, h2⟩, h3⟩ := h
  refine ⟨⟨d, h1.same s, h2⟩, fun e => ?_⟩
  obtain ⟨a, e1, e2⟩ := h3 e
  exact ⟨a, e1, e2.same s⟩
/-- .. and what deep makes of it -/
def DeedOut (K : PySem.W.Frag) (g : Bool) (M : Nat) (H : Hp) (p : Addr) (deed : List (Nat × Nat × Nat)) : Prop := ∃ as : List Addr, SqT K H p (as.map .ref) ∧ Paired (fun q y => SqT K H q [.str (S [y.1]), .int (y.2.1 : Int), .int (y.2.2 : Int)] ∧ (g = true → StepAt K M H q y)) as deed
theorem DeedOut.same {K : PySem.W.Frag} {g : Bool} {M : Nat} {H H' : Hp} {p : Addr} {deed : List (Nat × Nat × Nat)} (h : DeedOut K g M H p deed) (s : Same H H') : DeedOut K g M H' p deed := by
  obtain ⟨as, h1, h2⟩ := h
  exact ⟨as, same_seqT (same_tx s) h1, Paired.mapP h2 fun q y r => ⟨same_seqT (same_tx s) r.1, fun e => (r.2 e).same s⟩⟩
theorem steps_dp {K : PySem.W.Frag} {H : Hp} : ∀ {xs : List V} {deed : List (Nat × Nat × Nat)}, DpAll K H xs (deed.map stepD) → ∃ as : List Addr, xs = as.map .ref ∧ Paired (fun q (y : Nat × Nat × Nat) => SqT K H q [.str (S [y.1]), .int (y.2.1 : Int), .int (y.2.2 : Int)]) as deed
  | xs, [], h => by cases h; exact ⟨[], rfl, .nil⟩
  | xs, y :: deed, h => by
    cases h with
    | cons r t =>
      obtain ⟨as, e1, e2⟩ := steps_dp t
      obtain ⟨q, zs, rfl, hq, hz⟩ := dp_tup r
      obtain ⟨v1, v2, v3, rfl, d1, d2, d3⟩ := dpAll_3 hz
      rw [dp_str d1, dp_int d2, dp_int d3] at hq
      exact ⟨q :: as, by rw [e1]; rfl, .cons hq e2⟩
theorem ToldAt.mono {K : PySem.W.Frag} {g : Bool} {M M' : Nat} {H : Hp} {a : Addr} {wh : List Nat} {nets : List (Nat × Nat × Int)} {needs : List (List Nat × Nat × Nat)} (h : ToldAt K g M H a wh nets needs) (n : M ≤ M') : ToldAt K g M' H a wh nets needs := by
  obtain ⟨wr, nr, er, as, h1, h2, h3, h4, h5⟩ := h
  exact ⟨wr, nr, er, as, h1, h2, h3, Paired.mapP h4 fun a b r => r.mono n, h5⟩
def spDeepG (K : PySem.W.Frag) (g : Bool) : Sp := fun vs H Q _ => ∃ (v : V) (M : Nat) (deed : List (Nat × Nat × Nat)), vs = [v, .int 40] ∧ deed.length ≤ 3 ∧ DeedIn K g M H v deed ∧ ∀ p H', Same H H' → DeedOut K g M H' p deed → Q (.ref p) H'
section
variable {P : Program} {w : World} {K : PySem.W.Frag} {mg : Str → Option Value} {base : Heap}
theorem c_deepG (V : Ev mg) (G : GdD K mg) (g : Bool) : Cal P w K mg base 6 "deep" (spDeepG K g) [.int 40] := by
  obtain ⟨f, fd, F, hg⟩ := G.ex
  obtain ⟨ds, h1, h2⟩ := deep_b1 F
  refine ⟨f, fd, p_deep, ds, ?_, hg, F.kp, h2, h1⟩
  cases g with
  | false =>
    refine (fn_deep V F hg 4).imp fun vs H Q E ⟨v, M, deed, hv, hl, ⟨⟨d, d1, d2, d3⟩, _⟩, k⟩ => ?_
    subst hv
    refine ⟨[d, .int 40], _, .cons d1 (.cons (.int _) .nil), ⟨d, 40, rfl, by decide, d2, rfl⟩, fun v' H' s' dv => ?_⟩
    rw [d3] at dv
    obtain ⟨a, xs, rfl, ha, hx⟩ := dp_tup dv
    obtain ⟨as, rfl, hp⟩ := steps_dp hx
    exact k a H' s' ⟨as, ha, Paired.mapP hp fun q y r => ⟨r, fun e => by cases e⟩⟩
  | true =>
    refine ((fn_deepDeed V F hg).mono (by decide)).imp fun vs H Q E ⟨v, M, deed, hv, hl, ⟨_, h3⟩, k⟩ => ?_
    subst hv
    obtain ⟨a, rfl, hda⟩ := h3 rfl
    refine ⟨a, M, deed, 40, rfl, by decide, hda, by omega, fun p H' s' ⟨as, e1, e2⟩ => k p H' s' ⟨as, e1, Paired.mapP e2 fun q y r => ⟨?_, fun _ => r⟩⟩⟩
    obtain ⟨o, m, t, t1, t2, f1, f2⟩ := r
    exact .inl (.inr ⟨_, f1⟩)
/-- sense of a deed: the state behind it, told -/
def spSense (K : PySem.W.Frag) (g : Bool) : SpT := fun vs us N H Q => ∃ (n : Nat) (dv : V) (deed : List (Nat × Nat × Nat)), vs = [.int (n : Int), dv] ∧ 2 ≤ n ∧ n ≤ 6 ∧ deedOk n deed ∧ DeedIn K g N H dv deed ∧
  match deedS n deed with
  | none => ∀ M H', N ≤ M → Same H H' → Q .non .none M H'
  | some st => ∀ q M nets needs H', N ≤ M → Same H H' → ToldAt K g M H' q (whL st) nets needs → NetsOf st nets → NeedsOf st needs → Q (.ref q) (.ref q) M H'
theorem c_sense (V : Ev mg) (G : Gd K mg "sense" s_sense) (Gd' : GdD K mg) (g : Bool) (Ci : Cal P w K mg base 1 "is_integer" (spF K P_is_integer) []) (Cd : Cal P w K mg base 7 "is_deed" (spF K P_is_deed) []) (Cf : Cal P w K mg base 1 "first_state" (spFirst P w K) [])
    (Cb : CalT P w K mg base 2 "state_behind" (spBehind P w K g) []) (Cs : Cal P w K mg base 14 "sense_of" (spSenseOf P w K g) []) : CalT P w K mg base 15 "sense" (spSense K g) [] := by
  obtain ⟨f, fd, F, gg⟩ := G.ex
  refine ⟨f, fd, p_sense, [], ?_, gg, F.kp, F.bindsN (fun _ _ _ _ _ _ us hl => match us, hl with | [_, _], _ => rfl), .nil⟩
  refine fnT_of F sc_sense (fun vs us M H Q ⟨_, _, _, h, _⟩ => by rw [h]; rfl) fun cdv A outer s H vs us Q hr hv h => ⟨[], (fun q hq => by cases hq), ?_⟩
  obtain ⟨n, dv, deed, rfl, hn2, hn6, hdk, hin, hk⟩ := h
  have hN := sc_sense.nd
  generalize s.toks = N0 at hk hin
  have hin0 := hin
  obtain ⟨⟨d, hd1, hd2, hd3⟩, _⟩ := hin0
  -- if not is_integer(size, 2, 6)
  refine wsf_ifJ (fun (T : TT2) M' σ' H' => N0 ≤ M' ∧ Same H H' ∧ σ' = [some (.int (n : Int)), some dv, none, none]) (wtf_et (et_not (et_val (ee_call Ci hr (ea_cons (ee_var 0 rfl (.int _)) (ea_cons ee_int (ea_1 ee_int))) ⟨iN n, 2, 6, rfl, rfl⟩))) fun H3 s3 => ?_) ?_
  · rw [if_neg (by
      show ¬ (!(decide ((2 : Int) ≤ n) && decide ((n : Int) ≤ 6))) = true
      rw [decide_eq_true (by omega), decide_eq_true (by omega)]
      simp)]
    exact wsf_nil fun M hM => ⟨hM, s3, rfl⟩
  rintro T M1 σ1 H1 hM1 ⟨hM1', s1, rfl⟩
  -- if not is_deed(deed, size)
  refine wsf_drop (wsf_ifJ (fun (T : TT2) M' σ' H' => M1 ≤ M' ∧ Same H H' ∧ σ' = [some (.int (n : Int)), some dv, none, none]) (wtf_et (et_not (et_val (ee_call Cd hr (ea_cons (ee_var 1 rfl (hd1.same s1)) (ea_1 (ee_var 0 rfl (.int _)))) ⟨d, n, rfl, hd2, (fun es e y hy => ?_), rfl⟩))) fun H3 s3 => ?_) ?_)
  · rw [hd3] at e
    cases e
    obtain ⟨x, _, rfl⟩ := List.mem_map.mp hy
    exact ask_step x
  · rw [hd3, isDeed_ok hdk, if_neg (by simp)]
    exact wsf_nil fun M hM => ⟨hM, s1.trans s3, rfl⟩
  rintro T M2 σ2 H2 hM2 ⟨hM2', s2, rfl⟩
  -- state = first_state(size)
  refine wsf_drop ?_
  refine wsf_set 2 hN (wef_call (CalT.of Cf) hr (by decide) rfl (waf_cons (wef_v 0 rfl fun u0 M0 r0 n0 => waf_nil fun M3 n3 ds hds => ?_)))
  cases hds
  refine ⟨n, rfl, hn6, fun q H3 s3 hst u M4 r4 n4 => ⟨[], (fun q hq => by cases hq), ?_⟩⟩
  have s03 := s2.trans s3
  -- for step in deep(deed)
  refine wsf_for PassesOwn.never (wif_of (pi_tup (pw _)) ?_)
  refine we_of (pe_c (c_deepG V Gd' g) hr (by decide) rfl (paw _)) (wa_cons (we_var 1 rfl (wa_nil ⟨dv, N0, deed, rfl, hdk.1, hin.same s03, fun p H4 s4 ⟨as, h1, h2⟩ => ⟨p, rfl, ⟨_, h1⟩, fun M5 hM5 => ?_⟩⟩)))
  have hal : as.length = deed.length := Paired.length h2
  refine ⟨deed.length, fun i M' σ' H' => M4 ≤ M' ∧ Same H4 H' ∧ ∃ (sv : L2.V) (x3 : Option L2.V), σ' = [some (.int (n : Int)), some dv, some sv, x3] ∧ OptSt P w K g M' H' (deedS n (deed.take i)) sv, ⟨hM5, Same.refl _, .ref q, none, rfl, q, rfl, ?_⟩, ?_, ?_⟩
  · exact (hst g M5).same s4
  · rintro M' σ' H' ⟨hM', s5, sv, x3, rfl, hsv⟩
    refine ⟨⟨_, same_seqT (same_tx s5) h1, by rw [List.length_map]; omega⟩, ?_⟩
    rw [List.take_of_length_le (Nat.le_refl _)] at hsv
    refine wsf_ret (wef_call (CalT.of Cs) hr (by decide) rfl (waf_cons (wef_v 2 rfl fun u0 M0 r0 n0 => waf_nil fun M6 n6 ds hds => ?_)))
    cases hds
    have s05 := (s03.trans s4).trans s5
    refine ⟨M6, sv, deedS n deed, n, rfl, hsv.mono (by omega), fun st e => sm_of hn2 hn6 hdk e, hn2, ?_⟩
    cases e : deedS n deed with
    | none =>
      rw [e] at hk
      exact fun H' s6 u M7 r7 n7 => by
        obtain rfl : u = Value.none := r7
        exact hk M7 H' (by omega) (s05.trans s6)
    | some st =>
      rw [e] at hk
      exact fun q' H' nets needs s6 ht h3 h4 u M7 r7 n7 => by
        obtain rfl : u = Value.ref q' := r7
        exact hk q' M7 nets needs H' (by omega) (s05.trans s6) (ht.mono n7) h3 h4
  · rintro i M' σ' H' hi ⟨hM', s5, sv, x3, rfl, hsv⟩
    have hiA : i < as.length := by omega
    refine ⟨⟨_, L2.V.ref as[i], same_seqT (same_tx s5) h1, by rw [List.getElem?_map, List.getElem?_eq_getElem hiA]; rfl⟩, fun x u H'' M'' y ru hM'' => ?_⟩
    obtain ⟨rfl, hy⟩ := y
    have hy := hy _ (same_seqT (same_tx s5) h1)
    rw [List.getElem?_map, List.getElem?_eq_getElem hiA] at hy
    obtain rfl := (Option.some.inj hy)
    obtain ⟨y, hyd, hyq, hys⟩ := paired_get h2 (List.getElem?_eq_getElem hiA)
    have hyok := hdk.2 y (List.mem_of_getElem? hyd)
    refine wtg_name 3 hN fun M7 hM7 => ⟨[], (fun q hq => by cases hq), ?_⟩
    refine wsf_set 2 hN (wef_call Cb hr (by decide) rfl (waf_cons (wef_v 2 rfl fun u0 M0 r0 n0 => waf_cons (wef_v 3 rfl fun u1 M8 r1 n1 => waf_nil fun M9 n3 ds hds => ?_))))
    cases hds
    refine ⟨sv, deedS n (deed.take i), as[i], y, n, rfl, hsv.mono (by omega), same_seqT (same_tx s5) hyq, fun e => ((hys e).same s5).mono (by omega), fun S0 e => (sm_of hn2 hn6 (take_ok hdk i) e).1, hyok.2, fun v u2 M10 H6 hM10 s6 r6 hv6 => ⟨[], (fun q hq => by cases hq), wsf_nil fun M11 hM11 => ⟨(fun q hq => by cases hq), by omega, s5.trans s6, v, _, rfl, ?_⟩⟩⟩
    rw [deedS_succ hyd]
    exact hv6.mono (by omega)
end
end K10
set_option maxHeartbeats 4000000
/-! The program's own errors: made, raised. -/
namespace K10
open PySem PySem.Spec PyProof.Rows L2 SX
open C8 (Cal pe_c)
/-- ShowError, at D -/
structure ShF (K : PySem.W.Frag) (D : Addr) : Prop where
  rd : PySem.W.readsIn K D (.type "type") = true
  ga : PySem.W.specialIn K (.ref D) "__getattribute__" = some (some (.builtin "type.__getattribute__"))
  at_ : PySem.W.findCls K (.ref D) (.type "type") "__init__" = some (.val (.builtin "ValueError.__init__"))
/-- an error class over it, at C: its __init__ at fI, its field -/
structure ExF (K : PySem.W.Frag) (D C fI : Addr) (fld : Str) : Prop where
  ox : OexC K C
  iC : PySem.W.findIn K (.ref C) "__init__" = some (some (.ref fI))
  tI : PySem.W.typeIn K (.ref fI) = some (.type "function")
  no : PySem.W.findIn K (.ref C) fld = some none
  xf : XfC K C
  ec : ExcC K C
  em : PySem.W.exmOne K (.ref C) (.ref D) = some true
section
variable {X : Cx} {σ : L2.St} {H : Hp} {e : Expr} {es : List Expr} {ta : TA} {p p1 p2 pos pos2 : Pos} {D C fI : Addr} {fld : Str} {rest : List Stmt} {Dn : Ends}
theorem pe_shinit {pl : Sem Bool} (hg : Gl X "ShowError") (hm : X.mg "ShowError" = some (.ref D)) (F : ShF X.K D) (ha : PA X (e :: es) ta)
    (hc : eval (.Call (.Attribute (.Name "ShowError" p1) "__init__" p2) (e :: es) [] pos) X.env = (do
      let cv ← eval (.Name "ShowError" p1) X.env
      standAt p2.atName
      let (g, fst) ← holding [cv] (getMethod cv "__init__" pl)
      callWith pos g fst (backTo pos (starEach (e :: es) X.env)) (backToKw pos (keywordEach [] X.env))) := by rfl)
    (he : starEach (e :: es) X.env = (false, eval e X.env) :: starEach es X.env := by exact star_cons (by rfl)) (hpl : (backTo pos (starEach es X.env)).any (·.1) = false := by exact star_any (by rfl)) :
    PE X (.Call (.Attribute (.Name "ShowError" p1) "__init__" p2) (e :: es) [] pos) (tVeI X.K ta) := ⟨fun pins s σ H Q I h => by
  refine PySem.W.methodCall_KW (ld_glob I hg hm (PySem.W.method_cls I.kIn F.ga (PySem.W.cls_value I.kIn F.rd F.at_ (by decide +kernel) ?_)) (by decide)) hc
  show wpAny _ _ (callWith pos (Value.builtin "ValueError.__init__") [] (backTo pos (starEach (e :: es) X.env)) []) _ _ _
  refine PyProof.Rows.callWith_method1 (thn (ha.run pos pins _ σ H _ (I.tok _) h) fun us s1 ⟨vs, H1, I1, r1, a, C, ws, ev, hl, T, ea, q⟩ => ?_) he hpl
  subst ev
  cases r1 with
  | @cons _ u _ ur ru rr =>
    cases (show u = Value.ref a from ru)
    exact oinit_ok T I1 ea (by rw [← Paired.length rr, sizeLine_eq]; omega) fun s' J => ⟨.non, H1, J, rfl, q⟩⟩
/-- what __init__ does -/
def spInit (C : Addr) (fld : Str) : Sp := fun vs H Q _ => ∃ a v, vs = [V.ref a, v] ∧ H a = some (exo a C none) ∧ ∀ dx, H dx = none → dx ≠ a → Q .non (upd (upd H dx (exd dx [(fld, v)])) a (exo a C (some dx)))
/-- raise C(x) -/
theorem wss_raiseC {k : Nat} {x y : Str} {fd : FuncData} {ps : List Str} {v : V} {W : WX} (EF : ExF X.K D C fI fld) (FI : FnOk X.prog X.w X.K X.mg X.base CX0 k fI fd ps (spInit C fld)) (hb : Binds X.K fd ps []) (hr : Room (k + 1) X.A) (hm : X.mg x = some (.ref C)) (tk : Takes X W) (i : Nat) (hσ : σ[i]? = some (some v))
    (kk : ∀ d H', Same H H' → H' d = some (.xd [(fld, v)]) → W (.ref C) (some d) σ H') (hg : Gl X x := by rfl) (hN : X.N[i]? = some y := by rfl) (hv : Vis X.env.scope y := by first | exact Or.inl rfl | exact Or.inr (Or.inl rfl) | exact Or.inr (Or.inr rfl)) (hd1 : (y == ("__debug__" : Str)) = false := by decide) (hd2 : (y == ("__classdict__" : Str)) = false := by decide)
    (hc : X.calm = true := by rfl) (hdb : (x == ("__debug__" : Str)) = false := by decide) (he : starEach [.Name y p2] X.env = (false, eval (.Name y p2) X.env) :: starEach [] X.env := by exact star_cons (by rfl)) (hpl : (backTo pos (starEach [] X.env)).any (·.1) = false := by exact star_any (by rfl)) :
    WSs X (.Raise (some (.Call (.Name x p) [.Name y p2] [] pos)) none pos2 :: rest) Dn σ H := by
  refine wss_cons (ws_of (ps_raise hc tk (pmk_oex EF.ox EF.iC EF.tI FI hr hb (dvs := []) .nil (fun _ _ _ _ _ _ _ h => h.elim) hg hm (pa_cons (pe_var hN hv hd1 hd2) pa_nil he) hdb he hpl)) ?_)
  refine ⟨v, hσ, by simp, fun a ha => ⟨a, v, rfl, upd_same, fun dx hdx hne => ⟨rfl, dx, [(fld, v)], upd_same, ?_, ?_, kk dx _ ?_ upd_same⟩⟩⟩
  · rw [upd_ne hne, upd_same]
  · rw [upd_ne hne] at hdx
    exact hdx
  · rw [upd_ne hne] at hdx
    intro b u hbu
    have ha' : b ≠ a := fun z => by rw [z, ha] at hbu; cases hbu
    have hd' : b ≠ dx := fun z => by rw [z, hdx] at hbu; cases hbu
    rw [upd_ne hd', del_ne ha', upd_ne ha', upd_ne hd', upd_ne ha']
    exact hbu
end
/-- the class is there, its __init__ known -/
structure GdX (P : Program) (w : World) (K : PySem.W.Frag) (mg : Str → Option Value) (base : Heap) (x : Str) (D C : Addr) (fld : Str) : Prop where
  ex : ∃ (fI : Addr) (fd : FuncData) (ps : List Str), ExF K D C fI fld ∧ FnOk P w K mg base CX0 1 fI fd ps (spInit C fld) ∧ Binds K fd ps [] ∧ mg x = some (.ref C)
section
variable {P : Program} {w : World} {K : PySem.W.Frag} {mg : Str → Option Value} {base : Heap} {D C f : Addr} {fd : FuncData}
theorem fn_sizeInit (F : FunD K "__init__" "BadSize.__init__" (defArgs s_BadSize_init) (defBody s_BadSize_init) (defScope s_BadSize_init) [] [] f fd) (S : ShF K D) (hm : mg "ShowError" = some (.ref D)) (EF : ExF K D C f "size") : FnOk P w K mg base CX0 1 f fd p_BadSize_init (spInit C "size") := by
  refine F.ok sc_BadSize_init (fun vs H Q E ⟨_, _, h, _⟩ => by rw [h]; rfl) fun cdv A outer s H vs Q E hr h => ⟨_, PSs.nox (pssw _), ?_⟩
  obtain ⟨a, v, rfl, ha, k⟩ := h
  refine wss_exprW (we_of (pe_shinit rfl hm S (paw _)) (wa_cons (we_var 0 rfl (wa_cons (we_of pe_str (wa_nil ⟨a, C, _, rfl, by simp, EF.ox, ha, ?_⟩))))))
  exact wss_cons (ws_of (ps_ost (pw _) (pw _)) (we_var 1 rfl (we_var 0 rfl ⟨a, C, rfl, EF.ox, EF.no, .inl ⟨ha, fun dx h1 h2 => wss_nil (k dx h1 h2)⟩⟩)))
theorem fn_deedInit (F : FunD K "__init__" "BadDeed.__init__" (defArgs s_BadDeed_init) (defBody s_BadDeed_init) (defScope s_BadDeed_init) [] [] f fd) (S : ShF K D) (hm : mg "ShowError" = some (.ref D)) (EF : ExF K D C f "deed") : FnOk P w K mg base CX0 1 f fd p_BadDeed_init (spInit C "deed") := by
  refine F.ok sc_BadDeed_init (fun vs H Q E ⟨_, _, h, _⟩ => by rw [h]; rfl) fun cdv A outer s H vs Q E hr h => ⟨_, PSs.nox (pssw _), ?_⟩
  obtain ⟨a, v, rfl, ha, k⟩ := h
  refine wss_exprW (we_of (pe_shinit rfl hm S (paw _)) (wa_cons (we_var 0 rfl (wa_cons (we_of pe_str (wa_nil ⟨a, C, _, rfl, by simp, EF.ox, ha, ?_⟩))))))
  exact wss_cons (ws_of (ps_ost (pw _) (pw _)) (we_var 1 rfl (we_var 0 rfl ⟨a, C, rfl, EF.ox, EF.no, .inl ⟨ha, fun dx h1 h2 => wss_nil (k dx h1 h2)⟩⟩)))
/-- a size that is none, a deed that is none -/
def spSenseX (K : PySem.W.Frag) (CS CD : Addr) : Sp := fun vs H _ E => ∃ (sv dv : V) (ds dd : PyData), vs = [sv, dv] ∧ Dp K H sv ds ∧ Dp K H dv dd ∧
  ((isIntegerD 2 6 ds = false ∧ ∀ d H', Same H H' → H' d = some (.xd [("size", sv)]) → E (.ref CS) (some d) H') ∨
    ((∃ n : Nat, ds = iN n ∧ 2 ≤ n ∧ n ≤ 6 ∧ okD 4 dd = true ∧ (∀ es, tupD dd = .tuple es → ∀ e ∈ es, askD e) ∧ isDeedD n (tupD dd) = false) ∧ ∀ d H', Same H H' → H' d = some (.xd [("deed", dv)]) → E (.ref CD) (some d) H'))
theorem fn_senseX (V : Ev mg) {CS CD : Addr} (F : FunD K "sense" "sense" (defArgs s_sense) (defBody s_sense) (defScope s_sense) [] [] f fd) (GS : GdX P w K mg base "BadSize" D CS "size") (GD : GdX P w K mg base "BadDeed" D CD "deed") (Ci : Cal P w K mg base 1 "is_integer" (spF K P_is_integer) []) (Cd : Cal P w K mg base 7 "is_deed" (spF K P_is_deed) []) : FnOk P w K mg base (L2.CX P w) 15 f fd p_sense (spSenseX K CS CD) := by
  refine F.ok sc_sense (fun vs H Q E ⟨_, _, _, _, h, _⟩ => by rw [h]; rfl) fun cdv A outer s H vs Q E hr h => ⟨_, pssw _, ?_⟩
  obtain ⟨sv, dv, ds, dd, rfl, d1, d2, h⟩ := h
  obtain ⟨fS, fdS, psS, ES, FS, bS, mS⟩ := GS.ex
  obtain ⟨fD, fdD, psD, ED, FD, bD, mD⟩ := GD.ex
  refine wss_when (b := !isIntegerD 2 6 ds) (et_not (et_val (ee_call Ci hr (ea_cons (ee_var 0 rfl d1) (ea_cons ee_int (ea_1 ee_int))) ⟨ds, 2, 6, rfl, rfl⟩))) (fun hb H1 s1 => ?_) fun hb H1 s1 => ?_
  · have hb' : isIntegerD 2 6 ds = false := by simpa using hb
    rcases h with ⟨_, k⟩ | ⟨⟨n, rfl, h2, h6, _⟩, _⟩
    · exact wss_raiseC (W := fun cls d _ H => E cls d H) ES FS bS (hr.mono (by decide)) mS (takes_of rfl rfl rfl rfl) 0 rfl fun d H' s' hd => k d H' (s1.trans s') hd
    · exfalso
      have : isIntegerD 2 6 (iN n) = true := by
        show (decide ((2 : Int) ≤ n) && decide ((n : Int) ≤ 6)) = true
        rw [decide_eq_true (by omega), decide_eq_true (by omega)]
        rfl
      rw [this] at hb'
      cases hb'
  · rcases h with ⟨e, _⟩ | ⟨⟨n, rfl, h2, h6, hok, hask, hno⟩, k⟩
    · rw [e] at hb
      cases hb
    · refine wss_when (b := !isDeedD n (tupD dd)) (et_not (et_val (ee_call Cd hr (ea_cons (ee_var 1 rfl (d2.same s1)) (ea_1 (ee_var 0 rfl (d1.same s1)))) ⟨dd, n, rfl, hok, hask, rfl⟩))) (fun hb H2 s2 => ?_) fun hb H2 s2 => ?_
      · exact wss_raiseC (W := fun cls d _ H => E cls d H) ED FD bD (hr.mono (by decide)) mD (takes_of rfl rfl rfl rfl) 1 rfl fun d H' s' hd => k d H' ((s1.trans s2).trans s') hd
      · rw [hno] at hb
        cases hb
end
end K10
set_option maxHeartbeats 4000000
/-! The error caught. -/
namespace K10
open PySem PySem.Spec PyProof.Rows L2 SX
open C8 (Cal pe_c)
section
variable {X : Cx} {a C d : Addr} {oe : Obj} {pn : List (Addr × Obj)} {σ : L2.St} {H : Hp} {e b' : Expr} {p p1 p2 pos apos : Pos}
/-- isinstance(e, c), e caught, with a dict -/
def rIsD (K : PySem.W.Frag) (C a d : Addr) : List V → Hp → VK → Prop := fun xs H Q => ∃ (c : V) (cv : Value) (b : Bool) (fs : List (Str × V)), xs = [.ref a, c] ∧ (∀ u, RelV c u → u = cv) ∧ PySem.W.kitOne K (.ref C) cv = some b ∧ H d = some (.xd fs) ∧ Q (.bl b) H
theorem call_isD (E : ExcC X.K C) (hz : Zc (.ref C) (some d) oe) (hf : ∃ vs, oe.data = .fields vs) : CallR (X.suite a ((a, oe) :: pn)) (.builtin "isinstance") (rIsD X.K C a d) := fun pins s σ H xs us Q I r ⟨c, cv, b, fs, hx, hcv, hk, hd, q⟩ => by
  subst hx
  match us, r with
  | [u1, u2], .cons r1 (.cons r2 .nil) =>
    cases (show u1 = Value.ref a from r1)
    rw [hcv u2 r2]
    obtain ⟨ha, _⟩ := I.pin (a, oe) (List.mem_append_left _ List.mem_cons_self)
    obtain ⟨mA, hns, _⟩ := (I.hok d _ hd : ObjOk X.prog X.w H s.heap d (.xd fs))
    obtain ⟨od, ho, _⟩ : ∃ od, s.heap.get? d = some od ∧ True := by
      obtain ⟨o, _, _, e, _⟩ := hns
      exact ⟨o, e, trivial⟩
    obtain ⟨vs, hv⟩ := hf
    have J : PySem.W.InstAt s.heap a oe C (some od) := ⟨ha, hz.1, by unfold PySem.W.notCls; rw [hv] <;> rfl, by rw [hz.2]; exact ho⟩
    have hcl : (PySem.W.clsIn X.K C).isSome = true := by
      have := E.hd
      unfold PySem.W.hasDictIn at this
      cases q : PySem.W.clsIn X.K C with
      | none => rw [q] at this; cases this
      | some _ => rfl
    exact PySem.W.kia_one (PySem.W.kitx_exc (od := some od) hcl E.hg E.hk E.hs E.ha E.hn E.ht E.hm) I.kIn J hk (fun z => nomatch z) fun tk => ⟨.bl b, H, I.tok tk, rfl, q⟩
theorem ee_isD {fs : List (Str × V)} {n : Str} {cv : Value} {b : Bool} (E : ExcC X.K C) (hz : Zc (.ref C) (some d) oe) (hf : ∃ vs, oe.data = .fields vs) (hd : H d = some (.xd fs)) (i : Nat) (hσ : σ[i]? = some (some (.ref a))) (hk : PySem.W.kitOne X.K (.ref C) cv = some b)
    (hc : ∀ H1, WE (X.suite a ((a, oe) :: pn)) e σ H1 fun c H2 => H2 = H1 ∧ ∀ u, RelV c u → u = cv) (hm : X.mg "isinstance" = none) (hN : X.N[i]? = some n := by rfl) (hv : Vis X.env.scope n := by first | exact Or.inl rfl | exact Or.inr (Or.inl rfl) | exact Or.inr (Or.inr rfl)) (hd1 : (n == ("__debug__" : Str)) = false := by decide) (hd2 : (n == ("__classdict__" : Str)) = false := by decide)
    (hg : Gl X "isinstance" := by rfl) (he : starEach [.Name n p1, e] X.env = (false, eval (.Name n p1) X.env) :: starEach [e] X.env := by exact star_cons (by rfl)) (he2 : starEach [e] X.env = (false, eval e X.env) :: starEach [] X.env := by exact star_cons (by rfl)) (hpl : (backTo pos (starEach [e] X.env)).any (·.1) = false := by exact star_any (by rfl)) :
    EE (X.suite a ((a, oe) :: pn)) σ H (.Call (.Name "isinstance" p) [.Name n p1, e] [] pos) (.bool b) := fun H1 s1 =>
  we_of (pe_callB (X := X.suite a ((a, oe) :: pn)) (call_isD E hz hf) hg hm (by decide +kernel) (pa_cons (pe_var hN hv hd1 hd2) (pa_cons (pw e) pa_nil he2) he) (by decide) (by decide) he hpl) ⟨.ref a, hσ, (hc H1).mono fun c H2 ⟨e2, hu⟩ => ⟨c, cv, b, fs, rfl, hu, hk, by rw [e2]; exact s1 _ _ hd, by rw [e2]; exact ⟨Same.refl _, .bl b⟩⟩⟩
end
section
variable {X : Cx} {σ : L2.St} {H : Hp} {e a : Expr} {p p1 p2 pos apos : Pos} {C : Addr}
/-- the module's class as a value -/
theorem we_cls {x : Str} (hm : X.mg x = some (.ref C)) (hg : Gl X x := by rfl) (hd : (x == ("__debug__" : Str)) = false := by decide) : ∀ H1, WE X (.Name x pos) σ H1 fun c H2 => H2 = H1 ∧ ∀ u, RelV c u → u = .ref C := fun H1 => we_of (pe_glob (v := .ref C) hg hm rfl hd) ⟨rfl, fun u r => r⟩
theorem we_ve (hm : X.mg "ValueError" = none) (hg : Gl X "ValueError" := by rfl) : ∀ H1, WE X (.Name "ValueError" pos) σ H1 fun c H2 => H2 = H1 ∧ ∀ u, RelV c u → u = .type "ValueError" := fun H1 => .mk fun pins s I => ld_blt I hg hm PyProof.Rows.Boot.«ValueError» ⟨.ty "ValueError", H1, I, rfl, rfl, fun u r => r⟩ (by decide) (by decide)
theorem ee_countB {bs : List Bool} {c : Bool} (ho : EE X σ H a (.list (bs.map .bool))) (h : EE X σ H e (.bool c)) (hs : starEach [e] X.env = (false, eval e X.env) :: starEach [] X.env := by exact star_cons (by rfl)) (hpl : (backTo pos (starEach [] X.env)).any (·.1) = false := by exact star_any (by rfl))
    (hb : attributeBase a "count" X.env (eval a X.env) = eval a X.env := by rfl) (hline : (apos.endLine == pos.line) = true := by rfl)
    (hfew : ((backTo pos (starEach [e] X.env)).all (fun x => !x.1) && (backToKw pos (keywordEach [] X.env)).all (fun x => x.1.isSome) && decide (([e] : List Expr).length + ([] : List Keyword).length + (if ([] : List Keyword).isEmpty then 0 else 1) < 30)) = true := by rfl) :
    EE X σ H (.Call (.Attribute a "count" apos) [e] [] pos) (.int (bs.count c : Nat)) := fun H1 s1 =>
  we_of (pe_bm PySem.F.plainAttrs_list PySem.F.slot_list_count PySem.F.type_list_count mt_countF (pw a) (pa_cons (pw e) pa_nil hs) hb hfew hline hs hpl) ((ho H1 s1).mono fun v H2 ⟨s2, dv⟩ => by
    refine ⟨?_, ?_⟩
    · obtain ⟨q, ys, rfl, hq, hy⟩ := dp_lst dv
      exact .inl ⟨rfl, _, hq⟩
    refine (h H2 (s1.trans s2)).mono fun u H3 ⟨s3, du⟩ => ?_
    obtain ⟨q, ys, rfl, hq3, hy⟩ := dp_lst (dv.same s3)
    have hy := dpAll_bools hy
    refine ⟨q, ys, u, rfl, rfl, hq3, by rw [dp_bool du]; rfl, by rw [hy]; simp [flatV], s2.trans s3, ?_⟩
    have : (ys.countP fun z => eqV z u) = bs.count c := by
      rw [hy, dp_bool du, List.countP_map]
      unfold List.count
      congr 1
    rw [this]
    exact .int _)
end
/-- an error of the class C: which it is -/
structure IsF (K : PySem.W.Frag) (C CS CD CW CO CT : Addr) (b1 b2 : Bool) : Prop where
  s : PySem.W.kitOne K (.ref C) (.ref CS) = some b1
  d : PySem.W.kitOne K (.ref C) (.ref CD) = some b2
  w : PySem.W.kitOne K (.ref C) (.ref CW) = some false
  o : PySem.W.kitOne K (.ref C) (.ref CO) = some false
  t : PySem.W.kitOne K (.ref C) (.ref CT) = some false
  v : PySem.W.kitOne K (.ref C) (.type "ValueError") = some true
structure ClF (P : Program) (w : World) (K : PySem.W.Frag) (mg : Str → Option Value) (base : Heap) (D CS CD CW CO CT : Addr) : Prop where
  show_ : mg "ShowError" = some (.ref D)
  size : GdX P w K mg base "BadSize" D CS "size"
  deed : GdX P w K mg base "BadDeed" D CD "deed"
  world : mg "BadWorld" = some (.ref CW)
  word : mg "BadWord" = some (.ref CO)
  many : mg "TooMany" = some (.ref CT)
  iS : IsF K CS CS CD CW CO CT true false
  iD : IsF K CD CS CD CW CO CT false true
section
variable {P : Program} {w : World} {K : PySem.W.Frag} {mg : Str → Option Value} {base : Heap} {D CS CD CW CO CT f fs' : Addr} {fd fds : FuncData}
def P_toldX : List PyData → PyData → Prop := fun ds r => ∃ d1 d2, ds = [d1, d2] ∧ ((isIntegerD 2 6 d1 = false ∧ r = .tuple [.str "size", d1]) ∨
  ((∃ n : Nat, d1 = iN n ∧ 2 ≤ n ∧ n ≤ 6 ∧ okD 4 d2 = true ∧ (∀ es, tupD d2 = .tuple es → ∀ e ∈ es, askD e) ∧ isDeedD n (tupD d2) = false) ∧ r = .tuple [.str "deed", d2]))
theorem fn_toldX (V : Ev mg) (Z : ClF P w K mg base D CS CD CW CO CT) (F : FunD K "_law_told" "_law_told" (defArgs s_L_told) (defBody s_L_told) (defScope s_L_told) [] [] f fd)
    (FS : FnOk P w K mg base (L2.CX P w) 15 fs' fds p_sense (spSenseX K CS CD)) (hb : Binds K fds p_sense []) (hm : mg "sense" = some (.ref fs')) (kp : PySem.W.keepIn K (.ref fs') = true) : FnOk P w K mg base CX0 16 f fd p_L_told (spF K P_toldX) := by
  refine fn_data F sc_L_told (fun ds r ⟨_, _, h, _⟩ => by rw [h]; rfl) fun cdv A outer s H H0 vs ds r Dn E hr hv hP hk _ => ?_
  obtain ⟨d1, d2, rfl, hP⟩ := hP
  obtain ⟨v1, v2, rfl, dv1, dv2⟩ := dpAll_2 hv
  have hN := sc_L_told.nd
  obtain ⟨_, _, _, ES, _, _, mS⟩ := Z.size.ex
  obtain ⟨_, _, _, ED, _, _, mD⟩ := Z.deed.ex
  refine wss_cons (ws_of (ps_try_as (i := 3) (c := .ref D) (Wout := fun _ _ _ _ => False) (tb := fun W Dx σ H => ∀ pn xe, Takes (Cx.tr _ pn xe) W → PassesOwn _ _ _ xe → WSs (Cx.tr _ pn xe) _ Dx σ H) (ts := fun a cls d Dx σ H => ∀ oe pn, Zc cls d oe → (∃ vs, oe.data = .fields vs) → WSs (Cx.suite _ a ((a, oe) :: pn)) _ Dx σ H) rfl rfl hN rfl rfl ⟨rfl, by decide, .inl Z.show_⟩ (fun _ _ ⟨_, _, _, _, _, _, _, _, _, _, _, _, _, _, _, _, w⟩ => w.elim) (fun W pn xe tk hp => ⟨fun pins s0 σ H Dx I h => h pn xe tk hp pins s0 I⟩) (fun a oe cls d pn hz hf => ⟨fun pins s0 σ H Dx I h => h oe pn hz hf pins s0 I⟩)) ?_)
  intro pn xe tk hp
  refine wss_setW 2 hN (we_of (pe_callS FS hr rfl hm kp hb (fun σ => passAt tk σ) (paw _)) (wa_cons (we_var 0 rfl (wa_cons (we_var 1 rfl (wa_nil ?_))))))
  refine ⟨v1, v2, d1, d2, rfl, dv1, dv2, ?_⟩
  rcases hP with ⟨hno, rfl⟩ | ⟨hno, rfl⟩
  · refine .inl ⟨hno, fun d H1 s1 hd => ⟨true, ES.em, fun _ a ha oe pn2 hz hf => ?_, fun z => by cases z⟩⟩
    refine wss_setN 4 hN (en_lst (ea_cons (ee_isD ES.ec hz hf hd 3 rfl Z.iS.s (we_cls mS) V.isi) (ea_cons (ee_isD ES.ec hz hf hd 3 rfl Z.iS.d (we_cls mD) V.isi) (ea_cons (ee_isD ES.ec hz hf hd 3 rfl Z.iS.w (we_cls Z.world) V.isi) (ea_1 (ee_isD ES.ec hz hf hd 3 rfl Z.iS.o (we_cls Z.word) V.isi)))))) fun q xs H2 s2 hq hq1 hxs => ?_
    have hd2 := s2 _ _ hd
    refine wss_when (b := (false || (false || !true))) (EW.et (ew_or (et_neI (i := ((1 : Nat) : Int)) (j := 1) (ee_countB (bs := [true, false, false, false]) (ee_var 4 rfl (.lst (.of hq1) hxs)) ee_bool) ee_int) fun _ => ew_or (et_val (ee_isD ES.ec hz hf hd2 3 rfl Z.iS.t (we_cls Z.many) V.isi)) fun _ => ew_or1 (et_not (et_val (ee_isD ES.ec hz hf hd2 3 rfl Z.iS.v (we_ve V.ve) V.isi))))) (fun hb => by cases hb) fun _ H3 s3 => ?_
    have hd3 := s3 _ _ hd2
    refine wss_when (b := true) (et_val (ee_isD ES.ec hz hf hd3 3 rfl Z.iS.s (we_cls mS) V.isi)) (fun _ H4 s4 => ?_) fun hb => by cases hb
    have hd4 := s4 _ _ hd3
    refine wss_retW (we_tup (wa_cons (we_of pe_str (wa_cons (we_of (pe_xf ES.xf ES.no hz hf (pe_var (i := 3) rfl (.inl rfl) (by decide) (by decide))) ⟨.ref a, rfl, rfl, rfl, d, _, v1, rfl, hd4, by simp [List.lookup], wa_nil ⟨by simp, fun q2 hq2 => ?_⟩⟩)))))
    have s14 := (((s1.trans s2).trans s3).trans s4).trans (same_new (o := .tup [.str "size", v1]) hq2)
    exact hk _ _ s14 (.tup (.of upd_same) (.cons (.str _) (.cons (dv1.same s14) .nil)))
  · refine .inr ⟨hno, fun d H1 s1 hd => ⟨true, ED.em, fun _ a ha oe pn2 hz hf => ?_, fun z => by cases z⟩⟩
    refine wss_setN 4 hN (en_lst (ea_cons (ee_isD ED.ec hz hf hd 3 rfl Z.iD.s (we_cls mS) V.isi) (ea_cons (ee_isD ED.ec hz hf hd 3 rfl Z.iD.d (we_cls mD) V.isi) (ea_cons (ee_isD ED.ec hz hf hd 3 rfl Z.iD.w (we_cls Z.world) V.isi) (ea_1 (ee_isD ED.ec hz hf hd 3 rfl Z.iD.o (we_cls Z.word) V.isi)))))) fun q xs H2 s2 hq hq1 hxs => ?_
    have hd2 := s2 _ _ hd
    refine wss_when (b := (false || (false || !true))) (EW.et (ew_or (et_neI (i := ((1 : Nat) : Int)) (j := 1) (ee_countB (bs := [false, true, false, false]) (ee_var 4 rfl (.lst (.of hq1) hxs)) ee_bool) ee_int) fun _ => ew_or (et_val (ee_isD ED.ec hz hf hd2 3 rfl Z.iD.t (we_cls Z.many) V.isi)) fun _ => ew_or1 (et_not (et_val (ee_isD ED.ec hz hf hd2 3 rfl Z.iD.v (we_ve V.ve) V.isi))))) (fun hb => by cases hb) fun _ H3 s3 => ?_
    have hd3 := s3 _ _ hd2
    refine wss_when (b := false) (et_val (ee_isD ED.ec hz hf hd3 3 rfl Z.iD.s (we_cls mS) V.isi)) (fun hb => by cases hb) fun _ H4 s4 => ?_
    have hd4 := s4 _ _ hd3
    refine wss_when (b := true) (et_val (ee_isD ED.ec hz hf hd4 3 rfl Z.iD.d (we_cls mD) V.isi)) (fun _ H5 s5 => ?_) fun hb => by cases hb
    have hd5 := s5 _ _ hd4
    refine wss_retW (we_tup (wa_cons (we_of pe_str (wa_cons (we_of (pe_xf ED.xf ED.no hz hf (pe_var (i := 3) rfl (.inl rfl) (by decide) (by decide))) ⟨.ref a, rfl, rfl, rfl, d, _, v2, rfl, hd5, by simp [List.lookup], wa_nil ⟨by simp, fun q2 hq2 => ?_⟩⟩)))))
    have s15 := ((((s1.trans s2).trans s3).trans s4).trans s5).trans (same_new (o := .tup [.str "deed", v2]) hq2)
    exact hk _ _ s15 (.tup (.of upd_same) (.cons (.str _) (.cons (dv2.same s15) .nil)))
end
end K10
set_option maxHeartbeats 4000000
/-! _law_told of a deed. -/
namespace K10
open PySem PySem.Spec PyProof.Rows L2 SX
open C8 (Cal pe_c)
section
variable {X : Cx} {T : TT2} {N : Nat} {σ : L2.St} {H : Hp} {rest body : List Stmt} {D : EndF} {pos : Pos} {h0 : ExceptHandler} {hs : List ExceptHandler}
/-- a try that runs through -/
theorem wsf_try (h : WSF X T N body { nx := fun T' M σ' H' => WSF X T' M rest D σ' H', rt := D.rt } σ H) (hx : ∀ u s, ¬ X.xe u s) : WSF X T N (.Try body (h0 :: hs) [] [] pos :: rest) D σ H := .mk fun pins s I t n => by
  refine wpAny_execs_cons (wpAny_Try_except (wpAny_mono (h pins s I t n) (fun f s1 q => ?_) fun e s1 z => (hx _ _ z).elim))
  cases f with
  | next =>
    obtain ⟨σ', H', T1, I', t', q⟩ := q
    exact wpAny_execs_nil (q pins s1 I' t' (Nat.le_refl _))
  | ret v => exact q
  | brk => exact q.elim
  | cont => exact q.elim
end
section
variable {P : Program} {w : World} {K : PySem.W.Frag} {mg : Str → Option Value} {base : Heap} {f : Addr} {fd : FuncData}
def spTold (K : PySem.W.Frag) (g : Bool) : SpT := fun vs us N H Q => ∃ (n : Nat) (dv : V) (deed : List (Nat × Nat × Nat)), vs = [.int (n : Int), dv] ∧ 2 ≤ n ∧ n ≤ 6 ∧ deedOk n deed ∧ DeedIn K g N H dv deed ∧
  match deedS n deed with
  | none => ∀ p M H', N ≤ M → Same H H' → SqT K H' p [.str "sense", .non] → Q (.ref p) (.ref p) M H'
  | some st => ∀ p q M nets needs H', N ≤ M → Same H H' → SqT K H' p [.str "sense", .ref q] → ToldAt K g M H' q (whL st) nets needs → NetsOf st nets → NeedsOf st needs → Q (.ref p) (.ref p) M H'
theorem fnT_told (F : FunD K "_law_told" "_law_told" (defArgs s_L_told) (defBody s_L_told) (defScope s_L_told) [] [] f fd) (g : Bool) (Cs : CalT P w K mg base 15 "sense" (spSense K g) []) : FnT P w K mg base 16 f fd p_L_told (spTold K g) := by
  refine fnT_of F sc_L_told (fun vs us M H Q ⟨_, _, _, h, _⟩ => by rw [h]; rfl) fun cdv A outer s H vs us Q hr hv h => ⟨[], (fun q hq => by cases hq), ?_⟩
  obtain ⟨n, dv, deed, rfl, hn2, hn6, hdk, hin, hk⟩ := h
  have hN := sc_L_told.nd
  generalize s.toks = N0 at hk hin
  refine wsf_try ?_ (fun _ _ z => z)
  refine wsf_set 2 hN (wef_call Cs hr (Nat.le_refl _) rfl (waf_cons (wef_v 0 rfl fun u0 M0 r0 n0 => waf_cons (wef_v 1 rfl fun u1 M1 r1 n1 => waf_nil fun M2 n2 ds hds => ?_))))
  cases hds
  refine ⟨n, dv, deed, rfl, hn2, hn6, hdk, ?_, ?_⟩
  · obtain ⟨h1, h2⟩ := hin
    refine ⟨h1, fun e => ?_⟩
    obtain ⟨a, e1, e2⟩ := h2 e
    exact ⟨a, e1, e2.mono (by omega)⟩
  cases e : deedS n deed with
  | none =>
    rw [e] at hk
    exact fun M3 H1 hM s1 => ⟨[], (fun q hq => by cases hq), wsf_nil fun M4 hM4 => wsf_ret (wef_tupZ (waf_cons (wef_str fun t ht => waf_cons (wef_v 2 rfl fun u2 M5 r2 n5 => waf_nil fun M6 n6 => ⟨by simp, fun p hp => hk p M6 _ (by omega) (s1.trans (same_new hp)) (.inl (.inr ⟨_, upd_same⟩))⟩))))⟩
  | some st =>
    rw [e] at hk
    exact fun q M3 nets needs H1 hM s1 ht h1 h2 => ⟨[], (fun q hq => by cases hq), wsf_nil fun M4 hM4 => wsf_ret (wef_tupZ (waf_cons (wef_str fun t ht' => waf_cons (wef_v 2 rfl fun u2 M5 r2 n5 => waf_nil fun M6 n6 => ⟨by simp, fun p hp => hk p q M6 nets needs _ (by omega) (s1.trans (same_new hp)) (.inl (.inr ⟨_, upd_same⟩)) ((ht.same (same_new hp)).mono (by omega)) h1 h2⟩))))⟩
end
end K10
set_option maxHeartbeats 4000000
/-! Statements over data lifted beside the tokens; str.replace. -/
namespace K10
open PySem PySem.Spec PyProof.Rows L2 SX
open C8 (Cal pe_c)
section
variable {X : Cx} {T T' : TT2} {N : Nat} {σ : L2.St} {H H' : Hp} {e a b' e1 iter : Expr} {pos p p1 p2 apos px : Pos} {s : Shared} {st : Stmt} {rest body : List Stmt} {D : EndF} {ds : List PyData} {x : Str}
/-- one statement, by what is said of it over data -/
theorem wsf_stW (h : WSs X [st] { nx := fun σ' H' => ∀ M, N ≤ M → WSF X [] M rest D σ' H', rt := fun v H' => ∀ u M, RelV v u → N ≤ M → D.rt v u M H' } σ H) : WSF X T N (st :: rest) D σ H := wsf_st (ws_one h)
/-- for x in iter, over what stands -/
theorem wsf_forV (j : Nat) (hg : PG X (.Name x px) (gName j)) (hp : PassesOwn (model X.prog X.w) X.A X.env X.xe) {H0 : Hp} (b : Same H0 H) (hs : SRV X σ H0 (.Name x px) iter ds) (Pv : Nat → Nat → L2.St → Hp → Prop) (h0 : ∀ M H1, N ≤ M → Same H H1 → Pv 0 M σ H1) (hS : ∀ i M σ' H', Pv i M σ' H' → Same H0 H')
    (step : ∀ i d M σ' H' v H'' M', ds[i]? = some d → Pv i M σ' H' → Same H' H'' → Dp X.K H'' v d → M ≤ M' → WSF X [] M' body { nx := fun _ M3 σ3 H3 => Pv (i + 1) M3 σ3 H3, rt := D.rt } (σ'.set j (some v)) H'') (fin : ∀ M σ' H', Pv ds.length M σ' H' → WSF X [] M rest D σ' H')
    (hc : X.calm = true := by rfl) (hfs : ∀ x, foldedSetIterable iter X.env x = pure x := by intro _; rfl) : WSF X T N (.For (.Name x px) iter body [] pos :: rest) D σ H := by
  obtain ⟨wi, pi, q⟩ := hs
  refine wsf_drop (wsf_for hp (wif_of pi (q H b _ fun J H2 G Y s2 w hG hY => fun M hM => ?_) hc) hfs)
  refine ⟨ds.length, Pv, h0 M H2 hM s2, fun M' σ' H' pv => ⟨w.stops _ (hG H' (hS _ _ _ _ pv)), fin M' σ' H' pv⟩, fun i M' σ' H' hi pv => ⟨w.goes i _ hi (hG H' (hS _ _ _ _ pv)), fun v u H'' M'' y ru hM' => ?_⟩⟩
  obtain ⟨s', d, hd', dx⟩ := hY i H' v H'' hi (hS _ _ _ _ pv) (w.yields i _ _ _ hi (hG H' (hS _ _ _ _ pv)) y)
  exact wtg_of hg fun M3 hM3 => wsf_conseq (wsf_mono (step i d M' σ' H' v H'' M'' hd' pv s' dx hM') hM3) (fun T3 M4 σ3 H3 _ p3 => ⟨fun q hq => (by cases hq), p3⟩) fun _ _ _ _ _ z => z
/-- for x in a list that stays -/
theorem wsf_forL {l : Addr} {xs : List L2.V} {y : Str} {py : Pos} (i0 j : Nat) (hg : PG X (.Name x px) (gName j)) (hp : PassesOwn (model X.prog X.w) X.A X.env X.xe) (hσ : σ[i0]? = some (some (.ref l))) (hl : H l = some (.lst xs)) (Pv : Nat → Nat → L2.St → Hp → Prop) (h0 : Pv 0 N σ H) (hm : ∀ i M M' σ' H', Pv i M σ' H' → M ≤ M' → Pv i M' σ' H') (hS : ∀ i M σ' H', Pv i M σ' H' → Same H H')
    (step : ∀ i v M σ' H' M', xs[i]? = some v → Pv i M σ' H' → M ≤ M' → WSF X [] M' body { nx := fun _ M3 σ3 H3 => Pv (i + 1) M3 σ3 H3, rt := D.rt } (σ'.set j (some v)) H') (fin : ∀ M σ' H', Pv xs.length M σ' H' → WSF X [] M rest D σ' H')
    (hi0 : X.N[i0]? = some y := by rfl) (hv : Vis X.env.scope y := by first | exact Or.inl rfl | exact Or.inr (Or.inl rfl) | exact Or.inr (Or.inr rfl)) (hd1 : (y == ("__debug__" : Str)) = false := by decide) (hd2 : (y == ("__classdict__" : Str)) = false := by decide)
    (hc : X.calm = true := by rfl) (hfs : ∀ z, foldedSetIterable (.Name y py) X.env z = pure z := by intro _; rfl) : WSF X T N (.For (.Name x px) (.Name y py) body [] pos :: rest) D σ H := by
  refine wsf_drop (wsf_for hp (wif_of (pi_list (pe_var hi0 hv hd1 hd2)) ⟨.ref l, hσ, l, rfl, ⟨xs, .of hl⟩, fun M hM => ?_⟩ hc) hfs)
  have lk : ∀ {H' : Hp}, Same H H' → SqL X.K H' l xs := fun s => .of (s _ _ hl)
  refine ⟨xs.length, Pv, hm _ _ _ _ _ h0 hM, fun M' σ' H' pv => ⟨⟨xs, lk (hS _ _ _ _ pv), Nat.le_refl _⟩, fin M' σ' H' pv⟩, fun i M' σ' H' hi pv => ⟨⟨xs, xs[i], lk (hS _ _ _ _ pv), List.getElem?_eq_getElem hi⟩, fun v u H'' M'' y ru hM' => ?_⟩⟩
  obtain ⟨rfl, hy⟩ := y
  exact wtg_of hg fun M3 hM3 => wsf_conseq (wsf_mono (step i v M' σ' H'' M'' (hy xs (lk (hS _ _ _ _ pv))) pv hM') hM3) (fun T3 M4 σ3 H3 _ p3 => ⟨fun q hq => (by cases hq), p3⟩) fun _ _ _ _ _ z => z
/-- an operator, the tokens left beside -/
theorem wef_opR {op : Operator} {r : R2} {Q : L2.V → Value → Nat → Hp → Prop} (ho : OpR X (binaryOp op) r) (h : WEF X [] N a σ H fun v u M H1 => WEF X [] M b' σ H1 fun y u2 M2 H2 => r v y H2 fun z H3 => ∀ u3 M3, RelV z u3 → M2 ≤ M3 → Q z u3 M3 H3) : WEF X [] N (.BinOp a op b' pos) σ H Q := .mk fun pins s I t n => by
  refine wpAny_BinOp (thn (h pins s I t n) fun v s1 ⟨x, H1, I1, r1, t1, n1, q1⟩ => thn (q1 pins s1 I1 t1 (Nat.le_refl _)) fun u s2 ⟨y, H2, I2, r2, t2, n2, q2⟩ => ?_)
  exact wpAny_mono (PySem.wpAny_toks_of (Nat.le_refl s2.toks) (ho pins s2 σ H2 x y v u _ I2 (by exact r1) r2 q2)) (fun w s3 ⟨n3, z, H3, I3, r3, q3⟩ => ⟨z, H3, I3, r3, TkH.nil I3, Nat.le_trans n1 (Nat.le_trans n2 n3), q3 w _ r3 n3⟩) fun _ _ z => z.2
/-- x.replace(e, ''), e a sign whose token is good -/
theorem wef_repl {kx : Str} {l : List Nat} {c : Nat} {j : Nat} {Q : L2.V → Value → Nat → Hp → Prop} (i : Nat) (hσ : σ[i]? = some (some (.str (S l)))) (hl : l.length ≤ 100000) (h : WEF X [] N e1 σ H fun v u M H1 => (∃ t, v = .str (S [c]) ∧ u = .str (S [c]) t ∧ Gtok M t) ∧ ∀ u2 M2, M ≤ M2 → Q (.str (S (l.filter (· != c)))) u2 M2 H1)
    (hN : X.N[i]? = some kx := by rfl) (hv : Vis X.env.scope kx := by first | exact Or.inl rfl | exact Or.inr (Or.inl rfl) | exact Or.inr (Or.inr rfl)) (hd : (kx == ("__debug__" : Str)) = false := by decide) (hcd : (kx == ("__classdict__" : Str)) = false := by decide)
    (hst : starEach [e1, .Constant (.str (S [])) j p2] X.env = [(false, eval e1 X.env), (false, eval (.Constant (.str (S [])) j p2) X.env)] := by exact star_two (by rfl) (by rfl))
    (hbase : attributeBase (.Name kx p1) "replace" X.env (eval (.Name kx p1) X.env) = eval (.Name kx p1) X.env := by rfl) (hline : (apos.endLine == pos.line) = true := by rfl) :
    WEF X [] N (.Call (.Attribute (.Name kx p1) "replace" apos) [e1, .Constant (.str (S [])) j p2] [] pos) σ H Q := .mk fun pins s I t n => by
  have key : wpAny (model X.prog X.w) X.A (eval (.Call (.Attribute (.Name kx p1) "replace" apos) [e1, .Constant (.str (S [])) j p2] [] pos) X.env) (fun u s1 => ∃ H1, Inv X pins σ H1 s1 ∧ (∃ t, u = .str (S (l.filter (· != c))) t) ∧ ∃ M, M ≤ s1.toks ∧ ∀ u2 M2, M ≤ M2 → Q (.str (S (l.filter (· != c)))) u2 M2 H1) X.xe s := ?_
  · exact wpAny_mono (PySem.wpAny_toks_of n key) (fun u s1 ⟨n1, H1, I1, r, M, hM, q⟩ => ⟨.str (S (l.filter (· != c))), H1, I1, r, TkH.nil I1, n1, q u _ hM⟩) fun _ _ z => z.2
  refine PySem.Call_method2 hbase hst hline (raw_name hN hv I hσ (fun v r => ?_) hd hcd)
  obtain ⟨tx, rfl⟩ := r
  refine ⟨"str", _, F.plainAttrs_str, F.slot_str_replace, F.type_str_replace, typeIs_str _ _ _, (fun _ e => nomatch e), Calls.callWith_builtin rfl (Calls.evalArgs_plain (Calls.spliced_cons ?_))⟩
  refine thn (h pins s I t n) fun u s1 ⟨v, H1, I1, r1, t1, n1, ⟨t3, e3, e4, g⟩, q⟩ => ?_
  subst e3 e4
  refine Calls.spliced_cons (Calls.Constant_str (Calls.spliced_nil ?_))
  have g2 : t3 < s1.toks := g.2
  have hz : s1.toks ≠ 0 := Nat.ne_of_gt (Nat.lt_of_le_of_lt (Nat.zero_le _) g2)
  refine wpAny_mono (PySem.wpAny_toks_of (n := s1.toks + 1) (Nat.le_refl _) (PySem.SC.replace (x := S l) (y := S [c]) (z := S []) (Q := fun u s2 => (∃ t', u = .str (Txt.replace (S l) (S [c]) (S [])) t') ∧ ∃ k, s2 = { s1 with toks := k }) g.1 hz (Nat.ne_of_lt g2) rfl (by simp [Str.length]; omega) fun t' k => ⟨⟨t', rfl⟩, k, rfl⟩)) (fun u s2 ⟨n2, ⟨t', e5⟩, k, e6⟩ => ?_) fun _ _ z => z.2
  subst e5 e6
  exact ⟨H1, I1.tok k, ⟨t', by rw [replace_S]⟩, s1.toks, (by omega), q⟩
end
end K10
set_option maxHeartbeats 4000000
/-! _law_led. -/
namespace K10
open PySem PySem.Spec PyProof.Rows L2 SX
open C8 (Cal pe_c)
theorem ledFine_at : ∀ (rs : List (Nat × Nat × Int)) (here : List Nat) {i : Nat} {r : Nat × Nat × Int}, ledFine here rs → rs[i]? = some r → 0 < r.2.2 ∨ 0 ≤ ((((rs.take i).foldl ledF here).count r.2.1 : Nat) : Int) + r.2.2
  | [], _, _, _, _, h => by simp at h
  | x :: rs, here, 0, r, h, e => by
    obtain rfl : x = r := by simpa using e
    exact h.1
  | x :: rs, here, i + 1, r, h, e => by
    rw [List.take_succ_cons, List.foldl_cons]
    exact ledFine_at rs _ h.2 (by simpa using e)
theorem ledF_len (here : List Nat) (r : Nat × Nat × Int) : (ledF here r).length ≤ here.length + 9 := by
  unfold ledF
  by_cases hp : 0 < r.2.2
  · rw [if_pos hp, List.length_append, List.length_replicate]
    have : min r.2.2 9 ≤ 9 := Int.min_le_right _ _
    omega
  · rw [if_neg hp, List.length_append, List.length_replicate]
    have h1 : (here.filter fun x => x != r.2.1).length + here.count r.2.1 = here.length := by
      have h := List.length_eq_countP_add_countP (fun x => x == r.2.1) (l := here)
      rw [List.countP_eq_length_filter, List.countP_eq_length_filter] at h
      have e1 : (here.filter fun a => decide (¬ (a == r.2.1) = true)) = here.filter fun x => x != r.2.1 := by
        congr 1
        funext a
        by_cases q : a = r.2.1 <;> simp [q]
      rw [e1] at h
      rw [List.count, List.countP_eq_length_filter]
      omega
    omega
theorem led_len : ∀ (rs : List (Nat × Nat × Int)) (here : List Nat), (rs.foldl ledF here).length ≤ here.length + 9 * rs.length
  | [], here => by simp
  | x :: rs, here => by
    rw [List.foldl_cons, List.length_cons]
    have := led_len rs (ledF here x)
    have := ledF_len here x
    omega
structure LedOk (w : List (List Nat)) (wh : List Nat) (nets : List (Nat × Nat × Int)) (needs : List (List Nat × Nat × Nat)) : Prop where
  wl : w.length ≤ 6
  rows : ∀ r ∈ w, r.length ≤ 100
  whl : wh.length = w.length
  netl : nets.length ≤ 20
  net : ∀ x ∈ nets, x.2.2.natAbs ≤ 6
  needl : needs.length ≤ 10
  need : ∀ x ∈ needs, x.1.length ≤ 100 ∧ ∀ p ∈ x.1, p < w.length
  fine : needs.all (metW w) = true → ∀ g, g < w.length → ledFine (here0 w wh g) (rowsOf nets g)
theorem flat_lenB : ∀ (ls : List (List Nat)) (B : Nat), (∀ l ∈ ls, l.length ≤ B) → (ls.map (·.length)).sum ≤ B * ls.length
  | [], B, _ => by simp
  | l :: ls, B, h => by
    have h1 := flat_lenB ls B fun x hx => h x (List.mem_cons_of_mem _ hx)
    have h2 := h l (List.mem_cons_self ..)
    rw [List.map_cons, List.sum_cons, List.length_cons, Nat.mul_succ]
    omega
theorem here0_len {w : List (List Nat)} {wh : List Nat} {g : Nat} (h1 : w.length ≤ 6) (h2 : ∀ r ∈ w, r.length ≤ 100) : ((((List.range w.length).filter fun p => decide (wh[p]?.getD 0 = g)).map (rowAt w)).map (·.length)).sum ≤ 600 := by
  refine Nat.le_trans (flat_lenB _ 100 fun l hl => ?_) ?_
  · obtain ⟨p, hp, rfl⟩ := List.mem_map.mp hl
    exact h2 _ (rowAt_mem (List.mem_range.mp (List.mem_filter.mp hp).1)).1
  · rw [List.length_map]
    have := List.length_filter_le (fun p => decide (wh[p]?.getD 0 = g)) (List.range w.length)
    rw [List.length_range] at this
    omega
theorem filt_nil {α : Type} {l : List α} {f : α → Bool} : (l.filter fun x => !f x).isEmpty = l.all f := by
  induction l with
  | nil => rfl
  | cons a l ih =>
    rw [List.filter_cons, List.all_cons, ← ih]
    cases f a <;> simp
section
variable {P : Program} {w : World} {K : PySem.W.Frag} {mg : Str → Option Value} {base : Heap}
def spLed (K : PySem.W.Frag) : SpT := fun vs us N H Q => ∃ (a : Addr) (wv : V) (w : List (List Nat)) (wh : List Nat) (nets : List (Nat × Nat × Int)) (needs : List (List Nat × Nat × Nat)), vs = [.ref a, wv] ∧ ToldAt K true N H a wh nets needs ∧ Dp K H wv (wD w) ∧ LedOk w wh nets needs ∧
  ∀ v u M H', N ≤ M → Same H H' → RelV v u → Dp K H' v (optW (ledW w wh nets needs)) → Q v u M H'
theorem c_led (V : Ev mg) (G : Gd K mg "_law_led" s_L_led) (Cm : Cal P w K mg base 1 "_law_is_met" (spF K P_is_met) []) : CalT P w K mg base 2 "_law_led" (spLed K) [] := by
  obtain ⟨f, fd, F, gg⟩ := G.ex
  refine ⟨f, fd, p_L_led, [], ?_, gg, F.kp, F.bindsN (fun _ _ _ _ _ _ us hl => match us, hl with | [_, _], _ => rfl), .nil⟩
  refine fnT_of F sc_L_led (fun vs us M H Q ⟨_, _, _, _, _, _, h, _⟩ => by rw [h]; rfl) fun cdv A outer s H vs us Q hr hv h => ⟨[], (fun q hq => by cases hq), ?_⟩
  obtain ⟨a, wv, u, wh, nets, needs, rfl, ht, dw, ok, hk⟩ := h
  have hN := sc_L_led.nd
  have hu := room_u hr
  generalize s.toks = N0 at hk ht
  obtain ⟨wr, nr, er, as, t1, t2, t3, t4, t5⟩ := ht
  have hwl := ok.wl
  have hal : as.length = nets.length := Paired.length t4
  have hnl := ok.netl
  -- where, nets, needs = told
  refine wsf_stW (wss_unpack3 0 2 3 4 hN rfl t1 (wss_nil fun M1 hM1 => ?_))
  -- if [need for need in needs if not is_met(..)]: return None
  refine wsf_stW (wss_if (b := !(needs.all (metW u))) (ET.is (et_seqN (en_lc hN (lcr_filt (as := needs) (enc := needD) 10 (srv_tup 4 rfl t5).src hN (fun y => !metW u y) needD (fun y _ _ => imm_need y) (fun y hy v H' s' dx s0 H0' C cl fp => et_not (et_val (ee_call Cm hr (ea_cons (ee_var 1 rfl (dw.same s')) (ea_1 (ee_var 10 rfl dx))) ⟨u, y, rfl, by have := (ok.need y hy).1; omega, (ok.need y hy).2, rfl⟩))) (fun y hy hf v H' s' dx s0 H0' C cl fp => ee_var 10 rfl dx) (by have := ok.needl; omega)))) (by rw [List.isEmpty_map, filt_nil])) (fun hb H1 s1 => wss_ret ee_none fun v H2 s2 d2 => ?_) fun hb H1 s1 => wss_nil (wss_nil fun M2 hM2 => ?_))
  · intro u0 M hr0 hM
    refine hk v u0 M H2 (by omega) (s1.trans s2) hr0 ?_
    have : needs.all (metW u) = false := by simpa using hb
    unfold ledW
    rw [this]
    exact d2
  have hall : needs.all (metW u) = true := by simpa using hb
  -- out = []
  refine wsf_stW (wss_setN 5 hN (en_lst ea_nil) fun ol ys H2 s2 ho0 ho1 hys => wss_nil fun M3 hM3 => ?_)
  cases dpAll_nil hys
  have hz : ∀ {zs : List L2.V}, Same H (upd H2 ol (.lst zs)) := fun {zs} => same_mut (s1.trans s2) (by
    cases e : H ol with
    | none => rfl
    | some o => rw [s1 _ _ e] at ho0; cases ho0)
  have hoH : H ol = none := by
    cases e : H ol with
    | none => rfl
    | some o => rw [s1 _ _ e] at ho0; cases ho0
  -- for goal in range(len(world))
  refine wsf_forV 6 (pgn 6 hN) PassesOwn.never (H0 := H) (s1.trans s2) (ds := (List.range u.length).map fun (i : Nat) => PyData.int (i : Int)) (srv_rangeN (n := u.length) (EE.is (ee_lenS (ds := u.map tx) (ee_var 1 rfl dw) rfl (by rw [List.length_map]; omega) V.len) (by rw [List.length_map])) V.range (by omega))
    (fun i M σ' H' => M3 ≤ M ∧ Same H H' ∧ ∃ (x6 x7 x8 x9 x10 x11 : Option L2.V), σ' = [some (.ref a), some wv, some (.ref wr), some (.ref nr), some (.ref er), some (.ref ol), x6, x7, x8, x9, x10, x11] ∧ H' ol = some (.lst (((List.range i).map (ledRow u wh nets)).map vS))) ?_ ?_ ?_ ?_
  · exact fun M H3 hM s3 => ⟨hM, (s1.trans s2).trans s3, none, none, none, none, none, none, rfl, s3 _ _ ho1⟩
  · exact fun i M σ' H' p => p.2.1
  · rintro i d M σ' H' v H'' M' hd ⟨hM, s3, x6, x7, x8, x9, x10, x11, rfl, ho⟩ s4 dv hM'
    rw [List.getElem?_map] at hd
    obtain ⟨i', hi', rfl⟩ := Option.map_eq_some_iff.mp hd
    have hin : i < u.length := by
      have := (List.getElem?_eq_some_iff.mp hi').1
      rwa [List.length_range] at this
    rw [List.getElem?_range hin] at hi'
    obtain rfl := Option.some.inj hi'
    have s34 := s3.trans s4
    have hfine := ok.fine hall i hin
    -- here = ''.join([..])
    refine wsf_stW (wss_set (d := tx (here0 u wh i)) 7 hN (EE.is (ee_joinS (ls := ((List.range u.length).filter fun p => decide (wh[p]?.getD 0 = i)).map (rowAt u)) ee_str (EE.is (EN.ee (en_lc hN (lcr_filt (as := List.range u.length) (enc := iN) 11 (SRV.src (srv_rangeN (n := u.length) (EE.is (ee_lenS (ds := u.map tx) (ee_var 1 rfl (dw.same s34)) rfl (by rw [List.length_map]; omega) V.len) (by rw [List.length_map])) V.range (by omega))) hN (fun p => decide (wh[p]?.getD 0 = i)) (fun p => tx (rowAt u p)) (fun p _ _ => rfl)
      (fun p hp x H5 s5 dx s0 H0' C cl fp => ET.is (et_eqI (i := ((wh[p]?.getD 0 : Nat) : Int)) (j := (i : Int)) (ee_ixT (ds := wh.map iN) (j := p) (ee_var 2 rfl (t2.same (s34.trans s5))) (ee_var 11 rfl dx) (by
        have hpn : p < wh.length := by rw [ok.whl]; exact List.mem_range.mp hp
        rw [List.getElem?_map, List.getElem?_eq_getElem hpn]; rfl)) (ee_var 6 rfl (dv.same s5))) (by rw [Bool.eq_iff_iff, decide_eq_true_eq, decide_eq_true_eq]; omega))
      (fun p hp hf x H5 s5 dx s0 H0' C cl fp => ee_ixT (ds := u.map tx) (j := p) (ee_var 1 rfl (dw.same (s34.trans s5))) (ee_var 11 rfl dx) (by
        rw [List.getElem?_map, (rowAt_mem (List.mem_range.mp hp)).2]; rfl)) (by rw [List.length_range]; omega)))) (by rw [List.map_map]; rfl)) (by have := here0_len (wh := wh) (g := i) hwl ok.rows; omega)) rfl) fun vh H5 s5 dh => wss_nil fun M5 hM5 => ?_)
    have dh := dp_str dh
    subst dh
    have s35 := s34.trans s5
    -- more = [row for row in nets if row[0] == goal]
    refine wsf_stW (wss_setLcZ (as := nets) (Y := fun r v H3 => ∃ q, v = .ref q ∧ RowAt true N0 H3 q r) (R := fun D H3 v dd => ∃ q r, v = .ref q ∧ RowAt true N0 H3 q r ∧ dd = netD r) 9 8 hN ⟨?_, ?_⟩ (pi_tup (pe_var (i := 3) rfl (by first | exact .inl rfl | exact .inr (.inl rfl) | exact .inr (.inr rfl)) (by decide) (by decide))) (fun H3 s6 R k => ⟨.ref nr, rfl, nr, rfl, ⟨_, same_seqT (same_tx (s35.trans s6)) t3⟩, k _ H3 _ _ (Same.refl H3) (?_ : Walk _ nets.length _ (YAt (as.map L2.V.ref))) (fun H4 s7 => same_seqT (same_tx ((s35.trans s6).trans s7)) t3) fun k' H4 x H6 hk' s7 y => ?_⟩) (by omega) (fun r => decide (r.1 = i)) netD (fun r hr v H3 s6 ⟨q, ev, hq⟩ => ?_) (fun D r hr hf v H3 H4 s6 ⟨q, ev, hq⟩ s7 hD s0 H0' C cl fp => ?_) fun ml zs H6 s6 hm0 hm1 hzs => wss_nil fun M6 hM6 => ?_)
    · rintro D H3 H4 x dd ⟨q, r, e1, e2, e3⟩ s6
      exact ⟨q, r, e1, e2.same s6, e3⟩
    · rintro D H3 x dd ys zs ⟨q, r, e1, e2, e3⟩ hD
      obtain ⟨o, m, t, t1, t2, h1, h2⟩ := e2
      refine ⟨q, r, e1, ⟨o, m, t, t1, t2, ?_, h2⟩, e3⟩
      rw [upd_ne]
      · exact h1
      · intro e
        rw [e, hD] at h1
        cases h1
    · rw [← hal, ← List.length_map (f := L2.V.ref)]
      exact walk_tup
    · obtain ⟨rfl, hx⟩ := y
      rw [List.getElem?_map] at hx
      obtain ⟨q, hq, rfl⟩ := Option.map_eq_some_iff.mp hx
      obtain ⟨r, hr, sr⟩ := paired_get t4 hq
      exact ⟨Same.refl _, r, hr, q, rfl, sr.same ((s35.trans s6).trans s7)⟩
    · subst ev
      exact fun s0 H0' C cl fp => ET.is (et_eqI (i := (r.1 : Int)) (j := (i : Int)) (ee_ixT (ee_var 8 rfl hq.dp) (ee_int (i := ((0 : Nat) : Int))) rfl) (ee_var 6 rfl (dv.same (s5.trans s6)))) (by rw [Bool.eq_iff_iff, decide_eq_true_eq, decide_eq_true_eq]; omega)
    · subst ev
      exact we_var 8 rfl ⟨Same.refl _, q, r, rfl, hq.same s7, rfl⟩
    have hrows : ∃ bs : List Addr, zs = bs.map .ref ∧ Paired (fun q r => RowAt true N0 H6 q r) bs (rowsOf nets i) := by
      have split : ∀ (zs : List L2.V) (rs : List (Nat × Nat × Int)), RAll (fun H3 v dd => ∃ q r, v = L2.V.ref q ∧ RowAt true N0 H3 q r ∧ dd = netD r) H6 zs (rs.map netD) → ∃ bs : List Addr, zs = bs.map .ref ∧ Paired (fun q r => RowAt true N0 H6 q r) bs rs := by
        intro zs rs
        induction rs generalizing zs with
        | nil => intro h; cases h; exact ⟨[], rfl, .nil⟩
        | cons r rs ih =>
          intro h
          cases h with
          | cons x t =>
            obtain ⟨q, r', e1, e2, e3⟩ := x
            obtain ⟨bs, f1, f2⟩ := ih _ t
            have : r = r' := netD_inj e3
            subst this
            exact ⟨q :: bs, by rw [e1, f1]; rfl, .cons e2 f2⟩
      exact split zs _ hzs
    obtain ⟨bs, rfl, hbs⟩ := hrows
    have hbl : bs.length = (rowsOf nets i).length := Paired.length hbs
    have hrl : (rowsOf nets i).length ≤ 20 := Nat.le_trans (List.length_filter_le ..) hnl
    have h0l : (here0 u wh i).length ≤ 600 := by
      have := here0_len (wh := wh) (g := i) hwl ok.rows
      unfold here0
      rw [List.length_flatten]
      exact this
    have s36 := s35.trans s6
    have ho6 : H6 ol = some (.lst (((List.range i).map (ledRow u wh nets)).map vS)) := s6 _ _ (s5 _ _ (s4 _ _ ho))
    -- for row in more
    refine wsf_forL 9 8 (pgn 8 hN) PassesOwn.never rfl hm1 (fun k M7 σ7 H7 => M6 ≤ M7 ∧ Same H6 H7 ∧ ∃ x8 : Option L2.V, σ7 = [some (.ref a), some wv, some (.ref wr), some (.ref nr), some (.ref er), some (.ref ol), some v, some (.str (S (((rowsOf nets i).take k).foldl ledF (here0 u wh i)))), x8, some (.ref ml), x10, x11]) ⟨Nat.le_refl _, Same.refl _, x8, rfl⟩ (fun k M7 M8 σ7 H7 ⟨p1, p2, p3⟩ hle => ⟨by omega, p2, p3⟩) (fun k M7 σ7 H7 p => p.2.1) ?_ ?_
    · rintro k y M7 σ7 H7 M8 hy ⟨hM7, s7, x8, rfl⟩ hM8
      rw [List.getElem?_map] at hy
      obtain ⟨q, hq, rfl⟩ := Option.map_eq_some_iff.mp hy
      obtain ⟨r, hr, sr⟩ := paired_get hbs hq
      have sr7 := sr.same s7
      have hrm : r ∈ nets := (List.mem_filter.mp (List.mem_of_getElem? hr)).1
      have hr6 := ok.net r hrm
      have hf := ledFine_at _ _ hfine hr
      have hlen := led_len ((rowsOf nets i).take k) (here0 u wh i)
      have hkl : ((rowsOf nets i).take k).length ≤ 20 := by rw [List.length_take]; omega
      have hnext : ((rowsOf nets i).take (k + 1)).foldl ledF (here0 u wh i) = ledF (((rowsOf nets i).take k).foldl ledF (here0 u wh i)) r := by
        rw [List.take_succ, hr, List.foldl_append]
        rfl
      generalize ((rowsOf nets i).take k).foldl ledF (here0 u wh i) = here at hf hlen hnext
      have hhl : here.length ≤ 800 := by omega
      have dpr : ∀ {H8 : Hp}, Same H7 H8 → Dp K H8 (.ref q) (netD r) := fun s8 => (sr7.same s8).dp
      refine wsf_if (wtf_et (et_gt (i := r.2.2) (j := 0) (ee_ixT (ee_var 8 rfl (dpr (Same.refl _))) (ee_int (i := ((2 : Nat) : Int))) rfl) ee_int) fun H8 s8 => ?_)
      by_cases hp : 0 < r.2.2
      · rw [if_pos (by simpa using hp)]
        have m1 : min r.2.2 9 ≤ 9 := Int.min_le_right _ _
        have m2 : 0 ≤ min r.2.2 9 := by omega
        refine wsf_stW (wss_set 7 hN (ee_addS (ee_var 7 rfl (.str _)) (ee_mulS (c := r.2.1) (n := min r.2.2 9) (ee_ixT (ee_var 8 rfl (dpr s8)) (ee_int (i := ((1 : Nat) : Int))) rfl) (EE.is (ee_min2 (i := r.2.2) (j := 9) (ee_ixT (ee_var 8 rfl (dpr s8)) (ee_int (i := ((2 : Nat) : Int))) rfl) ee_int V.min) (by congr 1; rw [Int.min_def]; split <;> split <;> omega)) (by omega) (by omega)) (by
          rw [List.length_replicate]
          have : min r.2.2 9 ≤ 9 := Int.min_le_right _ _
          omega)) fun v9 H9 s9 d9 => wss_nil fun M9 hM9 => wsf_nil fun M10 hM10 => wsf_nil fun M11 hM11 => ⟨by omega, s7.trans (s8.trans s9), some (.ref q), ?_⟩)
        rw [dp_str d9, hnext]
        unfold ledF
        rw [if_pos hp]
        rfl
      · rw [if_neg (by simpa using hp)]
        have hpos : 0 ≤ ((here.count r.2.1 : Nat) : Int) + r.2.2 := hf.resolve_left hp
        refine wsf_if (wtf_et (et_lt (ee_add (ee_countS (ee_var 7 rfl (.str _)) (ee_ixT (ee_var 8 rfl (dpr s8)) (ee_int (i := ((1 : Nat) : Int))) rfl)) (ee_ixT (ee_var 8 rfl (dpr s8)) (ee_int (i := ((2 : Nat) : Int))) rfl)) ee_int) fun H9 s9 => ?_)
        rw [if_neg (by simpa using hpos)]
        obtain ⟨o, m, tt, tt1, tt2, k1, k2, k3, k4⟩ := sr7.same (s8.trans s9)
        have kt : Ktup H9 q [.int (r.1 : Int), .str (S [r.2.1]), .int r.2.2] [Value.int (r.1 : Int) tt1, .str (S [r.2.1]) tt, .int r.2.2 tt2] := ⟨o, m, k1, k2, k3⟩
        have fl : (here.filter (· != r.2.1)).length ≤ here.length := List.length_filter_le ..
        have cl : here.count r.2.1 ≤ here.length := List.count_le_length
        refine wsf_set 7 hN (wef_opR op_add_str (wef_repl 7 rfl (by omega) (wef_ixK (i := 1) (wef_v 8 rfl fun u1 M9 r1 n1 => ⟨rfl, kt, wef_int fun t' M10 n2 => ⟨rfl, Same.refl _, ⟨tt, rfl, rfl, (k4 rfl).mono (by omega)⟩, fun u2 M11 n3 => ?_⟩⟩) rfl rfl)))
        refine wef_of (EE.run (ee_mulS (c := r.2.1) (n := ((here.count r.2.1 : Nat) : Int) + r.2.2) (ee_ixT (ee_var 8 rfl (dpr (s8.trans s9))) (ee_int (i := ((1 : Nat) : Int))) rfl) (ee_add (ee_countS (ee_var 7 rfl (.str _)) (ee_ixT (ee_var 8 rfl (dpr (s8.trans s9))) (ee_int (i := ((1 : Nat) : Int))) rfl)) (ee_ixT (ee_var 8 rfl (dpr (s8.trans s9))) (ee_int (i := ((2 : Nat) : Int))) rfl)) (by omega) (by omega)) fun v9 H10 s10 d9 u3 M12 r3 n4 => ⟨_, _, rfl, dp_str d9, by rw [sizeLine_eq, S_len, S_len, List.length_replicate]; omega, fun u4 M13 r4 n5 => ⟨[], (fun q hq => by cases hq), wsf_nil fun M14 n6 => wsf_nil fun M15 n7 => wsf_nil fun M16 n8 => ⟨by omega, s7.trans (s8.trans (s9.trans s10)), some (.ref q), ?_⟩⟩⟩)
        rw [hnext]
        unfold ledF
        rw [if_neg hp, S_cat]
        rfl
    · rintro M7 σ7 H7 ⟨hM7, s7, x8', rfl⟩
      rw [List.length_map, hbl, List.take_of_length_le (Nat.le_refl _)]
      have hlen := led_len (rowsOf nets i) (here0 u wh i)
      refine wsf_append 5 rfl (s7 _ _ ho6) (by rw [List.length_map, List.length_map, List.length_range]; omega) (EE.run (ee_js ee_str (ee_var 7 rfl (.str _)) (by omega) V.sorted hu) fun v8 H8 s8 d8 => ⟨s8, fun M8 hM8 => wsf_nil fun M9 hM9 => ⟨by omega, same_mut (((s36.trans s7).trans s8)) hoH, _, _, _, _, _, _, rfl, ?_⟩⟩)
      rw [upd_same, List.range_succ, List.map_append, List.map_append, dp_str d8]
      rfl
  · rintro M σ' H' ⟨hM, s3, x6, x7, x8, x9, x10, x11, rfl, ho⟩
    rw [List.length_map, List.length_range] at ho
    refine wsf_ret (wef_of (we_tupleL 5 rfl ho (fun q hq u0 M0 r0 hM0 => hk _ _ _ _ (by omega) (s3.trans (same_new hq)) r0 ?_) V.tuple))
    unfold ledW
    rw [if_pos hall]
    show Dp K _ _ (wD _)
    refine .tup (.of upd_same) ?_
    generalize upd H' q _ = H9
    have e1 : ((List.range u.length).map (ledRow u wh nets)).map vS = (((List.range u.length).map (ledRow u wh nets)).map S).map L2.V.str := by rw [List.map_map (f := S)]; rfl
    have e2 : ((List.range u.length).map (ledRow u wh nets)).map tx = (((List.range u.length).map (ledRow u wh nets)).map S).map PyData.str := by rw [List.map_map (f := S)]; rfl
    rw [e1, e2]
    exact dpAll_ofStrs _
end
end K10
set_option maxHeartbeats 4000000
/-! Worlds' signs; the worlds that are tried. -/
namespace K10
open PySem PySem.Spec PyProof.Rows L2 SX
def CodW (w : List (List Nat)) : Prop := ∀ r ∈ w, ∀ z ∈ r, z < 1114112
theorem let_lt {c : Nat} (h : c ∈ LET) : c < 1114112 := by have := mem_LET.mp h; omega
theorem cod_rep (n : Nat) : CodW (List.replicate n []) := fun r hr z hz => by rw [List.eq_of_mem_replicate hr] at hz; cases hz
theorem cod_row {w : List (List Nat)} (h : CodW w) (i : Nat) : ∀ z ∈ rowAt w i, z < 1114112 := fun z hz => by
  unfold rowAt at hz
  cases e : w[i]? with
  | none => rw [e] at hz; cases hz
  | some r => rw [e] at hz; exact h r (List.mem_of_getElem? e) z hz
theorem cod_srt {l : List Nat} (h : ∀ z ∈ l, z < 1114112) : ∀ z ∈ srt l, z < 1114112 := fun z hz => h z ((srt_perm l).mem_iff.mp hz)
theorem cod_app {a b : List Nat} (h : ∀ z ∈ a, z < 1114112) (k : ∀ z ∈ b, z < 1114112) : ∀ z ∈ a ++ b, z < 1114112 := fun z hz => (List.mem_append.mp hz).elim (h z) (k z)
theorem cod_set {w : List (List Nat)} (h : CodW w) {i : Nat} {l : List Nat} (hl : ∀ z ∈ l, z < 1114112) : CodW (w.set i l) := fun r hr => by
  rcases set_mem hr with rfl | hr
  · exact hl
  · exact h r hr
theorem cod_put {w : List (List Nat)} (h : CodW w) {i : Nat} {l : List Nat} (hl : ∀ z ∈ l, z < 1114112) : CodW (putW w i l) := fun r hr => by
  unfold putW at hr
  rcases List.mem_append.mp hr with hr | hr
  · exact h r (List.mem_of_mem_take hr)
  · rcases List.mem_append.mp hr with hr | hr
    · rw [List.mem_singleton.mp hr]
      exact cod_srt (cod_app (cod_row h i) hl)
    · exact h r (List.mem_of_mem_drop hr)
theorem cod_alone {n c : Nat} (hc : c < 1114112) : ∀ (m : Nat), ∀ w ∈ aloneW n c m, CodW w
  | 0, w, h => by rw [List.mem_singleton.mp h]; exact cod_rep n
  | m + 1, w, h => by
    obtain ⟨u, hu, hw⟩ := List.mem_flatMap.mp h
    obtain ⟨s, hs, rfl⟩ := List.mem_map.mp hw
    exact cod_put (cod_alone hc m u hu) fun z hz => by rw [List.mem_singleton.mp hz]; exact hc
theorem cod_join {u v : List (List Nat)} (hu : CodW u) (hv : CodW v) : CodW (joinW u v) := fun r hr => by
  unfold joinW at hr
  obtain ⟨i, hi⟩ := List.mem_iff_getElem?.mp hr
  rw [List.getElem?_zipWith] at hi
  cases e1 : u[i]? with
  | none => rw [e1] at hi; simp at hi
  | some a =>
    cases e2 : v[i]? with
    | none => rw [e1, e2] at hi; simp at hi
    | some b =>
      rw [e1, e2] at hi
      obtain rfl : srt (a ++ b) = r := by simpa using hi
      exact cod_srt (cod_app (hu a (List.mem_of_getElem? e1)) (hv b (List.mem_of_getElem? e2)))
theorem good_join {n A B : Nat} {u v : List (List Nat)} (hu : GoodW n A u) (hv : GoodW n B v) : GoodW n (A + B) (joinW u v) := by
  refine ⟨(joinW_length (hu.1.trans hv.1.symm)).trans hu.1, fun r hr => ?_, fun r hr => ?_⟩ <;>
  · unfold joinW at hr
    obtain ⟨i, hi⟩ := List.mem_iff_getElem?.mp hr
    rw [List.getElem?_zipWith] at hi
    cases e1 : u[i]? with
    | none => rw [e1] at hi; simp at hi
    | some a =>
      cases e2 : v[i]? with
      | none => rw [e1, e2] at hi; simp at hi
      | some b =>
        rw [e1, e2] at hi
        obtain rfl : srt (a ++ b) = r := by simpa using hi
        first
          | exact srt_sorted _
          | (rw [srt_len, List.length_append]
             have := hu.2.2 a (List.mem_of_getElem? e1)
             have := hv.2.2 b (List.mem_of_getElem? e2)
             omega)
theorem good_met {n c : Nat} : ∀ (needs : List (List Nat × Nat × Nat)) (u : List (List Nat)) (B : Nat), GoodW n B u → CodW u → (∀ x ∈ needs, LotOk n x.1 ∧ x.2.1 ∈ LET) → GoodW n (B + ndSum needs) (needs.foldl (metStep c) u) ∧ CodW (needs.foldl (metStep c) u)
  | [], u, B, h, k, _ => ⟨h, k⟩
  | x :: needs, u, B, h, k, hx => by
    obtain ⟨⟨h1, h2, h3⟩, hL⟩ := hx x (List.mem_cons_self ..)
    have e : ndSum (x :: needs) = x.2.2 + ndSum needs := by simp [ndSum]
    rw [List.foldl_cons, e, ← Nat.add_assoc]
    refine good_met needs _ _ ?_ ?_ fun y hy => hx y (List.mem_cons_of_mem _ hy)
    · unfold metStep
      split
      · exact good_mono h (by omega)
      · have hp : x.1.headD 0 < n := by
          cases q : x.1 with
          | nil => exact absurd q h1
          | cons a l => exact h3 a (by rw [q]; exact List.mem_cons_self ..)
        have := good_put (l := List.replicate x.2.2 x.2.1) h hp
        rw [List.length_replicate] at this
        exact this
    · unfold metStep
      split
      · exact k
      · exact cod_put k fun z hz => by rw [List.eq_of_mem_replicate hz]; exact let_lt hL
theorem cod_step {w w' : List (List Nat)} {x : Nat × Nat × Nat} (h : CodW w) (hw : whatOk x.1) (e : stepW w x = some w') : CodW w' := by
  unfold stepW at e
  split at e
  · cases e
    exact cod_set (cod_set h (cod_srt (cod_app (cod_row h _) (cod_row h _)))) fun z hz => by cases hz
  · split at e
    · cases e
      exact cod_set (cod_set h (cod_row h _)) (cod_row h _)
    · split at e
      · cases e
        refine cod_set (cod_set h fun z hz => cod_row h _ z (List.mem_of_mem_erase hz)) (cod_srt (cod_app (cod_row h _) fun z hz => ?_))
        rw [List.mem_singleton.mp hz]
        rcases hw with a | a | a
        · exact let_lt a
        · omega
        · omega
      · cases e
theorem done_ok {n : Nat} : ∀ (deed : List (Nat × Nat × Nat)) {w w' : List (List Nat)} {B : Nat}, SortW w → BndW B w → CodW w → w.length = n → (∀ x ∈ deed, whatOk x.1 ∧ stepOk n x) → doneW w deed = some w' → SortW w' ∧ CodW w'
  | [], w, w', B, h1, h2, h3, _, _, e => by
    cases e
    exact ⟨h1, h3⟩
  | x :: deed, w, w', B, h1, h2, h3, h4, hd, e => by
    obtain ⟨hw, hs1, hs2, hs3⟩ := hd x (List.mem_cons_self ..)
    have e : (stepW w x).bind (fun v => doneW v deed) = some w' := e
    cases q : stepW w x with
    | none => rw [q] at e; cases e
    | some v =>
      rw [q] at e
      obtain ⟨a, b, c⟩ := stepW_ok h1 h2 (by rw [h4]; exact hs1) (by rw [h4]; exact hs2) q
      exact done_ok deed b c (cod_step h3 hw q) (a.trans h4) (fun y hy => hd y (List.mem_cons_of_mem _ hy)) e
theorem shaped_wD {w : List (List Nat)} (h : CodW w) : SeqAt.shaped (wD w) = true := by
  have h1 : ∀ w : List (List Nat), CodW w → PyData.canLayAll0 (w.map tx) = true := by
    intro w
    induction w with
    | nil => intro _; rfl
    | cons r w ih =>
      intro h
      rw [List.map_cons, PyData.canLayAll0, ih fun q hq => h q (List.mem_cons_of_mem _ hq), Bool.and_true]
      show PyData.strOk (S r) = true
      unfold PyData.strOk
      rw [Array.all_eq_true']
      intro x hx
      have : x ∈ (S r).cps.toList := by simpa using hx
      rw [S_list] at this
      have := h r (List.mem_cons_self ..) x this
      simpa using this
  have h2 : ∀ w : List (List Nat), PyData.depthAll (w.map tx) = 0 := by
    intro w
    induction w with
    | nil => rfl
    | cons r w ih => rw [List.map_cons, PyData.depthAll, ih]; rfl
  simp [SeqAt.shaped, PyData.canLay0, PyData.depth, h1 w h, h2 w]
theorem shaped_opt {o : Option (List (List Nat))} (h : ∀ w, o = some w → CodW w) : SeqAt.shaped (optW o) = true := by
  cases o with
  | none => rfl
  | some w => exact shaped_wD (h w rfl)
theorem eqv_opt {o : Option (List (List Nat))} (h : ∀ w, o = some w → CodW w) : PyData.eqv (optW o) (optW o) = true := SeqAt.eqv_refl _ (SeqAt.canLay_of_shaped (shaped_opt h))
/-- the sense told leads every world where the deed leads it -/
theorem sense_world {n : Nat} {deed : List (Nat × Nat × Nat)} {st : SSt} {w : List (List Nat)} {nets : List (Nat × Nat × Int)} {needs : List (List Nat × Nat × Nat)} (hn : 2 ≤ n) (hn6 : n ≤ 6) (hd : deedOk n deed) (e : deedS n deed = some st) (hw : GoodW n 100 w) (hc : CodW w) (h1 : NetsOf st nets) (h2 : NeedsOf st needs) :
    LedOk w (whL st) nets needs ∧ doneW w deed = ledW w (whL st) nets needs ∧ ∀ w', doneW w deed = some w' → CodW w' := by
  have ok := deedS_ok hd.2 e
  have sm := deedS_small hd e
  have hdone : ∀ w', doneW w deed = some w' → SortW w' ∧ CodW w' := fun w' q => done_ok (B := 101) deed hw.2.1 (fun r hr => by have := hw.2.2 r hr; omega) hc hw.1 hd.2 q
  have hN := nd_ok (n := n) (show 0 < n by omega) deed.reverse (st := st) (by simpa using hd.2) (by simpa using e)
  have tm := told_met (n := n) (needs := st.nd) (fun x hx => (hN.one x hx).1) w
  have lots := told_lot (n := n) (show 0 < n by omega) hd e
  have sum := told_sum (n := n) (show 0 < n by omega) hd e
  have ld := led_done hd e hw.1 (fun w' q => (hdone w' q).1) h1.2 (needs := needs) (by
    rw [tm]
    exact ⟨fun h y hy => h y (h2.2.mem_iff.mpr hy), fun h y hy => h y (h2.2.mem_iff.mp hy)⟩)
  refine ⟨⟨by rw [hw.1]; exact hn6, hw.2.2, ?_, ?_, fun x hx => ?_, ?_, fun x hx => ?_, fun q g hg => ld.2 q g (by rw [← hw.1]; exact hg)⟩, ld.1, fun w' q => (hdone w' q).2⟩
  · unfold whL
    rw [List.length_map, List.length_range, ok.len, hw.1]
  · rw [h1.2.length_eq]
    unfold netRows
    rw [List.length_map]
    have := List.length_filter_le (fun e => !decide (e.2 = 0)) st.nt
    omega
  · obtain ⟨y, hy, rfl⟩ := List.mem_map.mp (h1.2.mem_iff.mp hx)
    have := absS_le (List.mem_filter.mp hy).1
    show y.2.natAbs ≤ 6
    omega
  · rw [h2.2.length_eq]
    omega
  · obtain ⟨⟨a, b, c⟩, _⟩ := lots x (h2.2.mem_iff.mp hx)
    have : x.1.length ≤ (List.range n).length := sub_len (asc_nodup b) fun z hz => List.mem_range.mpr (c z hz)
    rw [List.length_range] at this
    exact ⟨by omega, fun p hp => by rw [hw.1]; exact c p hp⟩
/-- the worlds that _law_is_sense tries -/
theorem tried_world {n : Nat} {deed : List (Nat × Nat × Nat)} {st : SSt} {needs : List (List Nat × Nat × Nat)} {c m : Nat} {a : List (List Nat)} (hn : 2 ≤ n) (hd : deedOk n deed) (e : deedS n deed = some st) (h2 : NeedsOf st needs) (hc : c ∈ LET) (hm : m < 4) (ha : a ∈ aloneW n c m) : GoodW n 100 (joinW a (metAll n needs c)) ∧ CodW (joinW a (metAll n needs c)) := by
  have lots := told_lot (n := n) (show 0 < n by omega) hd e
  have sum := (told_sum (n := n) (show 0 < n by omega) hd e).1
  have hs : ndSum needs ≤ 3 := by
    have : ndSum needs = ndSum (toldN (grtAll st.nd)) := (h2.2.map _).sum_nat
    omega
  obtain ⟨g1, g2⟩ := good_met (n := n) (c := c) needs (List.replicate n []) 0 (good_rep n) (cod_rep n) fun x hx => ⟨(lots x (h2.2.mem_iff.mp hx)).1, (lots x (h2.2.mem_iff.mp hx)).2.1⟩
  exact ⟨good_mono (good_join (good_alone m a ha) g1) (by omega), cod_join (cod_alone (let_lt hc) m a ha) g2⟩
end K10
set_option maxHeartbeats 4000000
/-! Loops over something new, beside a list that changes. -/
namespace K10
open PySem PySem.Spec PyProof.Rows L2 SX
open C8 (Cal pe_c)
section
variable {X : Cx} {T T' : TT2} {N : Nat} {σ : L2.St} {H H' : Hp} {e a b' iter : Expr} {pos px : Pos} {rest body : List Stmt} {D : EndF} {ds : List PyData} {x : Str}
/-- a op b, as a test, the tokens left beside -/
theorem wtf_cmpR {op : CmpOp} {r : R2} {Q : Bool → Hp → Prop} (ho : OpR X (compareOp op) r) (h : WEF X [] N a σ H fun v u M H1 => WEF X [] M b' σ H1 fun y u2 M2 H2 => r v y H2 fun z H3 => ∃ c, z = .bl c ∧ Q c H3) (hm : behindInMarks op b' = false := by first | exact nomark _ | rfl) : WTF X [] N (.Compare a [op] [b'] pos) σ H Q := .mk fun pins s I t n => by
  refine wpAny_isTrue_Compare1 (thn (h pins s I t n) fun u s1 ⟨v, H1, I1, r1, t1, n1, q1⟩ => thn (q1 pins s1 I1 t1 (Nat.le_refl _)) fun u2 s2 ⟨y, H2, I2, r2, t2, n2, q2⟩ => ?_) hm
  refine wpAny_mono (PySem.wpAny_toks_of (Nat.le_refl s2.toks) (ho pins s2 σ H2 v y u u2 _ I2 (by exact r1) r2 q2)) (fun w s3 ⟨n3, z, H3, I3, r3, c, e, q3⟩ => ?_) fun _ _ z => z.2
  subst e
  obtain rfl : w = Value.bool c := r3
  exact wpAny_truthy_bool ⟨H3, I3, TkH.nil I3, Nat.le_trans n1 (Nat.le_trans n2 n3), q3⟩
/-- for x in e, e a new list of data, the list at pl changing -/
theorem wsf_forM {pl : Addr} {zs : List L2.V} (j : Nat) (hg : PG X (.Name x px) (gName j)) (hp : PassesOwn (model X.prog X.w) X.A X.env X.xe) {Hb : Hp} (b : Same Hb H) (hbp : Hb pl = none) (hpl : H pl = some (.lst zs)) (he : EE X σ H iter (.list ds)) (him : ∀ d ∈ ds, imm d = true) (hne : ∀ xs H1, DpAll X.K H1 xs ds → xs ≠ zs)
    (k : ∀ H1 Hc, Same H H1 → Same Hb Hc → Same Hc H1 → Hc pl = none →
      ∃ Pw : Nat → Nat → L2.St → Hp → Prop, (∀ M, N ≤ M → Pw 0 M σ H1) ∧ (∀ i M σ' H', Pw i M σ' H' → Same Hc H') ∧
      (∀ i d M σ' H' v M', ds[i]? = some d → Pw i M σ' H' → Dp X.K H' v d → M ≤ M' → WSF X [] M' body { nx := fun _ M3 σ3 H3 => Pw (i + 1) M3 σ3 H3, rt := D.rt } (σ'.set j (some v)) H') ∧ (∀ M σ' H', Pw ds.length M σ' H' → WSF X [] M rest D σ' H'))
    (hc : X.calm = true := by rfl) (hfs : ∀ x, foldedSetIterable iter X.env x = pure x := by intro _; rfl) : WSF X T N (.For (.Name x px) iter body [] pos :: rest) D σ H := by
  refine wsf_drop (wsf_for hp (wif_of (pi_list (pw iter)) ((he H (Same.refl H)).mono fun v H1 ⟨s1, dv⟩ => ?_) hc) hfs)
  obtain ⟨la, xs, rfl, hl, hx⟩ := dp_lst dv
  have hpl1 := s1 _ _ hpl
  -- the heap without the list that changes
  have sc : Same (del H1 pl) H1 := fun b' u hb => by
    by_cases q : b' = pl
    · rw [q, del_same] at hb; cases hb
    · rw [del_ne q] at hb; exact hb
  have hcp : del H1 pl pl = none := del_same
  have sb : Same Hb (del H1 pl) := fun b' u hb => by
    by_cases q : b' = pl
    · rw [q, hbp] at hb; cases hb
    · rw [del_ne q]; exact s1 _ _ (b _ _ hb)
  have htx : Tx H1 (del H1 pl) := fun b' ys hb => by
    by_cases q : b' = pl
    · rw [q] at hb
      rcases hb with hb | ⟨o, hb⟩ <;> (rw [hpl1] at hb; cases hb)
    · rcases hb with hb | ⟨o, hb⟩
      · exact .inl (by rw [del_ne q]; exact hb)
      · exact .inr ⟨o, by rw [del_ne q]; exact hb⟩
  have hlc : SqL X.K (del H1 pl) la xs := by
    by_cases q : la = pl
    · rcases hl with hl | hl
      · exfalso
        rw [q] at hl
        rcases hl with hl | ⟨o, hl⟩
        · rw [hpl1] at hl
          injection hl with hl
          injection hl with hl
          exact hne xs H1 hx hl.symm
        · rw [hpl1] at hl; cases hl
      · exact .inr hl
    · rcases hl with hl | hl
      · rcases hl with hl | ⟨o, hl⟩
        · exact .inl (.inl (by rw [del_ne q]; exact hl))
        · exact .inl (.inr ⟨o, by rw [del_ne q]; exact hl⟩)
      · exact .inr hl
  have hxc : ∀ {i : Nat} {v : L2.V}, xs[i]? = some v → ∃ d, ds[i]? = some d ∧ Dp X.K (del H1 pl) v d := fun {i v} hv => by
    obtain ⟨d, e1, e2⟩ := dpAll_get hx hv
    exact ⟨d, e1, e2.tx htx (him d (List.mem_of_getElem? e1))⟩
  have hxl := dpAll_len hx
  generalize del H1 pl = Hc at sc hcp sb hlc hxc
  have lk : ∀ {H' : Hp}, Same Hc H' → SqL X.K H' la xs := fun s => by
    rcases hlc with h | h
    · rcases h with h | ⟨o, h⟩
      · exact .inl (.inl (s _ _ h))
      · exact .inl (.inr ⟨o, s _ _ h⟩)
    · exact .inr h
  obtain ⟨Pw, p0, pS, step, fin⟩ := k H1 Hc s1 sb sc hcp
  refine ⟨la, rfl, ⟨xs, lk sc⟩, fun M hM => ⟨ds.length, Pw, p0 M hM, fun M' σ' H' pv => ⟨⟨xs, lk (pS _ _ _ _ pv), by omega⟩, fin M' σ' H' pv⟩, fun i M' σ' H' hi pv => ⟨⟨xs, xs[i], lk (pS _ _ _ _ pv), List.getElem?_eq_getElem (by omega)⟩, fun v u H'' M'' y ru hM' => ?_⟩⟩⟩
  obtain ⟨rfl, hy⟩ := y
  obtain ⟨d, hd, dv⟩ := hxc (hy xs (lk (pS _ _ _ _ pv)))
  exact wtg_of hg fun M3 hM3 => wsf_conseq (wsf_mono (step i d M' σ' H'' v M'' hd pv (dv.same (pS _ _ _ _ pv)) hM') hM3) (fun T3 M4 σ3 H3 _ p3 => ⟨fun q hq => (by cases hq), p3⟩) fun _ _ _ _ _ z => z
/-- for x in iter, iter something new -/
theorem wsf_forC (j : Nat) (hg : PG X (.Name x px) (gName j)) (hp : PassesOwn (model X.prog X.w) X.A X.env X.xe) (hs : SRC X σ H (.Name x px) iter ds)
    (k : ∀ H1, Same H H1 → ∃ Pv : Nat → Nat → L2.St → Hp → Prop, (∀ M, N ≤ M → Pv 0 M σ H1) ∧ (∀ i M σ' H', Pv i M σ' H' → Same H1 H') ∧
      (∀ i d M σ' H' v H'' M', ds[i]? = some d → Pv i M σ' H' → Same H' H'' → Dp X.K H'' v d → M ≤ M' → WSF X [] M' body { nx := fun _ M3 σ3 H3 => Pv (i + 1) M3 σ3 H3, rt := D.rt } (σ'.set j (some v)) H'') ∧ (∀ M σ' H', Pv ds.length M σ' H' → WSF X [] M rest D σ' H'))
    (hc : X.calm = true := by rfl) (hfs : ∀ x, foldedSetIterable iter X.env x = pure x := by intro _; rfl) : WSF X T N (.For (.Name x px) iter body [] pos :: rest) D σ H := by
  obtain ⟨wi, pi, q⟩ := hs
  refine wsf_drop (wsf_for hp (wif_of pi (q H (Same.refl H) _ fun J H2 G Y s2 w hG hY => fun M hM => ?_) hc) hfs)
  obtain ⟨Pv, h0, hS, step, fin⟩ := k H2 s2
  refine ⟨ds.length, Pv, h0 M hM, fun M' σ' H' pv => ⟨w.stops _ (hG H' (hS _ _ _ _ pv)), fin M' σ' H' pv⟩, fun i M' σ' H' hi pv => ⟨w.goes i _ hi (hG H' (hS _ _ _ _ pv)), fun v u H'' M'' y ru hM' => ?_⟩⟩
  obtain ⟨s', d, hd', dx⟩ := hY i H' v H'' hi (hS _ _ _ _ pv) (w.yields i _ _ _ hi (hG H' (hS _ _ _ _ pv)) y)
  exact wtg_of hg fun M3 hM3 => wsf_conseq (wsf_mono (step i d M' σ' H' v H'' M'' hd' pv s' dx hM') hM3) (fun T3 M4 σ3 H3 _ p3 => ⟨fun q hq => (by cases hq), p3⟩) fun _ _ _ _ _ z => z
end
end K10
set_option maxHeartbeats 4000000
/-! _law_is_sense. -/
namespace K10
open PySem PySem.Spec PyProof.Rows L2 SX
open C8 (Cal pe_c)
def hitW (n : Nat) (deed : List (Nat × Nat × Nat)) (needs : List (List Nat × Nat × Nat)) (c : Nat) (a : List (List Nat)) (i : Nat) : Prop :=
  missed (needs.filter fun y => decide (y.2.1 = c)) (joinW a (metAll n needs c)) = [i] ∧ doneW (joinW a (metAll n needs c)) deed = none
/-- what the list of the parted says, ws the worlds tried so far -/
def PvOk (n : Nat) (deed : List (Nat × Nat × Nat)) (needs : List (List Nat × Nat × Nat)) (c : Nat) (ws : List (List (List Nat))) (pv : List Nat) : Prop :=
  pv.length = (needs.filter fun y => decide (y.2.1 = c)).length ∧ ∀ a ∈ ws, ∀ i, hitW n deed needs c a i → pv[i]? = some 1
theorem pv_keep {n c : Nat} {deed : List (Nat × Nat × Nat)} {needs : List (List Nat × Nat × Nat)} {ws : List (List (List Nat))} {pv : List Nat} {a : List (List Nat)} (h : PvOk n deed needs c ws pv) (k : ∀ i, ¬ hitW n deed needs c a i) : PvOk n deed needs c (ws ++ [a]) pv := ⟨h.1, fun b hb i hi => by
  rcases List.mem_append.mp hb with hb | hb
  · exact h.2 b hb i hi
  · rw [List.mem_singleton.mp hb] at hi
    exact absurd hi (k i)⟩
theorem pv_set {n c : Nat} {deed : List (Nat × Nat × Nat)} {needs : List (List Nat × Nat × Nat)} {ws : List (List (List Nat))} {pv : List Nat} {a : List (List Nat)} {j : Nat} (h : PvOk n deed needs c ws pv) (hj : j < pv.length) (k : ∀ i, hitW n deed needs c a i → i = j) : PvOk n deed needs c (ws ++ [a]) (pv.set j 1) := ⟨by rw [List.length_set]; exact h.1, fun b hb i hi => by
  by_cases q : i = j
  · subst q
    rw [List.getElem?_set_self hj]
  · rw [List.getElem?_set_ne (Ne.symm q)]
    rcases List.mem_append.mp hb with hb | hb
    · exact h.2 b hb i hi
    · rw [List.mem_singleton.mp hb] at hi
      exact absurd (k i hi) q⟩
theorem fresh_ne (deed : List (Nat × Nat × Nat)) (h : deed.length ≤ 3) : ∃ f r, LET.filter (fun c => !decide (c ∈ deed.map (·.1))) = f :: r := by
  cases e : LET.filter (fun c => !decide (c ∈ deed.map (·.1))) with
  | cons f r => exact ⟨f, r, rfl⟩
  | nil =>
    exfalso
    have h1 : ∀ c ∈ LET, c ∈ deed.map (·.1) := fun c hc => by
      have := List.filter_eq_nil_iff.mp e c hc
      simpa using this
    have h2 : LET.Nodup := by decide +kernel
    have := sub_len h2 h1
    rw [List.length_map] at this
    have : LET.length = 26 := by decide +kernel
    omega
theorem alone_ne {n c : Nat} (hn : 0 < n) (m : Nat) : aloneW n c m ≠ [] := fun e => by
  have key : ∀ k, 0 < k → fS (fun p => if p = 0 then m else 0) (List.range k) = m := by
    intro k
    induction k with
    | zero => intro h; omega
    | succ k ih =>
      intro _
      rw [List.range_succ]
      have happ : ∀ (f : Nat → Nat) (a b : List Nat), fS f (a ++ b) = fS f a + fS f b := fun f a b => by
        induction a with
        | nil => show fS f b = 0 + fS f b; omega
        | cons x a ih => rw [List.cons_append, fS_cons, fS_cons, ih]; omega
      rw [happ, fS_cons]
      cases k with
      | zero => show 0 + (m + 0) = m; omega
      | succ k => rw [ih (by omega)]; show m + (0 + 0) = m; omega
  obtain ⟨w, hw, _⟩ := alone_has n c m _ (key n hn)
  rw [e] at hw
  cases hw
theorem tx_ints (pv : List Nat) : (pv.map fun (k : Nat) => L2.V.int (k : Int)) = (pv.map fun (k : Nat) => (k : Int)).map L2.V.int := by rw [List.map_map]; rfl
theorem dp_pv {K : PySem.W.Frag} {H : Hp} {pl : Addr} {pv : List Nat} (h : H pl = some (.lst (pv.map fun (k : Nat) => L2.V.int (k : Int)))) : Dp K H (.ref pl) (.list ((pv.map fun (k : Nat) => (k : Int)).map .int)) := by
  rw [tx_ints] at h
  exact .lst (.of h) (dpAll_ofInts _)
section
variable {P : Program} {w : World} {K : PySem.W.Frag} {mg : Str → Option Value} {base : Heap}
def spIsSense (K : PySem.W.Frag) : SpT := fun vs us N H Q => ∃ (n : Nat) (dv : V) (deed : List (Nat × Nat × Nat)) (a : Addr) (st : SSt) (nets : List (Nat × Nat × Int)) (needs : List (List Nat × Nat × Nat)), vs = [.int (n : Int), dv, .ref a] ∧ 2 ≤ n ∧ n ≤ 6 ∧ deedOk n deed ∧ deedS n deed = some st ∧ Dp K H dv (.tuple (deed.map stepD)) ∧ ToldAt K true N H a (whL st) nets needs ∧ NetsOf st nets ∧ NeedsOf st needs ∧
  ∀ M H', N ≤ M → Same H H' → Q (.bl true) (.bool true) M H'
theorem c_is_sense (V : Ev mg) (G : Gd K mg "_law_is_sense" s_L_is_sense) (Cl : CalT P w K mg base 2 "_law_led" (spLed K) []) (Cm : Cal P w K mg base 1 "_law_is_met" (spF K P_is_met) []) (Ca : Cal P w K mg base 2 "_law_alone" (spF K P_alone) []) (Ct : Cal P w K mg base 2 "_law_met" (spF K P_met) []) (Cj : Cal P w K mg base 1 "_law_joined" (spF K P_joined) []) (Cd : Cal P w K mg base 1 "_law_done" (spF K P_done) []) : CalT P w K mg base 3 "_law_is_sense" (spIsSense K) [] := by
  obtain ⟨f, fd, F, gg⟩ := G.ex
  refine ⟨f, fd, p_L_is_sense, [], ?_, gg, F.kp, F.bindsN (fun _ _ _ _ _ _ us hl => match us, hl with | [_, _, _], _ => rfl), .nil⟩
  refine fnT_of F sc_L_is_sense (fun vs us M H Q ⟨_, _, _, _, _, _, _, h, _⟩ => by rw [h]; rfl) fun cdv A outer s H vs us Q hr hv h => ⟨[], (fun q hq => by cases hq), ?_⟩
  obtain ⟨n, dv, deed, a, st, nets, needs, rfl, hn2, hn6, hdk, hst, hdv, htl, hnets, hneeds, hk⟩ := h
  have hN := sc_L_is_sense.nd
  have hu := room_u hr
  generalize s.toks = N0 at hk htl
  have dtl := htl.dp
  have sum := told_sum (n := n) (show 0 < n by omega) hdk hst
  have lots := told_lot (n := n) (show 0 < n by omega) hdk hst
  have hndl : needs.length ≤ 3 := by rw [hneeds.2.length_eq]; exact sum.2
  have hnd : ∀ x ∈ needs, LotOk n x.1 ∧ x.2.1 ∈ LET ∧ 1 ≤ x.2.2 := fun x hx => by
    have := lots x (hneeds.2.mem_iff.mp hx)
    exact ⟨this.1, this.2.1, this.2.2.1⟩
  have hnum : ∀ x ∈ needs, x.2.2 ≤ 3 := fun x hx => by
    have h1 : x.2.2 ≤ ndSum (toldN (grtAll st.nd)) := sum_ge (f := fun y : List Nat × Nat × Nat => y.2.2) (hneeds.2.mem_iff.mp hx)
    omega
  have hlotl : ∀ x ∈ needs, x.1.length ≤ 6 := fun x hx => by
    obtain ⟨⟨_, b, c⟩, _⟩ := hnd x hx
    have : x.1.length ≤ (List.range n).length := sub_len (asc_nodup b) fun z hz => List.mem_range.mpr (c z hz)
    rw [List.length_range] at this
    omega
  -- named = [step[0] for step in deed]
  refine wsf_stW (wss_setN 3 hN (en_lc hN (lcr_map (as := deed) (enc := stepD) 14 (srv_tup 1 rfl hdv).src hN (fun x => tx [x.1]) (fun _ _ => rfl) (fun x hx v H' s' dx s0 H0' C cl fp => ee_ixT (ee_var 14 rfl dx) (ee_int (i := ((0 : Nat) : Int))) rfl) (by have := hdk.1; omega))) fun p3 xs3 H3 s3 hp3 hp3' hx3 => wss_nil fun M3 hM3 => ?_)
  have e3 : deed.map (fun x => tx [x.1]) = (deed.map fun x => [x.1]).map tx := by rw [List.map_map]; rfl
  rw [e3] at hx3
  have d3 : Dp K H3 (.ref p3) (.list ((deed.map fun x => [x.1]).map tx)) := .lst (.of hp3') hx3
  have hin : ∀ c : Nat, decide ([c] ∈ deed.map fun x => [x.1]) = decide (c ∈ deed.map (·.1)) := fun c => by
    rw [Bool.eq_iff_iff, decide_eq_true_eq, decide_eq_true_eq]
    simp
  obtain ⟨f0, fr, hf0⟩ := fresh_ne deed hdk.1
  -- fresh = [..][0]
  refine wsf_stW (wss_set (d := tx [f0]) 4 hN (ee_ixL (j := 0) (EN.ee (en_lc hN (LcR.is (lcr_filt (as := LET) (enc := fun c => tx [c]) 15 (SRV.src (srv_str (z := S LET) (EE.is ee_str (congrArg PyData.str LET_S)))) hN (fun c => !decide (c ∈ deed.map (·.1))) (fun c => tx [c]) (fun _ _ _ => rfl) (fun c hc v H' s' dx s0 H0' C cl fp => ET.is (et_cmp op_notIn_seq (ee_var 15 rfl dx) (ee_var 3 rfl (d3.same s')) (rb_inTx (neg := true) (.inr rfl)) rfl) (by rw [if_pos rfl, hin])) (fun c hc hf v H' s' dx s0 H0' C cl fp => ee_var 15 rfl dx) (by decide +kernel)) (by rw [hf0])))) ee_int rfl) fun v4 H4 s4 d4 => wss_nil fun M4 hM4 => ?_)
  have s04 := s3.trans s4
  rw [dp_str d4]
  clear d4 v4
  have d34 := d3.same s4
  -- for letter in [..]
  refine wsf_forC 5 (pgn 5 hN) PassesOwn.never (ds := (LET.filter fun c => decide (c ∈ deed.map (·.1)) || decide (c = f0)).map fun c => tx [c]) (src_lst (EN.ee (en_lc hN (lcr_filt (as := LET) (enc := fun c => tx [c]) 15 (SRV.src (srv_str (z := S LET) (EE.is ee_str (congrArg PyData.str LET_S)))) hN (fun c => decide (c ∈ deed.map (·.1)) || decide (c = f0)) (fun c => tx [c]) (fun _ _ _ => rfl) (fun c hc v H' s' dx s0 H0' C cl fp => EW.et (ew_or (ET.is (et_cmp op_in_seq (ee_var 15 rfl dx) (ee_var 3 rfl (d34.same s')) (rb_inTx (neg := false) (.inr rfl)) rfl) (by rw [if_neg (by simp), hin])) fun _ => ew_or1 (ET.is (et_eqS (l := [c]) (m := [f0]) (ee_var 15 rfl dx) (ee_var 4 rfl (.str _))) (by rw [Bool.eq_iff_iff, decide_eq_true_eq, decide_eq_true_eq]; simp)))) (fun c hc hf v H' s' dx s0 H0' C cl fp => ee_var 15 rfl dx) (by decide +kernel))))) fun H5 s5 => ?_
  have s05 := s04.trans s5
  refine ⟨fun i M σ' H' => M4 ≤ M ∧ Same H5 H' ∧ ∃ (x5 x6 x7 x8 x9 x10 x11 x12 x13 x14 x15 x16 x17 : Option L2.V), σ' = [some (.int (n : Int)), some dv, some (.ref a), some (.ref p3), some (.str (S [f0])), x5, x6, x7, x8, x9, x10, x11, x12, x13, x14, x15, x16, x17], fun M hM => ⟨hM, Same.refl _, none, none, none, none, none, none, none, none, none, none, none, none, none, rfl⟩, fun i M σ' H' p => p.2.1, ?_, ?_⟩
  · rintro i d M σ' H' v5 H'' M' hd ⟨hM, s6, x5, x6, x7, x8, x9, x10, x11, x12, x13, x14, x15, x16, x17, rfl⟩ s7 dv5 hM'
    rw [List.getElem?_map] at hd
    obtain ⟨c, hc, rfl⟩ := Option.map_eq_some_iff.mp hd
    have hcL : c ∈ LET := (List.mem_filter.mp (List.mem_of_getElem? hc)).1
    have s07 := (s05.trans s6).trans s7
    generalize hmine : (needs.filter fun y => decide (y.2.1 = c)) = mine
    have hml : mine.length ≤ 3 := by rw [← hmine]; exact Nat.le_trans (List.length_filter_le ..) hndl
    have hmm : ∀ y ∈ mine, y ∈ needs := fun y hy => by rw [← hmine] at hy; exact (List.mem_filter.mp hy).1
    -- beside = met(size, told[2], letter)
    refine wsf_stW (wss_set (d := wD (metAll n needs c)) 6 hN (ee_call Ct hr (ea_cons (ee_var 0 rfl (.int _)) (ea_cons (ee_ixT (ee_var 2 rfl (dtl.same s07)) (ee_int (i := ((2 : Nat) : Int))) rfl) (ea_1 (ee_var 5 rfl dv5)))) ⟨n, needs, c, rfl, hn2, by omega, by omega, fun x hx => ⟨(hnd x hx).1.1, (hnd x hx).1.2.2, by have := hnum x hx; omega⟩, rfl⟩) fun v6 H6 s8 d6 => wss_nil fun M6 hM6 => ?_)
    have s08 := s07.trans s8
    -- mine = [need for need in told[2] if need[1] == letter]
    refine wsf_stW (wss_setN 7 hN (en_lc hN (lcr_filt (as := needs) (enc := needD) 16 (src_tup (ee_ixT (ee_var 2 rfl (dtl.same s08)) (ee_int (i := ((2 : Nat) : Int))) rfl)) hN (fun y => decide (y.2.1 = c)) needD (fun y _ _ => imm_need y) (fun y hy v H' s' dx s0 H0' C cl fp => ET.is (et_eqS (l := [y.2.1]) (m := [c]) (ee_ixT (ee_var 16 rfl dx) (ee_int (i := ((1 : Nat) : Int))) rfl) (ee_var 5 rfl (dv5.same (s8.trans s')))) (by rw [Bool.eq_iff_iff, decide_eq_true_eq, decide_eq_true_eq]; simp)) (fun y hy hf v H' s' dx s0 H0' C cl fp => ee_var 16 rfl dx) (by omega))) fun p7 xs7 H7 s9 hp7 hp7' hx7 => wss_nil fun M7 hM7 => ?_)
    rw [hmine] at hx7
    have d7 : Dp K H7 (.ref p7) (.list (mine.map needD)) := .lst (.of hp7') hx7
    -- parted = [0 for need in mine]
    refine wsf_stW (wss_setLc 8 hN (lcr_map (as := mine) (enc := needD) 16 (srv_lst 7 rfl d7).src hN (fun _ => .int 0) (fun _ _ => rfl) (fun y hy v H' s' dx s0 H0' C cl fp => ee_int) (by omega)) fun pl xs8 H8 s10 hp8 hp8' hx8 => wss_nil fun M8 hM8 => ?_)
    have e8 : mine.map (fun _ => PyData.int 0) = ((mine.map fun _ => (0 : Nat)).map fun (k : Nat) => (k : Int)).map .int := by rw [List.map_map, List.map_map]; rfl
    rw [e8] at hx8
    rw [dpAll_ints hx8, ← tx_ints] at hp8'
    have s09 := s08.trans s9
    have bd6 : Dp K H7 v6 (wD (metAll n needs c)) := d6.same s9
    have bv5 : Dp K H7 v5 (tx [c]) := dv5.same (s8.trans s9)
    have bt : Dp K H7 (.ref a) (toldD (whL st) nets needs) := dtl.same s09
    have btl : ToldAt K true N0 H7 a (whL st) nets needs := htl.same s09
    have bdv : Dp K H7 dv (.tuple (deed.map stepD)) := hdv.same s09
    have hhit : ∀ ws pv, PvOk n deed needs c ws pv → pv.length = mine.length := fun ws pv h => by rw [h.1, hmine]
    -- for many in range(4)
    refine wsf_forV 9 (pgn 9 hN) PassesOwn.never (H0 := H7) s10 (ds := (List.range 4).map fun (i : Nat) => PyData.int (i : Int)) (srv_rangeN (n := 4) ee_int V.range (by omega))
      (fun m M σ' H' => M8 ≤ M ∧ Same H7 H' ∧ ∃ (pv : List Nat) (x9 x10 x11 x12 x13 : Option L2.V), σ' = [some (.int (n : Int)), some dv, some (.ref a), some (.ref p3), some (.str (S [f0])), some v5, some v6, some (.ref p7), some (.ref pl), x9, x10, x11, x12, x13, x14, x15, x16, x17] ∧ H' pl = some (.lst (pv.map fun (k : Nat) => L2.V.int (k : Int))) ∧ PvOk n deed needs c ((List.range m).flatMap (aloneW n c)) pv) ?_ ?_ ?_ ?_
    · exact fun M H9 hM s11 => ⟨hM, s10.trans s11, _, x9, x10, x11, x12, x13, rfl, s11 _ _ hp8', by rw [List.length_map, hmine], fun b hb => by cases hb⟩
    · exact fun m M σ' H' p => p.2.1
    · rintro m d M9 σ9 H9 v9 H10 M10 hd ⟨hM9, s11, pv, x9, x10, x11, x12, x13, rfl, hpl, hpv⟩ s12 dv9 hM10
      rw [List.getElem?_map] at hd
      obtain ⟨m', hm', rfl⟩ := Option.map_eq_some_iff.mp hd
      have hm4 : m < 4 := by
        have := (List.getElem?_eq_some_iff.mp hm').1
        rwa [List.length_range] at this
      rw [List.getElem?_range hm4] at hm'
      obtain rfl := Option.some.inj hm'
      have b10 := s11.trans s12
      have hane : aloneW n c m ≠ [] := alone_ne (by omega) m
      -- for alone_here in alone(size, letter, many)
      refine wsf_forM (pl := pl) 10 (pgn 10 hN) PassesOwn.never (Hb := H7) b10 hp8 (s12 _ _ hpl) (ds := (aloneW n c m).map wD) (ee_call Ca hr (ea_cons (ee_var 0 rfl (.int _)) (ea_cons (ee_var 5 rfl (bv5.same b10)) (ea_1 (ee_var 9 rfl dv9)))) ⟨n, c, m, rfl, hn2, hn6, by omega, rfl⟩) (fun d hd => by
        obtain ⟨w, _, rfl⟩ := List.mem_map.mp hd
        exact imm_wD w) (fun xs H1 hx e => ?_) fun H11 Hc s13 sb sc hcp => ?_
      · cases q : aloneW n c m with
        | nil => exact hane q
        | cons w0 r0 =>
          rw [q] at hx
          cases hx with
          | cons r _ =>
            obtain ⟨q1, _, e1, _⟩ := dp_tup r
            cases pv with
            | nil => cases e
            | cons k pv =>
              injection e with e2 _
              rw [e1] at e2
              cases e2
      refine ⟨fun k M σ' H' => M10 ≤ M ∧ Same Hc H' ∧ ∃ (pv : List Nat) (x10 x11 x12 x13 : Option L2.V), σ' = [some (.int (n : Int)), some dv, some (.ref a), some (.ref p3), some (.str (S [f0])), some v5, some v6, some (.ref p7), some (.ref pl), some v9, x10, x11, x12, x13, x14, x15, x16, x17] ∧ H' pl = some (.lst (pv.map fun (k : Nat) => L2.V.int (k : Int))) ∧ PvOk n deed needs c ((List.range m).flatMap (aloneW n c) ++ (aloneW n c m).take k) pv, fun M hM => ⟨hM, sc, pv, x10, x11, x12, x13, rfl, s13 _ _ (s12 _ _ hpl), by rw [List.take_zero, List.append_nil]; exact hpv⟩, fun k M σ' H' p => p.2.1, ?_, ?_⟩
      · rintro k d M11 σ11 H12 v10 M12 hd ⟨hM11, s14, pv, x10, x11, x12, x13, rfl, hpl, hpv⟩ dv10 hM12
        rw [List.getElem?_map] at hd
        obtain ⟨wa, hwa, rfl⟩ := Option.map_eq_some_iff.mp hd
        have hwam := List.mem_of_getElem? hwa
        have b12 := sb.trans s14
        have hgood := tried_world hn2 hdk hst hneeds hcL hm4 hwam
        have ga := good_alone m wa hwam
        have hsw := sense_world hn2 hn6 hdk hst hgood.1 hgood.2 hnets hneeds
        obtain ⟨gm, _⟩ := good_met (n := n) (c := c) needs (List.replicate n []) 0 (good_rep n) (cod_rep n) fun x hx => ⟨(hnd x hx).1, (hnd x hx).2.1⟩
        have hns : ndSum needs ≤ 3 := by
          have : ndSum needs = ndSum (toldN (grtAll st.nd)) := (hneeds.2.map _).sum_nat
          omega
        have hWl : (joinW wa (metAll n needs c)).length = n := hgood.1.1
        have hhitE : ∀ i, hitW n deed needs c wa i ↔ (missed mine (joinW wa (metAll n needs c)) = [i] ∧ doneW (joinW wa (metAll n needs c)) deed = none) := fun i => by unfold hitW; rw [hmine]
        -- world_here = joined(alone_here, beside)
        refine wsf_stW (wss_set (d := wD (joinW wa (metAll n needs c))) 11 hN (ee_call Cj hr (ea_cons (ee_var 10 rfl dv10) (ea_1 (ee_var 6 rfl (bd6.same b12)))) ⟨wa, metAll n needs c, rfl, ga.small (by omega) (by omega), gm.small (by omega) (by omega), ga.1.trans gm.1.symm, rfl⟩) fun v11 H13 s15 d11 => wss_nil fun M13 hM13 => ?_)
        generalize joinW wa (metAll n needs c) = W at hgood hsw hWl hhitE d11
        have b13 := b12.trans s15
        -- behind = done(world_here, deed)
        refine wsf_stW (wss_set (d := optW (doneW W deed)) 12 hN (ee_call Cd hr (ea_cons (ee_var 11 rfl d11) (ea_1 (ee_var 1 rfl (bdv.same b13)))) ⟨W, deed, rfl, by omega, hgood.1.2.1, (fun r hr => by have := hgood.1.2.2 r hr; omega), hdk.1, (fun x hx => by rw [hWl]; exact (hdk.2 x hx).2), rfl⟩) fun v12 H14 s16 d12 => wss_nil fun M14 hM14 => ?_)
        have b14 := b13.trans s16
        -- if behind != led(told, world_here)
        refine wsf_if (wtf_cmpR (op_neD (by have : (A.deeper (envOfC "_law_is_sense" (defScope s_L_is_sense) s.heap.objs.size f cdv)).units + 200 < cLine := hu; show (A.deeper (envOfC "_law_is_sense" (defScope s_L_is_sense) s.heap.objs.size f cdv)).units + 64 < cLine; omega)) (wef_vv 12 rfl fun u1 M15 r1 n1 => wef_call Cl hr (by decide) rfl (waf_cons (wef_vv 2 rfl fun u2 M16 r2 n2 => waf_cons (wef_vv 11 rfl fun u3 M17 r3 n3 => waf_nil fun M18 n4 ds hds => ?_)))))
        cases hds
        refine ⟨a, v11, W, whL st, nets, needs, rfl, (btl.same b14).mono (by omega), d11.same s16, hsw.1, fun v u M19 H15 hM19 s17 rv dl => ?_⟩
        rw [← hsw.2.1] at dl
        refine ⟨optW (doneW W deed), optW (doneW W deed), d12.same s17, dl, shaped_opt hsw.2.2, shaped_opt hsw.2.2, _, rfl, ?_⟩
        rw [eqv_opt hsw.2.2, if_neg (by simp)]
        refine wsf_nil fun M20 hM20 => ?_
        have b15 := b14.trans s17
        have s517 := s16.trans s17
        -- missed = [k for k in range(len(mine)) if not is_met(world_here, mine[k])]
        have hat : ∀ k, k < mine.length → mine[k]? = some (needAt mine k) := fun k hk => by
          unfold needAt
          rw [List.getElem?_eq_getElem hk]
          rfl
        refine wsf_stW (wss_setLc 13 hN (lcr_filt (as := List.range mine.length) (enc := iN) 17 (SRV.src (srv_rangeN (n := mine.length) (EE.is (ee_lenS (ds := mine.map needD) (ee_var 7 rfl (d7.same b15)) rfl (by rw [List.length_map]; omega) V.len) (by rw [List.length_map])) V.range (by omega))) hN (fun k => !metW W (needAt mine k)) (fun k => iN k) (fun _ _ _ => rfl) (fun k hk v H' s' dx s0 H0' C cl fp => et_not (et_val (ee_call Cm hr (ea_cons (ee_var 11 rfl (d11.same (s517.trans s'))) (ea_1 (ee_ixL (ds := mine.map needD) (d := needD (needAt mine k)) (j := k) (ee_var 7 rfl (d7.same (b15.trans s'))) (ee_var 17 rfl dx) (by rw [List.getElem?_map, hat k (List.mem_range.mp hk)]; rfl)))) ⟨W, needAt mine k, rfl, (by
            have := hlotl _ (hmm _ (List.mem_of_getElem? (hat k (List.mem_range.mp hk))))
            omega), (by
            rw [hWl]
            exact (hnd _ (hmm _ (List.mem_of_getElem? (hat k (List.mem_range.mp hk))))).1.2.2), rfl⟩))) (fun k hk hf v H' s' dx s0 H0' C cl fp => ee_var 17 rfl dx) (by rw [List.length_range]; omega)) fun p13 xs13 H16 s18 hp13 hp13' hx13 => wss_nil fun M21 hM21 => ?_)
        have hmis : ((List.range mine.length).filter fun k => !metW W (needAt mine k)) = missed mine W := rfl
        rw [hmis] at hx13
        have d13 : Dp K H16 (.ref p13) (.list ((missed mine W).map iN)) := .lst (.of hp13') hx13
        have hmisl : (missed mine W).length ≤ 3 := by
          have := List.length_filter_le (fun k => !metW W (needAt mine k)) (List.range mine.length)
          rw [List.length_range] at this
          show ((List.range mine.length).filter fun k => !metW W (needAt mine k)).length ≤ 3
          omega
        have hpl16 : H16 pl = some (.lst (pv.map fun (k : Nat) => L2.V.int (k : Int))) := s18 _ _ (s17 _ _ (s16 _ _ (s15 _ _ hpl)))
        have b16 := b15.trans s18
        have c16 : Same Hc H16 := s14.trans (s15.trans (s517.trans s18))
        have htake : (List.range m).flatMap (aloneW n c) ++ (aloneW n c m).take (k + 1) = ((List.range m).flatMap (aloneW n c) ++ (aloneW n c m).take k) ++ [wa] := by
          rw [List.take_succ, hwa, List.append_assoc]
          rfl
        have hpvl := hhit _ _ hpv
        -- if len(missed) == 1 and behind is None
        refine wsf_stW (wss_if (b := decide (((missed mine W).length : Int) = 1) && (doneW W deed).isNone) (EW.et (ew_and (et_eqI (EE.is (ee_lenS (ds := (missed mine W).map iN) (ee_var 13 rfl d13) rfl (by rw [List.length_map]; omega) V.len) (by rw [List.length_map])) ee_int) fun _ => ew_and1 (ET.is (et_isN (ee_var 12 rfl (d12.same (s17.trans s18)))) (imm_isNone _)))) (fun hb H17 s19 => ?_) fun hb H17 s19 => ?_)
        · rw [Bool.and_eq_true, decide_eq_true_eq] at hb
          obtain ⟨i0, hi0⟩ : ∃ i0, missed mine W = [i0] := by
            cases q : missed mine W with
            | nil => rw [q] at hb; simp at hb
            | cons x l =>
              cases l with
              | nil => exact ⟨x, rfl⟩
              | cons y l => rw [q] at hb; simp at hb; omega
          have hi0l : i0 < mine.length := by
            have : i0 ∈ missed mine W := by rw [hi0]; exact List.mem_singleton.mpr rfl
            exact List.mem_range.mp (List.mem_filter.mp this).1
          rw [hi0] at d13
          refine wss_seti (j := i0) 8 rfl (s19 _ _ hpl16) (by rw [List.length_map, hpvl]; exact hi0l) (ee_int (i := ((1 : Nat) : Int))) (ee_ixL (ds := [iN i0]) (j := 0) (ee_var 13 rfl (d13.same s19)) ee_int rfl) fun v20 H18 s20 d20 => wss_nil (wss_nil fun M22 hM22 => wsf_nil fun M23 hM23 => ⟨by omega, same_mut (c16.trans (s19.trans s20)) hcp, pv.set i0 1, _, _, _, _, rfl, ?_, ?_⟩)
          · rw [upd_same, dp_int d20, List.map_set]
          · rw [htake]
            exact pv_set hpv (by rw [hpvl]; exact hi0l) fun i hi => by
              have := ((hhitE i).mp hi).1
              rw [hi0] at this
              injection this with e
              exact e.symm
        · refine wss_nil (wss_nil fun M22 hM22 => wsf_nil fun M23 hM23 => ⟨by omega, c16.trans s19, pv, _, _, _, _, rfl, s19 _ _ hpl16, ?_⟩)
          rw [htake]
          refine pv_keep hpv fun i hi => ?_
          obtain ⟨h1, h2⟩ := (hhitE i).mp hi
          rw [h1, h2] at hb
          simp at hb
      · rintro M11 σ11 H12 ⟨hM11, s14, pv, x10, x11, x12, x13, rfl, hpl, hpv⟩
        refine wsf_nil fun M13 hM13 => ⟨by omega, sb.trans s14, pv, some v9, x10, x11, x12, x13, rfl, hpl, ?_⟩
        rw [List.length_map, List.take_of_length_le (Nat.le_refl _)] at hpv
        rw [List.range_succ, List.flatMap_append, List.flatMap_cons, List.flatMap_nil, List.append_nil]
        exact hpv
    · rintro M9 σ9 H9 ⟨hM9, s11, pv, x9, x10, x11, x12, x13, rfl, hpl, hpv⟩
      rw [List.length_map, List.length_range] at hpv
      have hall : ∀ i, i < pv.length → pv[i]? = some 1 := fun i hi => by
        obtain ⟨m, hm, b, hb, h1, h2⟩ := parted_at (n := n) (show 0 < n by omega) hdk hst hneeds.2 (c := c) (i := i) (by rw [← hpv.1]; exact hi)
        exact hpv.2 b (List.mem_flatMap.mpr ⟨m, List.mem_range.mpr hm, hb⟩) i ⟨h1, h2⟩
      have hno : ¬ ((0 : Int) ∈ pv.map fun (k : Nat) => (k : Int)) := fun h => by
        obtain ⟨k, hk, e⟩ := List.mem_map.mp h
        obtain ⟨i, hi⟩ := List.mem_iff_getElem?.mp hk
        have := hall i (List.getElem?_eq_some_iff.mp hi).1
        rw [hi] at this
        cases this
        cases e
      refine wsf_if (wtf_et (et_inI (ns := pv.map fun (k : Nat) => (k : Int)) ee_int (ee_var 8 rfl (dp_pv hpl)) (.inr rfl)) fun H13 s15 => ?_)
      rw [decide_eq_false hno, if_neg (by simp)]
      exact wsf_nil fun M13 h13 => wsf_nil fun M14 h14 => ⟨by omega, s6.trans (s7.trans (s8.trans (s9.trans (s11.trans s15)))), _, _, _, _, _, _, _, _, _, _, _, _, _, rfl⟩
  · rintro M σ' H' ⟨hM, s6, x5, x6, x7, x8, x9, x10, x11, x12, x13, x14, x15, x16, x17, rfl⟩
    refine wsf_ret (wef_of (EE.run ee_bool fun v H6 s7 d => ?_))
    rw [dp_bool d]
    intro u0 M0 r0 hM0
    obtain rfl : u0 = Value.bool true := r0
    exact hk M0 H6 (by omega) (s05.trans (s6.trans s7))
end
end K10
set_option maxHeartbeats 4000000
/-! The sense told has the form. -/
namespace K10
open PySem PySem.Spec PyProof.Rows L2 SX
theorem sortD_asc (ds : List PyData) : (sortD ds).Pairwise fun a b => PySem.W.dataLt b a = false := by
  have h := List.pairwise_mergeSort (le := PySem.W.dataLe false (id : PyData → PyData)) (fun a b c h1 h2 => by
    rw [PySem.W.dataLe_eq] at *
    simp only [id, cond_false, Bool.not_eq_true'] at *
    cases e : PySem.W.dataLt c a with
    | false => rfl
    | true =>
      rcases lex_negTrans _ (PySem.W.keyToks b) _ e with q | q
      · exact q.symm.trans h2
      · exact q.symm.trans h1) (fun a b => by
    rw [PySem.W.dataLe_eq]
    simp only [id, cond_false]
    cases e : PySem.W.dataLt b a with
    | false => rfl
    | true =>
      cases e2 : PySem.W.dataLt a b with
      | false => rfl
      | true =>
        have := lex_trans _ _ _ e e2
        rw [lex_irrefl] at this
        cases this) ds
  refine h.imp fun {a b} q => ?_
  rw [PySem.W.dataLe_eq] at q
  simpa using q
theorem asc_next {ds : List PyData} {i : Nat} {a b : PyData} (h : (sortD ds)[i]? = some a) (k : (sortD ds)[i + 1]? = some b) : PySem.W.dataLt b a = false := by
  obtain ⟨h1, h2⟩ := List.getElem?_eq_some_iff.mp h
  obtain ⟨k1, k2⟩ := List.getElem?_eq_some_iff.mp k
  have := (List.pairwise_iff_getElem.mp (sortD_asc ds)) i (i + 1) h1 k1 (by omega)
  rw [h2, k2] at this
  exact this
theorem toks_net (r : Nat × Nat × Int) : PySem.W.keyToks (netD r) = [.inl 1, .inl (r.1 : Int), .inl 1, .inr [r.2.1], .inl 1, .inl r.2.2, .inl 0] := rfl
theorem toks_key (p k : Nat) : PySem.W.keyToks (.tuple [iN p, tx [k]]) = [.inl 1, .inl (p : Int), .inl 1, .inr [k], .inl 0] := rfl
theorem net_lt {a b : Nat × Nat × Int} (h : PySem.W.dataLt (netD b) (netD a) = false) (ne : (a.1, a.2.1) ≠ (b.1, b.2.1)) : PySem.W.dataLt (.tuple [iN a.1, tx [a.2.1]]) (.tuple [iN b.1, tx [b.2.1]]) = true := by
  have key : PySem.W.dataLt (.tuple [iN b.1, tx [b.2.1]]) (.tuple [iN a.1, tx [a.2.1]]) = PySem.W.dataLt (netD b) (netD a) := by
    unfold PySem.W.dataLt
    rw [toks_net, toks_net, toks_key, toks_key, lex_self, lex_self]
    by_cases q : b.1 = a.1
    · rw [q, lex_self, lex_self, lex_self, lex_self]
      have : (Sum.inr [b.2.1] : Int ⊕ List Nat) ≠ Sum.inr [a.2.1] := fun e => ne (by
        injection e with e
        injection e with e
        rw [q, e])
      exact (lex_diff (O := itemOrd) this).trans (lex_diff (O := itemOrd) this).symm
    · have : (Sum.inl (b.1 : Int) : Int ⊕ List Nat) ≠ Sum.inl (a.1 : Int) := fun e => q (by
        injection e with e
        omega)
      exact (lex_diff (O := itemOrd) this).trans (lex_diff (O := itemOrd) this).symm
  rw [← key] at h
  cases e : PySem.W.dataLt (.tuple [iN a.1, tx [a.2.1]]) (.tuple [iN b.1, tx [b.2.1]]) with
  | true => rfl
  | false =>
    have := lex_total _ _ e h
    rw [toks_key, toks_key] at this
    simp at this
    exact absurd (Prod.ext (by show a.1 = b.1; omega) this.2) ne
theorem toksI_inj : ∀ {a b : List Nat} {r r' : List (Int ⊕ List Nat)}, PySem.W.keyToksAll (a.map iN) ++ r = PySem.W.keyToksAll (b.map iN) ++ r' → a = b ∧ r = r'
  | [], [], r, r', h => ⟨rfl, by
    have h : (Sum.inl 0 :: r : List (Int ⊕ List Nat)) = Sum.inl 0 :: r' := h
    injection h⟩
  | [], y :: b, r, r', h => by
    have h : (Sum.inl 0 :: r : List (Int ⊕ List Nat)) = Sum.inl 1 :: (_ ++ r') := h
    injection h with h _
    injection h with h
    cases h
  | x :: a, [], r, r', h => by
    have h : (Sum.inl 1 :: _ : List (Int ⊕ List Nat)) = Sum.inl 0 :: r' := h
    injection h with h _
    injection h with h
    cases h
  | x :: a, y :: b, r, r', h => by
    have h : (Sum.inl 1 :: Sum.inl (x : Int) :: (PySem.W.keyToksAll (a.map iN) ++ r) : List (Int ⊕ List Nat)) = Sum.inl 1 :: Sum.inl (y : Int) :: (PySem.W.keyToksAll (b.map iN) ++ r') := h
    injection h with _ h
    injection h with h1 h2
    injection h1 with h1
    obtain ⟨e1, e2⟩ := toksI_inj h2
    exact ⟨by rw [e1]; congr 1; omega, e2⟩
theorem need_lt {a b : List Nat × Nat × Nat} (h : PySem.W.dataLt (needD b) (needD a) = false) (ne : a ≠ b) : PySem.W.dataLt (needD a) (needD b) = true := by
  cases e : PySem.W.dataLt (needD a) (needD b) with
  | true => rfl
  | false =>
    have q := lex_total _ _ e h
    have q : (Sum.inl 1 :: (PySem.W.keyToksAll (a.1.map iN) ++ [Sum.inl 1, Sum.inr [a.2.1], Sum.inl 1, Sum.inl (a.2.2 : Int), Sum.inl 0]) : List (Int ⊕ List Nat)) = Sum.inl 1 :: (PySem.W.keyToksAll (b.1.map iN) ++ [Sum.inl 1, Sum.inr [b.2.1], Sum.inl 1, Sum.inl (b.2.2 : Int), Sum.inl 0]) := q
    injection q with _ q
    obtain ⟨e1, e2⟩ := toksI_inj q
    simp at e2
    exact absurd (Prod.ext e1 (Prod.ext e2.1 (by omega))) ne
theorem asc_ascN : ∀ {l : List Nat}, l.Pairwise (· < ·) → ascN l = true
  | [], _ => rfl
  | [_], _ => rfl
  | a :: b :: r, h => by
    rw [ascN, asc_ascN (List.pairwise_cons.mp h).2, Bool.and_true, decide_eq_true_eq]
    exact (List.pairwise_cons.mp h).1 b (List.mem_cons_self ..)
theorem form_told {n : Nat} {deed : List (Nat × Nat × Nat)} {st : SSt} {nets : List (Nat × Nat × Int)} {needs : List (List Nat × Nat × Nat)} (hn : 2 ≤ n) (hn6 : n ≤ 6) (hd : deedOk n deed) (e : deedS n deed = some st) (h1 : NetsOf st nets) (h2 : NeedsOf st needs) : FormOk n (whL st) nets needs := by
  have ok := deedS_ok hd.2 e
  have sm := deedS_small hd e
  have lots := told_lot (n := n) (show 0 < n by omega) hd e
  have sum := told_sum (n := n) (show 0 < n by omega) hd e
  refine ⟨hn, hn6, ?_, fun p hp => ?_, ?_, fun x hx => ?_, fun i a b ha hb => ?_, ?_, fun x hx => ?_, fun i a b ha hb => ?_⟩
  · unfold whL
    rw [List.length_map, List.length_range, ok.len]
  · obtain ⟨q, hq, rfl⟩ := List.mem_map.mp hp
    rw [ok.len] at hq
    have hq := List.mem_range.mp hq
    exact ok.rowlt ((whS_iff ok hq).mp rfl)
  · rw [h1.2.length_eq]
    unfold netRows
    rw [List.length_map]
    have := List.length_filter_le (fun e => !decide (e.2 = 0)) st.nt
    omega
  · obtain ⟨y, hy, rfl⟩ := List.mem_map.mp (h1.2.mem_iff.mp hx)
    obtain ⟨hy1, hy2⟩ := List.mem_filter.mp hy
    have := ok.key y hy1
    exact ⟨this.1, this.2, by simpa using hy2⟩
  · have nod : (nets.map fun r : Nat × Nat × Int => (r.1, r.2.1)).Nodup := by
      refine (h1.2.map _).nodup_iff.mpr ?_
      unfold netRows
      rw [List.map_map]
      have : ((fun r : Nat × Nat × Int => (r.1, r.2.1)) ∘ fun e : (Nat × Nat) × Int => (e.1.1, e.1.2, e.2)) = fun e => e.1 := rfl
      rw [this]
      exact ok.nod.sublist ((List.filter_sublist).map _)
    have e1 : (sortD ((netRows st).map netD))[i]? = some (netD a) := by rw [h1.1, List.getElem?_map, ha]; rfl
    have e2 : (sortD ((netRows st).map netD))[i + 1]? = some (netD b) := by rw [h1.1, List.getElem?_map, hb]; rfl
    refine net_lt (asc_next e1 e2) fun q => ?_
    have := nodup_at nod (i := i) (j := i + 1) (a := (a.1, a.2.1)) (by rw [List.getElem?_map, ha]; rfl) (by rw [List.getElem?_map, hb, q]; rfl)
    omega
  · rw [h2.2.length_eq]
    omega
  · obtain ⟨⟨a, b, c⟩, d, f, _⟩ := lots x (h2.2.mem_iff.mp hx)
    have : x.1.length ≤ (List.range n).length := sub_len (asc_nodup b) fun z hz => List.mem_range.mpr (c z hz)
    rw [List.length_range] at this
    have hm : x.2.2 ≤ ndSum (toldN (grtAll st.nd)) := sum_ge (f := fun y : List Nat × Nat × Nat => y.2.2) (h2.2.mem_iff.mp hx)
    exact ⟨a, by omega, c, asc_ascN b, d, f, by omega⟩
  · have nod : needs.Nodup := h2.2.nodup_iff.mpr (toldN_nodup (grok_all st.nd).nod)
    have e1 : (sortD ((toldN (grtAll st.nd)).map needD))[i]? = some (needD a) := by rw [h2.1, List.getElem?_map, ha]; rfl
    have e2 : (sortD ((toldN (grtAll st.nd)).map needD))[i + 1]? = some (needD b) := by rw [h2.1, List.getElem?_map, hb]; rfl
    refine need_lt (asc_next e1 e2) fun q => ?_
    have := nodup_at nod (i := i) (j := i + 1) (a := a) ha (by rw [hb, q])
    omega
end K10
set_option maxHeartbeats 4000000
/-! _law_is_right. -/
namespace K10
open PySem PySem.Spec PyProof.Rows L2 SX
open C8 (Cal pe_c)
theorem q_S : (PySem.Str.ofString "q") = S [113] := by decide +kernel
section
variable {X : Cx} {σ : L2.St} {H : Hp} {a b' : Expr} {pos : Pos}
theorem EP.run0 {Φ : PyData → Prop} {Q : VK} (h : EP X σ H a Φ) (k : ∀ v H1 d, Same H H1 → Φ d → Dp X.K H1 v d → Q v H1) : WE X a σ H Q := (h H (Same.refl H)).mono fun v H1 ⟨s, d, p, dv⟩ => k v H1 d s p dv
/-- an item of a tuple, the very one -/
theorem we_ixT {q : Addr} {xs : List L2.V} {j : Nat} {v : L2.V} {Q : VK} (ha : WE X a σ H fun x H1 => x = .ref q ∧ SqT X.K H1 q xs ∧ WE X b' σ H1 fun y H2 => y = .int (j : Int) ∧ Same H1 H2 ∧ Q v H2) (hv : xs[j]? = some v) (hs : PlainIx b' := by exact fun _ _ => rfl) : WE X (.Subscript a b' pos) σ H Q :=
  we_of (pe_ix ix_tup (pw a) (pw b') hs) (ha.mono fun x H1 ⟨e, hq, k⟩ => k.mono fun y H2 ⟨e2, s2, qq⟩ => ⟨q, xs, (j : Int), v, e, e2, same_seqT (same_tx s2) hq, by
    have hl := (List.getElem?_eq_some_iff.mp hv).1
    unfold atI
    rw [ixN_nat hl]
    exact hv, qq⟩)
end
theorem letters_ok {n : Nat} {deed : List (Nat × Nat × Nat)} (hd : deedOk n deed) : ∀ z ∈ 113 :: ((deed.filter fun x => !decide (x.1 ∈ [42, 126])).map fun x => [x.1]).flatten, z ∈ LET := fun z hz => by
  rcases List.mem_cons.mp hz with rfl | hz
  · decide +kernel
  · obtain ⟨l, hl, hz⟩ := List.mem_flatten.mp hz
    obtain ⟨x, hx, rfl⟩ := List.mem_map.mp hl
    obtain ⟨h1, h2⟩ := List.mem_filter.mp hx
    rw [List.mem_singleton.mp hz]
    have := (hd.2 x h1).1
    simp at h2
    exact let_of this h2.1 h2.2
theorem letters_len {n : Nat} {deed : List (Nat × Nat × Nat)} (hd : deedOk n deed) : (113 :: ((deed.filter fun x => !decide (x.1 ∈ [42, 126])).map fun x => [x.1]).flatten).length ≤ 4 := by
  have h1 : ∀ l : List (Nat × Nat × Nat), (l.map fun x => [x.1]).flatten.length = l.length := by
    intro l
    induction l with
    | nil => rfl
    | cons x l ih => rw [List.map_cons, List.flatten_cons, List.length_append, ih]; simp; omega
  rw [List.length_cons, h1]
  have := List.length_filter_le (fun x : Nat × Nat × Nat => !decide (x.1 ∈ [42, 126])) deed
  have := hd.1
  omega
section
variable {P : Program} {w : World} {K : PySem.W.Frag} {mg : Str → Option Value} {base : Heap}
/-- what _law_told answers of a deed -/
def AnsAt (K : PySem.W.Frag) (g : Bool) (M : Nat) (H : Hp) (p : Addr) (n : Nat) (deed : List (Nat × Nat × Nat)) : Prop := match deedS n deed with
  | none => SqT K H p [.str "sense", .non]
  | some st => ∃ q nets needs, SqT K H p [.str "sense", .ref q] ∧ ToldAt K g M H q (whL st) nets needs ∧ NetsOf st nets ∧ NeedsOf st needs
theorem AnsAt.same {g : Bool} {M : Nat} {H H' : Hp} {p : Addr} {n : Nat} {deed : List (Nat × Nat × Nat)} (h : AnsAt K g M H p n deed) (s : Same H H') : AnsAt K g M H' p n deed := by
  unfold AnsAt at *
  split at h
  · exact same_seqT (same_tx s) h
  · obtain ⟨q, nets, needs, h1, h2, h3⟩ := h
    exact ⟨q, nets, needs, same_seqT (same_tx s) h1, h2.same s, h3⟩
theorem AnsAt.mono {g : Bool} {M M' : Nat} {H : Hp} {p : Addr} {n : Nat} {deed : List (Nat × Nat × Nat)} (h : AnsAt K g M H p n deed) (s : M ≤ M') : AnsAt K g M' H p n deed := by
  unfold AnsAt at *
  split at h
  · exact h
  · obtain ⟨q, nets, needs, h1, h2, h3⟩ := h
    exact ⟨q, nets, needs, h1, h2.mono s, h3⟩
def spRight (K : PySem.W.Frag) : SpT := fun vs us N H Q => ∃ (dd : Addr) (n : Nat) (dv : V) (deed : List (Nat × Nat × Nat)) (p : Addr), vs = [.ref dd, .int (n : Int), dv, .ref p] ∧ DrawOk K H dd ∧ 2 ≤ n ∧ n ≤ 6 ∧ deedOk n deed ∧ Dp K H dv (.tuple (deed.map stepD)) ∧ AnsAt K true N H p n deed ∧
  ∀ M H', N ≤ M → Same H H' → Q (.bl true) (.bool true) M H'
theorem c_is_right (V : Ev mg) (G : Gd K mg "_law_is_right" s_L_is_right) (Cl : CalT P w K mg base 2 "_law_led" (spLed K) []) (Cs : CalT P w K mg base 3 "_law_is_sense" (spIsSense K) []) (Cf : Cal P w K mg base 3 "_law_has_form" (spF K P_form) []) (Cc : Cal P w K mg base 2 "_law_can_be_done" (spF K P_can) []) (Cd : Cal P w K mg base 1 "_law_done" (spF K P_done) [])
    (Cw : Cal P w K mg base 3 "_law_world" (spD K P_world Q_world) []) (Ct : Cal P w K mg base 3 "_law_things" (spD K P_things Q_things) []) : CalT P w K mg base 4 "_law_is_right" (spRight K) [] := by
  obtain ⟨f, fd, F, gg⟩ := G.ex
  refine ⟨f, fd, p_L_is_right, [], ?_, gg, F.kp, F.bindsN (fun _ _ _ _ _ _ us hl => match us, hl with | [_, _, _, _], _ => rfl), .nil⟩
  refine fnT_of F sc_L_is_right (fun vs us M H Q ⟨_, _, _, _, _, h, _⟩ => by rw [h]; rfl) fun cdv A outer s H vs us Q hr hv h => ⟨[], (fun q hq => by cases hq), ?_⟩
  obtain ⟨dd, n, dv, deed, p, rfl, hdd, hn2, hn6, hdk, hdv, hans, hk⟩ := h
  have hN := sc_L_is_right.nd
  have hu := room_u hr
  generalize s.toks = N0 at hk hans
  have hcan : ∀ x ∈ deed, stepOk n x := fun x hx => (hdk.2 x hx).2
  unfold AnsAt at hans
  cases est : deedS n deed with
  | none =>
    rw [est] at hans
    have hans : SqT K H p [.str "sense", .non] := hans
    have dans : Dp K H (.ref p) (.tuple [.str "sense", .none]) := .tup hans (.cons (.str _) (.cons .non .nil))
    have hcb : canB n deed = false := can_false (fun w hw => (good_can deed _ 0 (fun w hw => by rw [List.mem_singleton.mp hw]; exact good_rep n) w hw).1) hdk.2 est
    refine wsf_stW (wss_when (b := !true) (et_ne (ee_ixT (ee_var 3 rfl dans) (ee_int (i := ((0 : Nat) : Int))) rfl) ee_str rfl) (fun hb => by cases hb) fun _ H1 s1 => wss_nil fun M1 hM1 => ?_)
    refine wsf_stW (wss_set (d := .none) 4 hN (ee_ixT (ee_var 3 rfl (dans.same s1)) (ee_int (i := ((1 : Nat) : Int))) rfl) fun v2 H2 s2 d2 => wss_nil fun M2 hM2 => ?_)
    refine wsf_stW (wss_when (b := true) (ET.is (et_isN (ee_var 4 rfl d2)) rfl) (fun _ H3 s3 => ?_) fun hb => by cases hb)
    refine wss_ret (ev_not (ee_call Cc hr (ea_cons (ee_var 1 rfl (.int _)) (ea_1 (ee_var 2 rfl (hdv.same (s1.trans (s2.trans s3)))))) ⟨n, deed, rfl, hn2, hn6, hdk.1, hcan, rfl⟩)) fun v4 H4 s4 d4 u M hu' hM => ?_
    rw [hcb] at d4
    have e4 := dp_bool d4
    subst e4
    obtain rfl : u = Value.bool true := hu'
    exact hk M H4 (by omega) (s1.trans (s2.trans (s3.trans s4)))
  | some st =>
    rw [est] at hans
    obtain ⟨q, nets, needs, hsq, htl, hnets, hneeds⟩ := hans
    have dtl := htl.dp
    have dans : Dp K H (.ref p) (.tuple [.str "sense", toldD (whL st) nets needs]) := .tup hsq (.cons (.str _) (.cons dtl .nil))
    have hcb : canB n deed = true := can_true (by omega) hdk.2 est
    have hform := form_told hn2 hn6 hdk est hnets hneeds
    have sum := told_sum (n := n) (show 0 < n by omega) hdk est
    have hns : ndSum needs ≤ 3 := by
      have : ndSum needs = ndSum (toldN (grtAll st.nd)) := (hneeds.2.map _).sum_nat
      omega
    have hndl : needs.length ≤ 3 := by rw [hneeds.2.length_eq]; exact sum.2
    have hsumI : (needs.map fun y => (y.2.2 : Int)).sum = (ndSum needs : Nat) := by
      unfold ndSum
      rw [← sum_natCast, List.map_map]
      rfl
    refine wsf_stW (wss_when (b := !true) (et_ne (ee_ixT (ee_var 3 rfl dans) (ee_int (i := ((0 : Nat) : Int))) rfl) ee_str rfl) (fun hb => by cases hb) fun _ H1 s1 => wss_nil fun M1 hM1 => ?_)
    -- told = answer[1]
    refine wsf_stW (wss_setW 4 hN (we_ixT (j := 1) (q := p) (xs := [.str "sense", .ref q]) (v := .ref q) ?_ rfl))
    refine we_var 3 rfl ⟨rfl, same_seqT (same_tx s1) hsq, ?_⟩
    refine EE.run (ee_int (i := ((1 : Nat) : Int))) fun y H2 s2 dy => ⟨dp_int dy, s2, wss_nil fun M2 hM2 => ?_⟩
    have s12 := s1.trans s2
    refine wsf_stW (wss_when (b := false) (ET.is (et_isN (ee_var 4 rfl (dtl.same s12))) rfl) (fun hb => by cases hb) fun _ H3 s3 => wss_nil fun M3 hM3 => ?_)
    have s13 := s12.trans s3
    refine wsf_stW (wss_when (b := !true || (decide ((4 : Int) < (needs.map fun y => (y.2.2 : Int)).sum) || !true)) (EW.et (ew_or (et_not (et_val (ee_call Cf hr (ea_cons (ee_var 1 rfl (.int _)) (ea_1 (ee_var 4 rfl (dtl.same s13)))) ⟨n, whL st, nets, needs, rfl, hform, rfl⟩))) fun _ => ew_or (et_gt (ee_sum (ns := needs.map fun y => (y.2.2 : Int)) (EE.is (EN.ee (en_lc hN (lcr_map (as := needs) (enc := needD) 9 (src_tup (ee_ixT (ee_var 4 rfl (dtl.same s13)) (ee_int (i := ((2 : Nat) : Int))) rfl)) hN (fun y => .int (y.2.2 : Int)) (fun _ _ => rfl) (fun y hy v H' s' dx s0 H0' C cl fp => ee_ixT (ee_var 9 rfl dx) (ee_int (i := ((2 : Nat) : Int))) rfl) (by omega)))) (by rw [List.map_map]; rfl)) V.sum) ee_int) fun _ => ew_or1 (et_not (et_val (EE.is (ee_call Cc hr (ea_cons (ee_var 1 rfl (.int _)) (ea_1 (ee_var 2 rfl (hdv.same s13)))) ⟨n, deed, rfl, hn2, hn6, hdk.1, hcan, rfl⟩) (by rw [hcb])))))) (fun hb => ?_) fun _ H4 s4 => wss_nil fun M4 hM4 => ?_)
    · rw [hsumI, decide_eq_false (by omega)] at hb
      cases hb
    have s14 := s13.trans s4
    -- if not is_sense(..)
    refine wsf_if (WB.run (wb_notD (b := true) (T := []) fun N' H' hn hs => wef_call Cs hr (by decide) rfl (waf_cons (wef_vv 1 rfl fun u1 M5 r1 n1 => waf_cons (wef_vv 2 rfl fun u2 M6 r2 n2 => waf_cons (wef_vv 4 rfl fun u3 M7 r3 n3 => waf_nil fun M8 n4 ds hds => by
      cases hds
      exact ⟨n, dv, deed, q, st, nets, needs, rfl, hn2, hn6, hdk, est, hdv.same (s14.trans hs), (htl.same (s14.trans hs)).mono (by omega), hnets, hneeds, fun M9 H9 hM9 s9 => ⟨s9, by omega, .bl true⟩⟩))))) fun H5 s5 => ?_)
    rw [if_neg (by simp)]
    refine wsf_nil fun M5 hM5 => ?_
    have s15 := s14.trans s5
    -- letters = 'q' + ''.join([..])
    have hlen4 := letters_len hdk
    have hlet := letters_ok hdk
    refine wsf_stW (wss_set (d := tx (113 :: ((deed.filter fun x => !decide (x.1 ∈ [42, 126])).map fun x => [x.1]).flatten)) 5 hN (ee_addS (l := [113]) (EE.is ee_str (congrArg PyData.str q_S)) (ee_joinS (ls := (deed.filter fun x => !decide (x.1 ∈ [42, 126])).map fun x => [x.1]) ee_str (EE.is (EN.ee (en_lc hN (lcr_filt (as := deed) (enc := stepD) 8 (srv_tup 2 rfl (hdv.same s15)).src hN (fun x => !decide (x.1 ∈ [42, 126])) (fun x => tx [x.1]) (fun _ _ _ => rfl) (fun x hx v H' s' dx s0 H0' C cl fp => et_nin1 (ee_ixT (ee_var 8 rfl dx) (ee_int (i := ((0 : Nat) : Int))) rfl) (EE.is ee_str (congrArg PyData.str star2_S)) rfl) (fun x hx hf v H' s' dx s0 H0' C cl fp => ee_ixT (ee_var 8 rfl dx) (ee_int (i := ((0 : Nat) : Int))) rfl) (by have := hdk.1; omega)))) (by rw [List.map_map]; rfl)) (by
      rw [← List.length_flatten]
      rw [List.length_cons] at hlen4
      omega)) (by rw [List.length_cons] at hlen4; simp only [List.length_cons, List.length_nil]; omega)) fun v6 H6 s6 d6 => wss_nil fun M6 hM6 => ?_)
    generalize hl0 : 113 :: ((deed.filter fun x => !decide (x.1 ∈ [42, 126])).map fun x => [x.1]).flatten = ls at hlen4 hlet d6
    have hls0 : ls ≠ [] := by rw [← hl0]; exact fun e => by cases e
    have s16 := s15.trans s6
    -- for turn in range(10)
    refine wsf_forV 6 (pgn 6 hN) PassesOwn.never (H0 := H6) (Same.refl H6) (ds := (List.range 10).map fun (i : Nat) => PyData.int (i : Int)) (srv_rangeN (n := 10) ee_int V.range (by omega))
      (fun i M σ' H' => M6 ≤ M ∧ Same H6 H' ∧ ∃ (x6 x7 x8 x9 : Option L2.V), σ' = [some (.ref dd), some (.int (n : Int)), some dv, some (.ref p), some (.ref q), some v6, x6, x7, x8, x9]) ?_ ?_ ?_ ?_
    · exact fun M H7 hM s7 => ⟨hM, s7, none, none, none, none, rfl⟩
    · exact fun i M σ' H' p => p.2.1
    · rintro i d M7 σ7 H7 v7 H8 M8 hd ⟨hM7, s7, x6, x7, x8, x9, rfl⟩ s8 dv7 hM8
      have s78 := s7.trans s8
      have s18 := s16.trans s78
      refine wsf_stW (wss_setW 7 hN (we_of (pe_c Cw hr (by decide) rfl (paw _)) (wa_cons (we_var 0 rfl (wa_cons (we_var 1 rfl (wa_cons (EP.run0 (ep_callW (ds := [tx ls, .int ((8 : Nat) : Int)]) Ct hr 0 rfl (hdd.same s18) (ea_cons (ee_var 5 rfl (d6.same s78)) (ea_1 ee_int)) ⟨ls, 8, rfl, hls0, by omega, by decide, by decide⟩ (by decide)) fun v9 H9 d9 s9 pd9 dd9 => wa_nil ?_))))))))
      obtain ⟨l', cap, mm, e9, rfl, hmm1, hmm2⟩ := pd9
      injection e9 with e9 e10
      injection e9 with e9
      injection e10 with e10
      injection e10 with e10
      have hcap : cap = 8 := by omega
      have hll : ls = l' := by simpa [S_list] using congrArg (fun z : Str => z.cps.toList) e9
      subst hll hcap
      refine ⟨dd, _, [iN n, tx mm], rfl, hdd.same (s18.trans s9), .cons (.int _) (.cons dd9 .nil), ⟨n, mm, rfl, hn2, hn6, by omega⟩, fun r v10 H10 s10 pr dr => wss_nil fun M10 hM10 => ?_⟩
      obtain ⟨n', m', u, e11, rfl, hgu, hcu⟩ := pr
      injection e11 with e11 e12
      injection e11 with e11
      injection e12 with e12
      injection e12 with e12
      have hnn : n' = n := by omega
      have hmm' : mm = m' := by simpa [S_list] using congrArg (fun z : Str => z.cps.toList) e12
      subst hnn hmm'
      have hgood : GoodW n' 100 u := good_mono hgu (by omega)
      have hcod : CodW u := fun r hr z hz => let_lt (hlet z (hmm2 z (hcu r hr z hz)))
      have hsw := sense_world hn2 hn6 hdk est hgood hcod hnets hneeds
      have hul : u.length = n' := hgood.1
      have s110 := s18.trans (s9.trans s10)
      -- if done(world, deed) != led(told, world)
      refine wsf_if (wtf_cmpR (op_neD (by have : (A.deeper (envOfC "_law_is_right" (defScope s_L_is_right) s.heap.objs.size f cdv)).units + 200 < cLine := hu; show (A.deeper (envOfC "_law_is_right" (defScope s_L_is_right) s.heap.objs.size f cdv)).units + 64 < cLine; omega)) (wef_of (EE.run (ee_call Cd hr (ea_cons (ee_var 7 rfl dr) (ea_1 (ee_var 2 rfl (hdv.same s110)))) ⟨u, deed, rfl, by omega, hgood.2.1, (fun r hr => by have := hgood.2.2 r hr; omega), hdk.1, (fun x hx => by rw [hul]; exact (hdk.2 x hx).2), rfl⟩) fun v11 H11 s11 d11 u0 M11 r0 hM11 => wef_call Cl hr (by decide) rfl (waf_cons (wef_vv 4 rfl fun u2 M16 r2 n2 => waf_cons (wef_vv 7 rfl fun u3 M17 r3 n3 => waf_nil fun M18 n4 ds hds => ?_))))))
      cases hds
      refine ⟨q, v10, u, whL st, nets, needs, rfl, (htl.same (s110.trans s11)).mono (by omega), dr.same s11, hsw.1, fun v u1 M19 H15 hM19 s17 rv dl => ?_⟩
      rw [← hsw.2.1] at dl
      refine ⟨optW (doneW u deed), optW (doneW u deed), d11.same s17, dl, shaped_opt hsw.2.2, shaped_opt hsw.2.2, _, rfl, ?_⟩
      rw [eqv_opt hsw.2.2, if_neg (by simp)]
      exact wsf_nil fun M20 hM20 => wsf_nil fun M21 hM21 => ⟨by omega, s78.trans (s9.trans (s10.trans (s11.trans s17))), _, _, _, _, rfl⟩
    · rintro M σ' H7 ⟨hM, s7, x6, x7, x8, x9, rfl⟩
      refine wsf_ret (wef_of (EE.run ee_bool fun v H8 s8 d => ?_))
      rw [dp_bool d]
      intro u0 M0 r0 hM0
      obtain rfl : u0 = Value.bool true := r0
      exact hk M0 H8 (by omega) (s16.trans (s7.trans s8))
end
end K10
set_option maxHeartbeats 4000000
/-! _law_no_deed. -/
namespace K10
open PySem PySem.Spec PyProof.Rows L2 SX
open C8 (Cal pe_c)
/-- nothing that sense takes for a deed -/
def Bad (n : Nat) (d : PyData) : Prop := okD 4 d = true ∧ (∀ es, tupD d = .tuple es → ∀ e ∈ es, askD e) ∧ isDeedD n (tupD d) = false
theorem ask_no {e : PyData} (h : ∀ ds, e ≠ .tuple ds) : askD e := fun ds q => absurd q (h ds)
theorem ask_str {z : Str} {r : List PyData} (hz : z.length ≤ 1000000) (hr : r.length ≤ 900) : askD (.tuple (.str z :: r)) := fun ds e => by
  cases e
  exact ⟨by rw [List.length_cons]; omega, fun a b c q => .inr ⟨z, by injection q with q _; exact q.symm, hz⟩⟩
theorem ask_none {r : List PyData} (hr : r.length ≤ 900) : askD (.tuple (.none :: r)) := fun ds e => by
  cases e
  exact ⟨by rw [List.length_cons]; omega, fun a b c q => .inl (by injection q with q _; exact q.symm)⟩
theorem one_bad {n : Nat} {d e : PyData} (h1 : okD 4 d = true) (h2 : tupD d = .tuple [e]) (h3 : askD e) (h4 : isStepD n e = false) : Bad n d := ⟨h1, fun es q y hy => by
  rw [h2] at q
  cases q
  rw [List.mem_singleton.mp hy]
  exact h3, by
  rw [h2]
  show (decide ((1 : Nat) ≤ 3) && ([e].all (isStepD n))) = false
  simp [h4]⟩
theorem step_ints {n : Nat} {a b c : PyData} (h : stepInts n b c = false) : isStepD n (.tuple [a, b, c]) = false := by
  show (whatD a && stepInts n b c) = false
  rw [h, Bool.and_false]
theorem step_what {n : Nat} {a b c : PyData} (h : whatD a = false) : isStepD n (.tuple [a, b, c]) = false := by
  show (whatD a && stepInts n b c) = false
  rw [h]
  rfl
theorem ints_out {n : Nat} {i : Int} {c : PyData} (h : i < 0 ∨ (n : Int) ≤ i) : stepInts n (.int i) c = false ∧ stepInts n c (.int i) = false := by
  have e : isIntegerD 0 ((n : Int) - 1) (.int i) = false := by
    show (decide ((0 : Int) ≤ i) && decide (i ≤ (n : Int) - 1)) = false
    rcases h with h | h
    · rw [decide_eq_false (by omega)]; rfl
    · rw [decide_eq_false (show ¬ i ≤ (n : Int) - 1 by omega), Bool.and_false]
  unfold stepInts
  rw [e]
  exact ⟨rfl, by simp⟩
def pool1 (x : Nat × Nat × Nat) (n : Nat) : List PyData := [.tuple (List.replicate 4 [stepD x]).flatten, stepD x, .tuple [.tuple [tx [x.1], iN x.2.1]], .tuple [.tuple [tx [x.1], iN x.2.1, iN x.2.2, .int 0]], .tuple [.tuple [tx [x.1], iN x.2.1, iN n]], .tuple [.tuple [tx [x.1], iN n, iN x.2.2]]]
def pool2 (x : Nat × Nat × Nat) : List PyData := [.tuple [.tuple [tx [x.1], iN x.2.1, iN x.2.1]], .tuple [.tuple [.str "A", .int 0, .int 1]], .tuple [.tuple [.str "ab", .int 0, .int 1]], .tuple [.tuple [.str "", .int 0, .int 1]], .tuple [.tuple [.none, .int 0, .int 1]]]
def pool3 (x : Nat × Nat × Nat) : List PyData := [.tuple [.tuple [.str "a", .bool true, .int 0]], .tuple [.tuple [.str "a", .int 0, .bool true]], .tuple [.tuple [.str "a", .int (-1), .int 0]], .tuple [stepD x, .str "a01"], .str "a01", .none, .int 0, .bool true, .tuple [.int 7]]
theorem pool_bad {n : Nat} {x : Nat × Nat × Nat} (hn : 2 ≤ n) (h1 : whatOk x.1) (h2 : stepOk n x) : ∀ d ∈ pool1 x n ++ pool2 x ++ pool3 x, Bad n d := fun d hd => by
  have hs1 : (S [x.1]).length ≤ 1000000 := by rw [S_len]; simp
  rw [List.mem_append, List.mem_append] at hd
  rcases hd with (hd | hd) | hd
  · simp only [pool1, List.mem_cons, List.not_mem_nil, or_false] at hd
    rcases hd with rfl | rfl | rfl | rfl | rfl | rfl
    · refine ⟨rfl, fun es q e he => ?_, rfl⟩
      have q : PyData.tuple [stepD x, stepD x, stepD x, stepD x] = .tuple es := q
      cases q
      have : e = stepD x := by simpa using he
      rw [this]
      exact ask_step x
    · refine ⟨rfl, fun es q e he => ?_, rfl⟩
      have q : PyData.tuple [tx [x.1], iN x.2.1, iN x.2.2] = .tuple es := q
      cases q
      refine ask_no fun ds q => ?_
      subst q
      simp at he
    · exact one_bad rfl rfl (ask_str hs1 (by simp [tupAll])) rfl
    · exact one_bad rfl rfl (ask_str hs1 (by simp [tupAll])) rfl
    · exact one_bad rfl rfl (ask_str hs1 (by simp [tupAll])) (step_ints (ints_out (.inr (Int.le_refl _))).2)
    · exact one_bad rfl rfl (ask_str hs1 (by simp [tupAll])) (step_ints (ints_out (.inr (Int.le_refl _))).1)
  · simp only [pool2, List.mem_cons, List.not_mem_nil, or_false] at hd
    rcases hd with rfl | rfl | rfl | rfl | rfl
    · refine one_bad rfl rfl (ask_str hs1 (by simp [tupAll])) (step_ints ?_)
      unfold stepInts
      show (_ && (_ && !decide ((x.2.1 : Int) = (x.2.1 : Int)))) = false
      simp
    · exact one_bad rfl rfl (ask_str (by decide +kernel) (by simp [tupAll])) (step_what (by decide +kernel))
    · exact one_bad rfl rfl (ask_str (by decide +kernel) (by simp [tupAll])) (step_what (by decide +kernel))
    · exact one_bad rfl rfl (ask_str (by decide +kernel) (by simp [tupAll])) (step_what (by decide +kernel))
    · exact one_bad rfl rfl (ask_none (by simp [tupAll])) rfl
  · simp only [pool3, List.mem_cons, List.not_mem_nil, or_false] at hd
    rcases hd with rfl | rfl | rfl | rfl | rfl | rfl | rfl | rfl | rfl
    · exact one_bad rfl rfl (ask_str (by decide +kernel) (by simp [tupAll])) (step_ints rfl)
    · refine one_bad rfl rfl (ask_str (by decide +kernel) (by simp [tupAll])) (step_ints ?_)
      unfold stepInts
      show (_ && (false && _)) = false
      simp
    · exact one_bad rfl rfl (ask_str (by decide +kernel) (by simp [tupAll])) (step_ints (ints_out (.inl (by decide))).1)
    · refine ⟨rfl, fun es q e he => ?_, ?_⟩
      · have q : PyData.tuple [stepD x, .str "a01"] = .tuple es := q
        cases q
        rcases List.mem_cons.mp he with rfl | he
        · exact ask_step x
        · rw [List.mem_singleton.mp he]
          exact ask_no fun ds q => by cases q
      · show (decide ((2 : Nat) ≤ 3) && (isStepD n (stepD x) && (false && true))) = false
        simp
    · exact ⟨rfl, (fun es q => by cases q), rfl⟩
    · exact ⟨rfl, (fun es q => by cases q), rfl⟩
    · exact ⟨rfl, (fun es q => by cases q), rfl⟩
    · exact ⟨rfl, (fun es q => by cases q), rfl⟩
    · exact one_bad (e := .int 7) rfl rfl (ask_no fun ds q => by cases q) rfl
section
variable {X : Cx} {σ : L2.St} {H : Hp} {b' : Expr} {p1 pos : Pos} {ds es : List PyData} {rest : List Stmt} {D : Ends}
/-- a list + a new list -/
theorem en_catL {x : Str} {l : Addr} {xs : List L2.V} (i : Nat) (hσ : σ[i]? = some (some (.ref l))) (hl : H l = some (.lst xs)) (hx : DpAll X.K H xs ds) (hb : EN X σ H b' es) (hz : ds.length + es.length ≤ 1000) (hN : X.N[i]? = some x := by rfl) (hv : Vis X.env.scope x := by first | exact Or.inl rfl | exact Or.inr (Or.inl rfl) | exact Or.inr (Or.inr rfl)) (hd1 : (x == ("__debug__" : Str)) = false := by decide) (hd2 : (x == ("__classdict__" : Str)) = false := by decide) :
    EN X σ H (.BinOp (.Name x p1) .Add b' pos) (ds ++ es) := fun H1 s1 =>
  we_of (pe_op op_cat (pe_var hN hv hd1 hd2) (pw b')) ⟨.ref l, hσ, (hb H1 s1).mono fun v H2 ⟨s2, p, ys, e, hn, hp, hy⟩ => ⟨l, p, xs, ys, rfl, e, s2 _ _ (s1 _ _ hl), hp, by rw [dpAll_len hx, dpAll_len hy, sizeLine_eq]; omega, fun q hq => by
    have sq : Same H2 (upd H2 q (.lst (xs ++ ys))) := same_new hq
    refine ⟨s2.trans sq, q, _, rfl, ?_, upd_same, (dpAll_app (hx.same (s1.trans s2)) hy).same sq⟩
    cases z : H1 q with
    | none => rfl
    | some u => rw [s2 _ _ z] at hq; cases hq⟩⟩
theorem wss_retP {e : Expr} {Φ : PyData → Prop} (h : EP X σ H e Φ) (k : ∀ d v H1, Φ d → Same H H1 → Dp X.K H1 v d → D.rt v H1) : WSs X (.Return (some e) pos :: rest) D σ H := wss_retW ((h H (Same.refl H)).mono fun v H1 ⟨s, d, p, dv⟩ => k d v H1 p s dv)
end
theorem ab_S : (PySem.Str.ofString "ab") = S [97, 98] := by decide +kernel
section
variable {P : Program} {w : World} {K : PySem.W.Frag} {mg : Str → Option Value} {base : Heap}
def spNo (K : PySem.W.Frag) : Sp := fun vs H Q _ => ∃ (dd : Addr) (n : Nat), vs = [.ref dd, .int (n : Int)] ∧ DrawOk K H dd ∧ 2 ≤ n ∧ n ≤ 6 ∧ ∀ v d H', Same H H' → Dp K H' v d → Bad n d → Q v H'
theorem c_no (V : Ev mg) (G : Gd K mg "_law_no_deed" s_L_no_deed) (Cp : Cal P w K mg base 2 "_law_pick" (spPick K) []) (Cs : CalT P w K mg base 3 "_law_step" (spStep K) []) : Cal P w K mg base 4 "_law_no_deed" (spNo K) [] := by
  obtain ⟨f, fd, F, gg⟩ := G.ex
  refine ⟨f, fd, p_L_no_deed, [], ?_, gg, F.kp, F.bindsN (fun _ _ _ _ _ _ us hl => match us, hl with | [_, _], _ => rfl), .nil⟩
  refine F.ok sc_L_no_deed (fun vs H Q E ⟨_, _, h, _⟩ => by rw [h]; rfl) fun cdv A outer s H vs Q E hr h => ⟨_, PSs.nox (pssw _), ?_⟩
  obtain ⟨dd, n, rfl, hdd, hn2, hn6, hk⟩ := h
  have hN := sc_L_no_deed.nd
  refine wss_setW 2 hN (we_of_wef (wef_call Cs hr (Nat.le_refl _) rfl (waf_cons (wef_v 0 rfl fun u0 M0 r0 n0 => waf_cons (wef_v 1 rfl fun u1 M1 r1 n1 => waf_cons (wef_str fun t ht => waf_nil fun M2 n2 ds hds => ?_))))))
  cases hds
  refine ⟨dd, n, [97, 98], by rw [ab_S]; rfl, hdd, hn2, hn6, by simp, by simp, by decide +kernel, fun a x M H1 hM s1 hst hw ho => ?_⟩
  have dst := hst.dp (K := K)
  refine wss_setN 3 hN (en_lst (ds := pool1 x n) (ea_cons (ee_repT (n := 4) (ee_tup (ea_1 (ee_var 2 rfl dst))) ee_int (by simp) (by decide) (by decide) (by simp)) (ea_cons (ee_var 2 rfl dst) (ea_cons (ee_tup (ea_1 (EE.is (ee_takeT (ds := [tx [x.1], iN x.2.1, iN x.2.2]) (i := 2) (ee_var 2 rfl dst) ee_int) rfl))) (ea_cons (ee_tup (ea_1 (EE.is (ee_catT (ds := [tx [x.1], iN x.2.1, iN x.2.2]) (es := [.int 0]) (ee_var 2 rfl dst) (ee_tup (ea_1 ee_int)) (by simp)) rfl))) (ea_cons (ee_tup (ea_1 (ee_tup (ea_cons (ee_ixT (ee_var 2 rfl dst) (ee_int (i := ((0 : Nat) : Int))) rfl) (ea_cons (ee_ixT (ee_var 2 rfl dst) (ee_int (i := ((1 : Nat) : Int))) rfl) (ea_1 (ee_var 1 rfl (.int _)))))))) (ea_1 (ee_tup (ea_1 (ee_tup (ea_cons (ee_ixT (ee_var 2 rfl dst) (ee_int (i := ((0 : Nat) : Int))) rfl) (ea_cons (ee_var 1 rfl (.int _)) (ea_1 (ee_ixT (ee_var 2 rfl dst) (ee_int (i := ((2 : Nat) : Int))) rfl))))))))))))) (by simp [pool1])) fun p1 xs1 H2 s2 hp1 hp1' hx1 => ?_
  have dst2 := dst.same s2
  refine wss_setN 3 hN (en_catL 3 rfl hp1' hx1 (en_lst (ds := pool2 x) (ea_cons (ee_tup (ea_1 (ee_tup (ea_cons (ee_ixT (ee_var 2 rfl dst2) (ee_int (i := ((0 : Nat) : Int))) rfl) (ea_cons (ee_ixT (ee_var 2 rfl dst2) (ee_int (i := ((1 : Nat) : Int))) rfl) (ea_1 (ee_ixT (ee_var 2 rfl dst2) (ee_int (i := ((1 : Nat) : Int))) rfl))))))) (ea_cons (ee_tup (ea_1 (ee_tup (ea_cons ee_str (ea_cons ee_int (ea_1 ee_int)))))) (ea_cons (ee_tup (ea_1 (ee_tup (ea_cons ee_str (ea_cons ee_int (ea_1 ee_int)))))) (ea_cons (ee_tup (ea_1 (ee_tup (ea_cons ee_str (ea_cons ee_int (ea_1 ee_int)))))) (ea_1 (ee_tup (ea_1 (ee_tup (ea_cons ee_none (ea_cons ee_int (ea_1 ee_int))))))))))) (by simp [pool2])) (by simp [pool1, pool2])) fun p2 xs2 H3 s3 hp2 hp2' hx2 => ?_
  have dst3 := dst2.same s3
  refine wss_setN 3 hN (en_catL 3 rfl hp2' hx2 (en_lst (ds := pool3 x) (ea_cons (ee_tup (ea_1 (ee_tup (ea_cons ee_str (ea_cons ee_bool (ea_1 ee_int)))))) (ea_cons (ee_tup (ea_1 (ee_tup (ea_cons ee_str (ea_cons ee_int (ea_1 ee_bool)))))) (ea_cons (ee_tup (ea_1 (ee_tup (ea_cons ee_str (ea_cons (ee_neg ee_int) (ea_1 ee_int)))))) (ea_cons (ee_tup (ea_cons (ee_var 2 rfl dst3) (ea_1 ee_str))) (ea_cons ee_str (ea_cons ee_none (ea_cons ee_int (ea_cons ee_bool (ea_1 (ee_tup (ea_1 ee_int))))))))))) (by simp [pool3])) (by simp [pool1, pool2, pool3])) fun p3 xs3 H4 s4 hp3 hp3' hx3 => ?_
  have s14 := s1.trans (s2.trans (s3.trans s4))
  have dp3 : Dp K H4 (.ref p3) (.list (pool1 x n ++ pool2 x ++ pool3 x)) := .lst (.of hp3') hx3
  refine wss_retP (ep_ixL (ds := pool1 x n ++ pool2 x ++ pool3 x) (ee_var 3 rfl dp3) (ep_pick Cp hr 0 rfl (hdd.same s14) (ee_lenS (ee_var 3 rfl dp3) rfl (by simp [pool1, pool2, pool3]) V.len) (by simp [pool1, pool2, pool3]) (by simp [pool1, pool2, pool3]))) fun d v H5 pd s5 dv => hk v d H5 (s14.trans s5) dv (pool_bad hn2 hw ho d pd)
end
end K10
set_option maxHeartbeats 4000000
/-! law. -/
namespace K10
open PySem PySem.Spec PyProof.Rows L2 SX
open C8 (Cal pe_c)
section
variable {X : Cx} {T : TT2} {N : Nat} {σ : L2.St} {H : Hp} {e1 e2 e : Expr} {pos : Pos} {rest : List Stmt} {D : EndF}
theorem wb_or {x y : Bool} (h1 : WB X T N e1 σ H x) (h2 : x = false → WB X T N e2 σ H y) : WB X T N (.BoolOp .Or [e1, e2] pos) σ H (x || y) := fun N' H' hn hs => .mk fun pins s I t n => by
  refine isTrue_or (thn (h1 N' H' hn hs pins s I t n) fun c s1 ⟨H1, I1, t1, n1, s01, e⟩ => ?_)
  subst e
  cases c with
  | false =>
    refine isTrue_or (thn (h2 rfl _ H1 (Nat.le_trans hn n1) (hs.trans s01) pins s1 I1 t1 (Nat.le_refl _)) fun c2 s2 ⟨H2, I2, t2, n2, s12, e2⟩ => ?_)
    subst e2
    cases c2 with
    | false => exact isTrue_or_nil ⟨H2, I2, t2, Nat.le_trans n1 n2, s01.trans s12, rfl⟩
    | true => exact ⟨H2, I2, t2, Nat.le_trans n1 n2, s01.trans s12, rfl⟩
  | true => exact ⟨H1, I1, t1, n1, s01, rfl⟩
end
theorem DeedIn.mono {K : PySem.W.Frag} {g : Bool} {M M' : Nat} {H : Hp} {v : L2.V} {deed : List (Nat × Nat × Nat)} (h : DeedIn K g M H v deed) (n : M ≤ M') : DeedIn K g M' H v deed := by
  obtain ⟨h1, h2⟩ := h
  refine ⟨h1, fun e => ?_⟩
  obtain ⟨a, e1, e2⟩ := h2 e
  exact ⟨a, e1, e2.mono n⟩
/-- what is answered of a deed, as data -/
def ansD (n : Nat) (deed : List (Nat × Nat × Nat)) : PyData := match deedS n deed with
  | none => .tuple [.str "sense", .none]
  | some st => .tuple [.str "sense", .tuple [nD (whL st), .tuple (sortD ((netRows st).map netD)), .tuple (sortD ((toldN (grtAll st.nd)).map needD))]]
theorem AnsAt.dp {K : PySem.W.Frag} {g : Bool} {M : Nat} {H : Hp} {p : Addr} {n : Nat} {deed : List (Nat × Nat × Nat)} (h : AnsAt K g M H p n deed) : Dp K H (.ref p) (ansD n deed) := by
  unfold AnsAt at h
  unfold ansD
  generalize deedS n deed = o at h ⊢
  cases o with
  | none => exact .tup h (.cons (.str _) (.cons .non .nil))
  | some st =>
    obtain ⟨q, nets, needs, h1, h2, h3, h4⟩ := h
    dsimp only
    rw [h3.1, h4.1]
    exact .tup h1 (.cons (.str _) (.cons h2.dp .nil))
theorem okAll_ints (m : Nat) (l : List Nat) : okAll m (l.map iN) = true := okAll_iff.mpr fun d hd => by
  obtain ⟨k, _, rfl⟩ := List.mem_map.mp hd
  cases m <;> rfl
theorem ok_ans {n : Nat} {deed : List (Nat × Nat × Nat)} (hn : 2 ≤ n) (hn6 : n ≤ 6) (hd : deedOk n deed) {nets : List (Nat × Nat × Int)} {needs : List (List Nat × Nat × Nat)} (h : ∀ st, deedS n deed = some st → NetsOf st nets ∧ NeedsOf st needs) : okD 5 (ansD n deed) = true := by
  unfold ansD
  cases e : deedS n deed with
  | none => rfl
  | some st =>
    obtain ⟨h1, h2⟩ := h st e
    have fo := form_told hn hn6 hd e h1 h2
    dsimp only
    rw [h1.1, h2.1]
    have a1 : okD 3 (nD (whL st)) = true := by
      show (decide (((whL st).map iN).length ≤ 1000) && okAll 2 ((whL st).map iN)) = true
      rw [okAll_ints, decide_eq_true (by rw [List.length_map, fo.whl]; omega)]
      rfl
    have a2 : okD 3 (.tuple (nets.map netD)) = true := by
      show (decide ((nets.map netD).length ≤ 1000) && okAll 2 (nets.map netD)) = true
      rw [decide_eq_true (by rw [List.length_map]; have := fo.netl; omega), Bool.true_and]
      exact okAll_iff.mpr fun d hd => by
        obtain ⟨r, _, rfl⟩ := List.mem_map.mp hd
        rfl
    have a3 : okD 3 (.tuple (needs.map needD)) = true := by
      show (decide ((needs.map needD).length ≤ 1000) && okAll 2 (needs.map needD)) = true
      rw [decide_eq_true (by rw [List.length_map]; have := fo.needl; omega), Bool.true_and]
      refine okAll_iff.mpr fun d hd => ?_
      obtain ⟨r, hr, rfl⟩ := List.mem_map.mp hd
      have b : okD 1 (nD r.1) = true := by
        show (decide ((r.1.map iN).length ≤ 1000) && okAll 0 (r.1.map iN)) = true
        rw [okAll_ints, decide_eq_true (by rw [List.length_map]; have := (fo.need r hr).2.1; omega)]
        rfl
      show (decide (3 ≤ 1000) && (okD 1 (nD r.1) && (true && (true && true)))) = true
      rw [b]
      rfl
    show (decide (2 ≤ 1000) && (true && ((decide (3 ≤ 1000) && (okD 3 (nD (whL st)) && (okD 3 (.tuple (nets.map netD)) && (okD 3 (.tuple (needs.map needD)) && true)))) && true))) = true
    rw [a1, a2, a3]
    rfl
theorem told_ans {K : PySem.W.Frag} {g : Bool} {us : List Value} {N n : Nat} {H : Hp} {dv : L2.V} {deed : List (Nat × Nat × Nat)} {Q : L2.V → Value → Nat → Hp → Prop} (hn : 2 ≤ n) (hn6 : n ≤ 6) (hd : deedOk n deed) (hin : DeedIn K g N H dv deed) (k : ∀ p M H', N ≤ M → Same H H' → AnsAt K g M H' p n deed → okD 5 (ansD n deed) = true → Q (.ref p) (.ref p) M H') : spTold K g [.int (n : Int), dv] us N H Q := by
  refine ⟨n, dv, deed, rfl, hn, hn6, hd, hin, ?_⟩
  cases e : deedS n deed with
  | none => exact fun p M H' hM s hq => k p M H' hM s (by unfold AnsAt; rw [e]; exact hq) (ok_ans (nets := []) (needs := []) hn hn6 hd fun st q => by rw [e] at q; cases q)
  | some st => exact fun p q M nets needs H' hM s h1 h2 h3 h4 => k p M H' hM s (by unfold AnsAt; rw [e]; exact ⟨q, nets, needs, h1, h2, h3, h4⟩) (ok_ans hn hn6 hd fun st' q => by rw [e] at q; cases q; exact ⟨h3, h4⟩)
theorem tup_list : ∀ deed : List (Nat × Nat × Nat), tupAll (listAll (deed.map stepD)) = deed.map stepD
  | [] => rfl
  | x :: deed => by
    rw [List.map_cons, listAll, tupAll, tup_list deed]
    rfl
theorem tup_tup : ∀ deed : List (Nat × Nat × Nat), tupAll (deed.map stepD) = deed.map stepD
  | [] => rfl
  | x :: deed => by
    rw [List.map_cons, tupAll, tup_tup deed]
    rfl
theorem ok_deed {n : Nat} {deed : List (Nat × Nat × Nat)} (hd : deedOk n deed) (m : Nat) : okD (m + 2) (.tuple (deed.map stepD)) = true := by
  show (decide ((deed.map stepD).length ≤ 1000) && okAll (m + 1) (deed.map stepD)) = true
  rw [decide_eq_true (by rw [List.length_map]; have := hd.1; omega), Bool.true_and]
  refine okAll_iff.mpr fun d h => ?_
  obtain ⟨x, _, rfl⟩ := List.mem_map.mp h
  cases m <;> rfl
theorem ok_listed {n : Nat} {deed : List (Nat × Nat × Nat)} (hd : deedOk n deed) (m : Nat) : okD (m + 2) (listD (.tuple (deed.map stepD))) = true := by
  show (decide ((listAll (deed.map stepD)).length ≤ 1000) && okAll (m + 1) (listAll (deed.map stepD))) = true
  rw [listAll_map, decide_eq_true (by rw [List.length_map, List.length_map]; have := hd.1; omega), Bool.true_and]
  refine okAll_iff.mpr fun d h => ?_
  obtain ⟨y, hy, rfl⟩ := List.mem_map.mp h
  obtain ⟨x, _, rfl⟩ := List.mem_map.mp hy
  cases m <;> rfl
def oddL : List PyData := [.int 1, .int 7, .int 0, .int (-2), .bool true, .none, .str "3", .tuple [.int 3]]
theorem odd_no : ∀ d ∈ oddL, isIntegerD 2 6 d = false ∧ okD 4 d = true := fun d hd => by
  simp only [oddL, List.mem_cons, List.not_mem_nil, or_false] at hd
  rcases hd with rfl | rfl | rfl | rfl | rfl | rfl | rfl | rfl <;> exact ⟨rfl, rfl⟩
def sizeL : List PyData := [.int 2, .int 3, .int 3, .int 4, .int 2, .int 3, .int 5, .int 6]
theorem size_ok : ∀ d ∈ sizeL, ∃ n : Nat, d = iN n ∧ 2 ≤ n ∧ n ≤ 6 := fun d hd => by
  simp only [sizeL, List.mem_cons, List.not_mem_nil, or_false] at hd
  rcases hd with rfl | rfl | rfl | rfl | rfl | rfl | rfl | rfl
  · exact ⟨2, rfl, by decide, by decide⟩
  · exact ⟨3, rfl, by decide, by decide⟩
  · exact ⟨3, rfl, by decide, by decide⟩
  · exact ⟨4, rfl, by decide, by decide⟩
  · exact ⟨2, rfl, by decide, by decide⟩
  · exact ⟨3, rfl, by decide, by decide⟩
  · exact ⟨5, rfl, by decide, by decide⟩
  · exact ⟨6, rfl, by decide, by decide⟩
section
variable {P : Program} {w : World} {K : PySem.W.Frag} {mg : Str → Option Value} {base : Heap} {f : Addr} {fd : FuncData}
def spLawT (K : PySem.W.Frag) : SpT := fun vs us N H Q => ∃ (a : Addr) (ns : List Int), vs = [.ref a] ∧ Dp K H (.ref a) (.list (ns.map .int)) ∧ ns.length ≤ 1000 ∧ ∀ M H', Q (.bl true) (.bool true) M H'
theorem fn_law (V : Ev mg) (F : FunD K "law" "law" (defArgs s_law) (defBody s_law) (defScope s_law) [] [] f fd) (Cdr : Cal P w K mg base 1 "_law_draw" (spDraw K) []) (Cp : Cal P w K mg base 2 "_law_pick" (spPick K) []) (Ck : Cal P w K mg base 3 "_law_kinds" (spD K (fun ds => ds = []) fun _ r => ∃ l, kindsOk l ∧ r = tx l) []) (Cso : CalT P w K mg base 4 "_law_some_deed" (spBack K) [])
    (Ct : CalT P w K mg base 16 "_law_told" (spTold K true) []) (Cf : CalT P w K mg base 16 "_law_told" (spTold K false) []) (Cx : Cal P w K mg base 16 "_law_told" (spF K P_toldX) []) (Cr : CalT P w K mg base 4 "_law_is_right" (spRight K) []) (Cl : Cal P w K mg base 3 "_law_listed" (spL K 2) []) (Ce : Cal P w K mg base 7 "_law_exact" (spF K (P_exact 5)) []) (Cn : Cal P w K mg base 4 "_law_no_deed" (spNo K) []) : FnT P w K mg base 17 f fd p_law (spLawT K) := by
  refine fnT_of F sc_law (fun vs us M H Q ⟨_, _, h, _⟩ => by rw [h]; rfl) fun cdv A outer s H vs us Q hr hv h => ⟨[], (fun q hq => by cases hq), ?_⟩
  obtain ⟨a, ns, rfl, da, hns, hk⟩ := h
  have hN := sc_law.nd
  generalize s.toks = N0
  -- draw_here = _law_draw(script)
  refine wsf_stW (wss_setW 1 hN (we_of (pe_c Cdr hr (by decide) rfl (paw _)) (wa_cons (we_var 0 rfl (wa_nil ⟨a, ns, rfl, da, hns, fun d H1 s1 hd => wss_nil fun M1 hM1 => ?_⟩)))))
  -- size
  refine wsf_stW (wss_setP 2 hN (ep_ixL (ds := sizeL) (EN.ee (en_lst (ea_cons ee_int (ea_cons ee_int (ea_cons ee_int (ea_cons ee_int (ea_cons ee_int (ea_cons ee_int (ea_cons ee_int (ea_1 ee_int)))))))) (by simp [sizeL]))) (ep_pick (n := 8) Cp hr 1 rfl hd ee_int (by decide) (by decide))) fun d2 v2 H2 pd2 s2 dv2 => wss_nil fun M2 hM2 => ?_)
  obtain ⟨n, rfl, hn2, hn6⟩ := size_ok _ pd2
  have e2 := dp_int dv2
  subst e2
  have hd2 := hd.same s2
  -- kinds
  refine wsf_stW (wss_setP 3 hN (ep_callW (ds := []) Ck hr 1 rfl hd2 ea_nil rfl (by decide)) fun d3 v3 H3 pd3 s3 dv3 => wss_nil fun M3 hM3 => ?_)
  obtain ⟨l, ⟨hl0, hl1, hl2⟩, rfl⟩ := pd3
  have e3 := dp_str dv3
  subst e3
  have hd3 := hd2.same s3
  -- deed
  refine wsf_set 4 hN (wef_call Cso hr (by decide) rfl (waf_cons (wef_vv 1 rfl fun u1 M4 r1 n1 => waf_cons (wef_vv 2 rfl fun u2 M5 r2 n2 => waf_cons (wef_vv 3 rfl fun u3 M6 r3 n3 => waf_nil fun M7 n4 ds hds => ?_)))))
  cases hds
  refine ⟨d, n, l, rfl, hd3, hn2, hn6, hl0, by omega, hl2, fun p4 deed M8 H4 hM8 s4 hda4 hdk4 => ⟨[], (fun q hq => by cases hq), ?_⟩⟩
  have hd4 := hd3.same s4
  -- other
  refine wsf_set 5 hN (wef_call Cso hr (by decide) rfl (waf_cons (wef_vv 1 rfl fun u1 M9 r1 n1 => waf_cons (wef_vv 2 rfl fun u2 M10 r2 n2 => waf_cons (wef_vv 3 rfl fun u3 M11 r3 n3 => waf_nil fun M12 n4 ds hds => ?_)))))
  cases hds
  refine ⟨d, n, l, rfl, hd4, hn2, hn6, hl0, by omega, hl2, fun p5 other M13 H5 hM13 s5 hda5 hdk5 => ⟨[], (fun q hq => by cases hq), ?_⟩⟩
  have hd5 := hd4.same s5
  have hda4' := (hda4.same s5).mono (show M8 ≤ M13 by omega)
  have din : ∀ {deed : List (Nat × Nat × Nat)} {p : Addr} {M : Nat} {H : Hp}, deedOk n deed → DeedAt K M H p deed → DeedIn K true M H (.ref p) deed := fun {deed p M H} hk h => ⟨⟨_, h.dp, ok_deed hk 2, by show PyData.tuple (tupAll (deed.map stepD)) = _; rw [tup_tup]⟩, fun _ => ⟨p, rfl, h⟩⟩
  -- first = told(size, deed)
  refine wsf_set 6 hN (wef_call Ct hr (Nat.le_refl _) rfl (waf_cons (wef_vv 2 rfl fun u1 M14 r1 n1 => waf_cons (wef_vv 4 rfl fun u2 M15 r2 n2 => waf_nil fun M16 n3 ds hds => ?_))))
  cases hds
  refine told_ans hn2 hn6 hdk4 (din hdk4 (hda4'.mono (by omega))) fun p6 M17 H6 hM17 s6 hans hok => ⟨[], (fun q hq => by cases hq), ?_⟩
  have hd6 := hd5.same s6
  have h46 := (hda4'.same s6).mono (show M13 ≤ M17 by omega)
  have h56 := (hda5.same s6).mono (show M13 ≤ M17 by omega)
  -- if not right(..) or not right(..)
  refine wsf_if (WB.run (wb_or (x := !true) (y := !true) (wb_notD (b := true) ?_) fun _ => wb_notD (b := true) ?_) fun H7 s7 => ?_)
  · intro N' H' hn hs
    refine wef_call Cr hr (by decide) rfl (waf_cons (wef_vv 1 rfl fun u1 M18 r1 n1 => waf_cons (wef_vv 2 rfl fun u2 M19 r2 n2 => waf_cons (wef_vv 4 rfl fun u3 M20 r3 n3 => waf_cons (wef_vv 6 rfl fun u4 M21 r4 n4 => waf_nil fun M22 n5 ds hds => ?_)))))
    cases hds
    exact ⟨d, n, .ref p4, deed, p6, rfl, hd6.same hs, hn2, hn6, hdk4, h46.dp.same hs, (hans.same hs).mono (by omega), fun M23 H7 hM23 s7 => ⟨s7, by omega, .bl true⟩⟩
  · intro N' H' hn hs
    refine wef_call Cr hr (by decide) rfl (waf_cons (wef_vv 1 rfl fun u1 M18 r1 n1 => waf_cons (wef_vv 2 rfl fun u2 M19 r2 n2 => waf_cons (wef_vv 5 rfl fun u3 M20 r3 n3 => waf_cons ?_))))
    refine wef_call Ct hr (Nat.le_refl _) rfl (waf_cons (wef_vv 2 rfl fun u5 M24 r5 n6 => waf_cons (wef_vv 5 rfl fun u6 M25 r6 n7 => waf_nil fun M26 n8 ds hds => ?_)))
    cases hds
    refine told_ans hn2 hn6 hdk5 (din hdk5 ((h56.same hs).mono (by omega))) fun p7 M27 H7 hM27 s7 hans7 hok7 => waf_nil fun M22 n5 ds hds => ?_
    cases hds
    exact ⟨d, n, .ref p5, other, p7, rfl, hd6.same (hs.trans s7), hn2, hn6, hdk5, h56.dp.same (hs.trans s7), hans7.mono (by omega), fun M23 H8 hM23 s8 => ⟨s7.trans s8, by omega, .bl true⟩⟩
  rw [if_neg (by simp)]
  refine wsf_nil fun M18 hM18 => ?_
  have hd7 := hd6.same s7
  have h47 := (h46.same s7).mono (show M17 ≤ M18 by omega)
  have hans7 := (hans.same s7).mono (show M17 ≤ M18 by omega)
  -- handed = listed(deed)
  refine wsf_stW (wss_setW 7 hN (we_of (pe_c Cl hr (by decide) rfl (paw _)) (wa_cons (we_var 4 rfl (wa_nil ⟨_, .cons h47.dp .nil, ok_deed hdk4 0, fun v8 H8 s8 dv8 => wss_nil fun M19 hM19 => ?_⟩)))))
  have dl8 := dv8.dp
  have hd8 := hd7.same s8
  have h48 := (h47.same s8).mono (show M18 ≤ M19 by omega)
  have da8 := hans7.dp.same s8
  have din2 : ∀ {M : Nat} {H : Hp} {v : L2.V}, Dp K H v (listD (.tuple (deed.map stepD))) → DeedIn K false M H v deed := fun {M H v} h => ⟨⟨_, h, ok_listed hdk4 2, by show PyData.tuple (tupAll (listAll (deed.map stepD))) = _; rw [tup_list]⟩, fun e => by cases e⟩
  -- if not exact(told(size, handed), first) or not exact(handed, listed(deed))
  refine wsf_if (WB.run (wb_or (x := !true) (y := !true) (wb_notD (b := true) ?_) fun _ => wb_notD (b := true) ?_) fun H9 s9 => ?_)
  · intro N' H' hn hs
    refine wef_call (CalT.of Ce) hr (by decide) rfl (waf_cons ?_)
    refine wef_call Cf hr (Nat.le_refl _) rfl (waf_cons (wef_vv 2 rfl fun u5 M24 r5 n6 => waf_cons (wef_vv 7 rfl fun u6 M25 r6 n7 => waf_nil fun M26 n8 ds hds => ?_)))
    cases hds
    refine told_ans hn2 hn6 hdk4 (din2 (dl8.same hs)) fun p7 M27 H7 hM27 s7 hans8 hok8 => waf_cons (wef_vv 6 rfl fun u7 M28 r7 n9 => waf_nil fun M22 n5 ds hds => ?_)
    cases hds
    exact ⟨_, _, .cons hans8.dp (.cons (da8.same (hs.trans s7)) .nil), ⟨ansD n deed, rfl, hok8, rfl⟩, fun v H10 s10 dv u M _ hM => ⟨s7.trans s10, by omega, dv⟩⟩
  · intro N' H' hn hs
    refine wef_call (CalT.of Ce) hr (by decide) rfl (waf_cons (wef_vv 7 rfl fun u6 M25 r6 n7 => waf_cons ?_))
    refine wef_call (CalT.of Cl) hr (by decide) rfl (waf_cons (wef_vv 4 rfl fun u5 M24 r5 n6 => waf_nil fun M26 n8 ds hds => ?_))
    cases hds
    refine ⟨_, .cons (h48.dp.same hs) .nil, ok_deed hdk4 0, fun v10 H10 s10 dv10 u10 M27 r10 hM27 => waf_nil fun M22 n5 ds hds => ?_⟩
    cases hds
    exact ⟨_, _, .cons (dl8.same (hs.trans s10)) (.cons dv10.dp .nil), ⟨_, rfl, ok_listed hdk4 3, rfl⟩, fun v H11 s11 dv u M _ hM => ⟨s10.trans s11, by omega, dv⟩⟩
  rw [if_neg (by simp)]
  refine wsf_nil fun M20 hM20 => ?_
  have hd9 := hd8.same s9
  have h49 := (h48.same s9).mono (show M19 ≤ M20 by omega)
  have da9 := da8.same s9
  -- if not exact(told(size, deed), first)
  refine wsf_if (WB.run (wb_notD (b := true) (T := []) ?_) fun H10 s10 => ?_)
  · intro N' H' hn hs
    refine wef_call (CalT.of Ce) hr (by decide) rfl (waf_cons ?_)
    refine wef_call Ct hr (Nat.le_refl _) rfl (waf_cons (wef_vv 2 rfl fun u5 M24 r5 n6 => waf_cons (wef_vv 4 rfl fun u6 M25 r6 n7 => waf_nil fun M26 n8 ds hds => ?_)))
    cases hds
    refine told_ans hn2 hn6 hdk4 (din hdk4 ((h49.same hs).mono (by omega))) fun p7 M27 H7 hM27 s7 hans8 hok8 => waf_cons (wef_vv 6 rfl fun u7 M28 r7 n9 => waf_nil fun M22 n5 ds hds => ?_)
    cases hds
    exact ⟨_, _, .cons hans8.dp (.cons (da9.same (hs.trans s7)) .nil), ⟨ansD n deed, rfl, hok8, rfl⟩, fun v H10 s10 dv u M _ hM => ⟨s7.trans s10, by omega, dv⟩⟩
  rw [if_neg (by simp)]
  refine wsf_nil fun M21 hM21 => ?_
  have hd10 := hd9.same s10
  have h410 := h49.dp.same s10
  -- wrong, odd
  refine wsf_stW (wss_setW 8 hN (we_of (pe_c Cn hr (by decide) rfl (paw _)) (wa_cons (we_var 1 rfl (wa_cons (we_var 2 rfl (wa_nil ⟨d, n, rfl, hd10, hn2, hn6, fun v11 d11 H11 s11 dv11 hbad => wss_nil fun M22 hM22 => ?_⟩)))))))
  have hd11 := hd10.same s11
  refine wsf_stW (wss_setP 9 hN (ep_ixL (ds := oddL) (EN.ee (en_lst (ea_cons ee_int (ea_cons ee_int (ea_cons ee_int (ea_cons (ee_neg ee_int) (ea_cons ee_bool (ea_cons ee_none (ea_cons ee_str (ea_1 (ee_tup (ea_1 ee_int)))))))))) (by simp [oddL]))) (ep_pick (n := 8) Cp hr 1 rfl hd11 ee_int (by decide) (by decide))) fun d12 v12 H12 pd12 s12 dv12 => wss_nil fun M23 hM23 => ?_)
  obtain ⟨odd1, odd2⟩ := odd_no _ pd12
  have hd12 := hd11.same s12
  have dw := dv11.same s12
  have dd4 := h410.same (s11.trans s12)
  have ok5 : okD 5 (.tuple [.str "deed", d11]) = true := by
    show (decide (2 ≤ 1000) && (true && (okD 4 d11 && true))) = true
    rw [hbad.1]
    rfl
  have ok6 : okD 5 (.tuple [.str "size", d12]) = true := by
    show (decide (2 ≤ 1000) && (true && (okD 4 d12 && true))) = true
    rw [odd2]
    rfl
  -- if not exact(told(size, wrong), ('deed', wrong))
  refine wsf_stW (wss_when (b := !true) (et_not (et_val (ee_call Ce hr (ea_cons (ee_call (d := .tuple [.str "deed", d11]) Cx hr (ea_cons (ee_var 2 rfl (.int _)) (ea_1 (ee_var 8 rfl dw))) ⟨iN n, d11, rfl, .inr ⟨⟨n, rfl, hn2, hn6, hbad.1, hbad.2.1, hbad.2.2⟩, rfl⟩⟩) (ea_1 (ee_tup (ea_cons ee_str (ea_1 (ee_var 8 rfl dw)))))) ⟨_, rfl, ok5, rfl⟩))) (fun hb => by cases hb) fun _ H13 s13 => wss_nil fun M24 hM24 => ?_)
  have dw13 := dw.same s13
  have do13 := dv12.same s13
  have dd13 := dd4.same s13
  have hd13 := hd12.same s13
  -- return exact(told(odd, [deed, wrong][pick(draw, 2)]), ('size', odd))
  refine wsf_ret (wef_of (we_of (pe_c Ce hr (by decide) rfl (paw _)) (wa_cons ?_)))
  refine we_of (pe_c Cx hr (by decide) rfl (paw _)) (wa_cons (we_var 9 rfl (wa_cons (EP.run0 (ep_ixL (ds := [.tuple (deed.map stepD), d11]) (EN.ee (en_lst (ea_cons (ee_var 4 rfl dd13) (ea_1 (ee_var 8 rfl dw13))))) (ep_pick (n := 2) Cp hr 1 rfl hd13 ee_int (by decide) (by decide))) fun v14 H14 d14 s14 pd14 dv14 => wa_nil ?_))))
  refine ⟨_, _, .cons (do13.same s14) (.cons dv14 .nil), ⟨d12, d14, rfl, .inl ⟨odd1, rfl⟩⟩, fun v15 H15 s15 dv15 => ?_⟩
  refine wa_cons (EE.run (ee_tup (ea_cons ee_str (ea_1 (ee_var 9 rfl (do13.same (s14.trans s15)))))) fun v16 H16 s16 dv16 => wa_nil ?_)
  refine ⟨_, _, .cons (dv15.same s16) (.cons dv16 .nil), ⟨_, rfl, ok6, rfl⟩, fun v17 H17 s17 dv17 u17 M25 r17 hM25 => ?_⟩
  have e17 := dp_bool dv17
  subst e17
  obtain rfl : u17 = Value.bool true := r17
  exact hk M25 H17
end
end K10
set_option maxHeartbeats 4000000
/-! What the head says of the error classes; the hook that reads it. -/
namespace K10
open PySem PySem.Spec PyProof.Rows L2 SX
def oexB (K : PySem.W.Frag) (C : Addr) : Bool := match K.lookup C with
  | some ⟨.type "type", _, .cls cd, sl⟩ => (match cd.mro, sl.toList with
    | .ref C' :: bm, [_, _, _, _, some (.builtin m), _] => decide (C' = C) && (decide (m = "ValueError.__new__") && (!cd.hasDel && (cd.hasDict && PySem.HandSPX.refsVE bm)))
    | _, _ => false)
  | _ => false
theorem oexB_ok {K : PySem.W.Frag} {C : Addr} (q : oexB K C = true) : ∃ nm q N bs bm sn sub ab col dd k0 k1 k2 k3 k5, K.lookup C = some (excClassObj nm q C N bs bm true sn sub ab col dd k0 k1 k2 k3 k5 "ValueError.__new__") ∧ PySem.HandSPX.refsVE bm = true := by
  unfold oexB at q
  split at q
  · rename_i dd cd sl ho
    split at q
    · rename_i C' bm k0 k1 k2 k3 m k5 hm hs
      simp only [Bool.and_eq_true, decide_eq_true_eq, Bool.not_eq_true'] at q
      obtain ⟨rfl, rfl, hdel, hdict, hr⟩ := q
      obtain ⟨nm, bs, mro, ns, qn, hd, sn, sub, ab, col, del⟩ := cd
      dsimp only at hm hdel hdict
      subst hm hdel hdict
      have hsl : sl = #[k0, k1, k2, k3, some (.builtin "ValueError.__new__"), k5] := by
        obtain ⟨l⟩ := sl
        simp only at hs
        rw [hs]
      subst hsl
      exact ⟨nm, qn, ns, bs, bm, sn, sub, ab, col, dd, k0, k1, k2, k3, k5, ho, hr⟩
    · cases q
  · cases q
def ecB (K : PySem.W.Frag) (C : Addr) : Bool := He.eqO (PySem.W.findIn K (.ref C) "__getattribute__") (some (some (.builtin "BaseException.__getattribute__"))) && (He.eqO (PySem.W.findIn K (.ref C) "__getattr__") (some none) && (decide (PySem.W.subIn K (.ref C) (.type "BaseException") = some true) && (PySem.W.hasDictIn K C &&
  (He.eqO (PySem.W.findIn K (.ref C) "__class__") (some (some (.builtin "object.__class__"))) && (He.eqO (PySem.W.specialIn K (.builtin "object.__class__") "__get__") (some (some (.builtin "getset_descriptor.__get__"))) && (decide (PySem.W.takesIn K (.builtin "object.__class__") = some true) && decide (PySem.W.mroIn K C (.type "object") = some true)))))))
theorem ecB_ok {K : PySem.W.Frag} {C : Addr} (h : ecB K C = true) : ExcC K C ∧ XfC K C := by
  obtain ⟨h1, h⟩ := He.ba h
  obtain ⟨h2, h⟩ := He.ba h
  obtain ⟨h3, h⟩ := He.ba h
  obtain ⟨h4, h⟩ := He.ba h
  obtain ⟨h5, h⟩ := He.ba h
  obtain ⟨h6, h⟩ := He.ba h
  obtain ⟨h7, h8⟩ := He.ba h
  exact ⟨⟨He.eqO_ok h1, He.eqO_ok h2, of_decide_eq_true h3, h4, He.eqO_ok h5, He.eqO_ok h6, of_decide_eq_true h7, of_decide_eq_true h8⟩, ⟨He.eqO_ok h1, He.eqO_ok h2, of_decide_eq_true h3, h4⟩⟩
def exfB (K : PySem.W.Frag) (D C fI : Addr) (fld : Str) : Bool := oexB K C && (He.eqO (PySem.W.findIn K (.ref C) "__setattr__") (some (some (.builtin "object.__setattr__"))) && (decide (PySem.W.typeIn K (.ref C) = some (.type "type")) && (PySem.W.keepIn K (.ref C) && (He.eqO (PySem.W.findIn K (.ref C) "__init__") (some (some (.ref fI))) &&
  (decide (PySem.W.typeIn K (.ref fI) = some (.type "function")) && (He.eqO (PySem.W.findIn K (.ref C) fld) (some none) && (ecB K C && decide (PySem.W.exmOne K (.ref C) (.ref D) = some true))))))))
theorem exfB_ok {K : PySem.W.Frag} {D C fI : Addr} {fld : Str} (h : exfB K D C fI fld = true) : ExF K D C fI fld := by
  obtain ⟨h1, h⟩ := He.ba h
  obtain ⟨h2, h⟩ := He.ba h
  obtain ⟨h3, h⟩ := He.ba h
  obtain ⟨h4, h⟩ := He.ba h
  obtain ⟨h5, h⟩ := He.ba h
  obtain ⟨h6, h⟩ := He.ba h
  obtain ⟨h7, h⟩ := He.ba h
  obtain ⟨h8, h9⟩ := He.ba h
  obtain ⟨e1, e2⟩ := ecB_ok h8
  exact ⟨⟨oexB_ok h1, He.eqO_ok h2, e1.hs, of_decide_eq_true h3, h4⟩, He.eqO_ok h5, of_decide_eq_true h6, He.eqO_ok h7, e2, e1, of_decide_eq_true h9⟩
def shfB (K : PySem.W.Frag) (D : Addr) : Bool := PySem.W.readsIn K D (.type "type") && (He.eqO (PySem.W.specialIn K (.ref D) "__getattribute__") (some (some (.builtin "type.__getattribute__"))) && (match PySem.W.findCls K (.ref D) (.type "type") "__init__" with
  | some (.val (.builtin i)) => decide (i = "ValueError.__init__")
  | _ => false))
theorem shfB_ok {K : PySem.W.Frag} {D : Addr} (h : shfB K D = true) : ShF K D := by
  obtain ⟨h1, h⟩ := He.ba h
  obtain ⟨h2, h3⟩ := He.ba h
  refine ⟨h1, He.eqO_ok h2, ?_⟩
  split at h3
  · rename_i i e
    rw [e, of_decide_eq_true h3]
  · cases h3
def isfB (K : PySem.W.Frag) (C CS CD CW CO CT : Addr) (b1 b2 : Bool) : Bool := decide (PySem.W.kitOne K (.ref C) (.ref CS) = some b1) && (decide (PySem.W.kitOne K (.ref C) (.ref CD) = some b2) && (decide (PySem.W.kitOne K (.ref C) (.ref CW) = some false) && (decide (PySem.W.kitOne K (.ref C) (.ref CO) = some false) && (decide (PySem.W.kitOne K (.ref C) (.ref CT) = some false) && decide (PySem.W.kitOne K (.ref C) (.type "ValueError") = some true)))))
theorem isfB_ok {K : PySem.W.Frag} {C CS CD CW CO CT : Addr} {b1 b2 : Bool} (h : isfB K C CS CD CW CO CT b1 b2 = true) : IsF K C CS CD CW CO CT b1 b2 := by
  obtain ⟨h1, h⟩ := He.ba h
  obtain ⟨h2, h⟩ := He.ba h
  obtain ⟨h3, h⟩ := He.ba h
  obtain ⟨h4, h⟩ := He.ba h
  obtain ⟨h5, h6⟩ := He.ba h
  exact ⟨of_decide_eq_true h1, of_decide_eq_true h2, of_decide_eq_true h3, of_decide_eq_true h4, of_decide_eq_true h5, of_decide_eq_true h6⟩
/-- all that is asked of the classes -/
def ckB (K : PySem.W.Frag) : Bool := shfB K (He.ga K "ShowError") && (exfB K (He.ga K "ShowError") (He.ga K "BadSize") (He.ma K (He.ga K "BadSize") "__init__") "size" && (exfB K (He.ga K "ShowError") (He.ga K "BadDeed") (He.ma K (He.ga K "BadDeed") "__init__") "deed" &&
  (isfB K (He.ga K "BadSize") (He.ga K "BadSize") (He.ga K "BadDeed") (He.ga K "BadWorld") (He.ga K "BadWord") (He.ga K "TooMany") true false && isfB K (He.ga K "BadDeed") (He.ga K "BadSize") (He.ga K "BadDeed") (He.ga K "BadWorld") (He.ga K "BadWord") (He.ga K "TooMany") false true)))
/-- the part of the heap that is read -/
def partG (g : Addr → Option Obj) : PySem.W.Frag := He.frG g (cStatics :: He.asD g 5)
def seenG (fa : List He.Fa) (fn : List He.DefD) (K : PySem.W.Frag) : He.AlD × Bool := (He.obsD fa fn K, ckB K)
def hookK (fa : List He.Fa) (fn : List He.DefD) : PySem.W.Hook where
  α := He.AlD × Bool
  obs := fun st => seenG fa fn (partG st.heap.get?)
  val := fun _ => (He.valD fn, true)
  says := fun _ hh => ∃ K : PySem.W.Frag, K.In hh ∧ He.SaysD fa fn K ∧ ckB K = true
  of := fun _ _ q => ⟨_, He.frG_in, congrArg Prod.fst q, congrArg Prod.snd q⟩
  keeps := fun _ _ _ ⟨K, h1, h2⟩ k => ⟨K, PySem.W.Frag.In.keeps h1 k, h2⟩
theorem seenG_eq {fa : List He.Fa} {fn : List He.DefD} {g : Addr → Option Obj} {s : Shared} (h : ∀ a, g a = s.heap.get? a) : seenG fa fn (partG g) = (hookK fa fn).obs s := by rw [show g = s.heap.get? from funext h] <;> rfl
end K10
set_option maxHeartbeats 0
/-! The head: its facts, its run. -/
namespace K10
open PySem PySem.Spec PyProof.Rows L2
def d_BadSize_init : He.DefD := ⟨("BadSize", some "__init__"), "__init__", "BadSize.__init__", defArgs s_BadSize_init, defBody s_BadSize_init, defScope s_BadSize_init, [], []⟩
def d_BadWord_init : He.DefD := ⟨("BadWord", some "__init__"), "__init__", "BadWord.__init__", defArgs s_BadWord_init, defBody s_BadWord_init, defScope s_BadWord_init, [], []⟩
def d_BadWorld_init : He.DefD := ⟨("BadWorld", some "__init__"), "__init__", "BadWorld.__init__", defArgs s_BadWorld_init, defBody s_BadWorld_init, defScope s_BadWorld_init, [], []⟩
def d_BadDeed_init : He.DefD := ⟨("BadDeed", some "__init__"), "__init__", "BadDeed.__init__", defArgs s_BadDeed_init, defBody s_BadDeed_init, defScope s_BadDeed_init, [], []⟩
def d_TooMany_init : He.DefD := ⟨("TooMany", some "__init__"), "__init__", "TooMany.__init__", defArgs s_TooMany_init, defBody s_TooMany_init, defScope s_TooMany_init, [], []⟩
def d_is_integer : He.DefD := ⟨("is_integer", none), "is_integer", "is_integer", defArgs s_is_integer, defBody s_is_integer, defScope s_is_integer, [], []⟩
def d_deep : He.DefD := ⟨("deep", none), "deep", "deep", defArgs s_deep, defBody s_deep, defScope s_deep, [.int 40], []⟩
def d_is_letter : He.DefD := ⟨("is_letter", none), "is_letter", "is_letter", defArgs s_is_letter, defBody s_is_letter, defScope s_is_letter, [], []⟩
def d_is_part : He.DefD := ⟨("is_part", none), "is_part", "is_part", defArgs s_is_part, defBody s_is_part, defScope s_is_part, [], []⟩
def d_is_step : He.DefD := ⟨("is_step", none), "is_step", "is_step", defArgs s_is_step, defBody s_is_step, defScope s_is_step, [], []⟩
def d_is_deed : He.DefD := ⟨("is_deed", none), "is_deed", "is_deed", defArgs s_is_deed, defBody s_is_deed, defScope s_is_deed, [], []⟩
def d_first_state : He.DefD := ⟨("first_state", none), "first_state", "first_state", defArgs s_first_state, defBody s_first_state, defScope s_first_state, [], []⟩
def d_gathered : He.DefD := ⟨("gathered", none), "gathered", "gathered", defArgs s_gathered, defBody s_gathered, defScope s_gathered, [], []⟩
def d_exchanged : He.DefD := ⟨("exchanged", none), "exchanged", "exchanged", defArgs s_exchanged, defBody s_exchanged, defScope s_exchanged, [], []⟩
def d_handed : He.DefD := ⟨("handed", none), "handed", "handed", defArgs s_handed, defBody s_handed, defScope s_handed, [], []⟩
def d_state_behind : He.DefD := ⟨("state_behind", none), "state_behind", "state_behind", defArgs s_state_behind, defBody s_state_behind, defScope s_state_behind, [], []⟩
def d_surely_there : He.DefD := ⟨("surely_there", none), "surely_there", "surely_there", defArgs s_surely_there, defBody s_surely_there, defScope s_surely_there, [], []⟩
def d_needs_told : He.DefD := ⟨("needs_told", none), "needs_told", "needs_told", defArgs s_needs_told, defBody s_needs_told, defScope s_needs_told, [], []⟩
def d_sense_of : He.DefD := ⟨("sense_of", none), "sense_of", "sense_of", defArgs s_sense_of, defBody s_sense_of, defScope s_sense_of, [], []⟩
def d_sense : He.DefD := ⟨("sense", none), "sense", "sense", defArgs s_sense, defBody s_sense, defScope s_sense, [], []⟩
def d_L_draw : He.DefD := ⟨("_law_draw", none), "_law_draw", "_law_draw", defArgs s_L_draw, defBody s_L_draw, defScope s_L_draw, [], []⟩
def d_L_mix : He.DefD := ⟨("_law_mix", none), "_law_mix", "_law_mix", defArgs s_L_mix, defBody s_L_mix, defScope s_L_mix, [], []⟩
def d_L_pick : He.DefD := ⟨("_law_pick", none), "_law_pick", "_law_pick", defArgs s_L_pick, defBody s_L_pick, defScope s_L_pick, [], []⟩
def d_L_kinds : He.DefD := ⟨("_law_kinds", none), "_law_kinds", "_law_kinds", defArgs s_L_kinds, defBody s_L_kinds, defScope s_L_kinds, [], []⟩
def d_L_things : He.DefD := ⟨("_law_things", none), "_law_things", "_law_things", defArgs s_L_things, defBody s_L_things, defScope s_L_things, [], []⟩
def d_L_world : He.DefD := ⟨("_law_world", none), "_law_world", "_law_world", defArgs s_L_world, defBody s_L_world, defScope s_L_world, [], []⟩
def d_L_step : He.DefD := ⟨("_law_step", none), "_law_step", "_law_step", defArgs s_L_step, defBody s_L_step, defScope s_L_step, [], []⟩
def d_L_done : He.DefD := ⟨("_law_done", none), "_law_done", "_law_done", defArgs s_L_done, defBody s_L_done, defScope s_L_done, [], []⟩
def d_L_is_int : He.DefD := ⟨("_law_is_int", none), "_law_is_int", "_law_is_int", defArgs s_L_is_int, defBody s_L_is_int, defScope s_L_is_int, [], []⟩
def d_L_listed : He.DefD := ⟨("_law_listed", none), "_law_listed", "_law_listed", defArgs s_L_listed, defBody s_L_listed, defScope s_L_listed, [], []⟩
def d_L_exact : He.DefD := ⟨("_law_exact", none), "_law_exact", "_law_exact", defArgs s_L_exact, defBody s_L_exact, defScope s_L_exact, [], []⟩
def d_L_back_again : He.DefD := ⟨("_law_back_again", none), "_law_back_again", "_law_back_again", defArgs s_L_back_again, defBody s_L_back_again, defScope s_L_back_again, [], []⟩
def d_L_some_deed : He.DefD := ⟨("_law_some_deed", none), "_law_some_deed", "_law_some_deed", defArgs s_L_some_deed, defBody s_L_some_deed, defScope s_L_some_deed, [], []⟩
def d_L_put : He.DefD := ⟨("_law_put", none), "_law_put", "_law_put", defArgs s_L_put, defBody s_L_put, defScope s_L_put, [], []⟩
def d_L_alone : He.DefD := ⟨("_law_alone", none), "_law_alone", "_law_alone", defArgs s_L_alone, defBody s_L_alone, defScope s_L_alone, [], []⟩
def d_L_can_be_done : He.DefD := ⟨("_law_can_be_done", none), "_law_can_be_done", "_law_can_be_done", defArgs s_L_can_be_done, defBody s_L_can_be_done, defScope s_L_can_be_done, [], []⟩
def d_L_is_triple : He.DefD := ⟨("_law_is_triple", none), "_law_is_triple", "_law_is_triple", defArgs s_L_is_triple, defBody s_L_is_triple, defScope s_L_is_triple, [], []⟩
def d_L_is_letter : He.DefD := ⟨("_law_is_letter", none), "_law_is_letter", "_law_is_letter", defArgs s_L_is_letter, defBody s_L_is_letter, defScope s_L_is_letter, [], []⟩
def d_L_is_lot : He.DefD := ⟨("_law_is_lot", none), "_law_is_lot", "_law_is_lot", defArgs s_L_is_lot, defBody s_L_is_lot, defScope s_L_is_lot, [], []⟩
def d_L_has_form : He.DefD := ⟨("_law_has_form", none), "_law_has_form", "_law_has_form", defArgs s_L_has_form, defBody s_L_has_form, defScope s_L_has_form, [], []⟩
def d_L_is_met : He.DefD := ⟨("_law_is_met", none), "_law_is_met", "_law_is_met", defArgs s_L_is_met, defBody s_L_is_met, defScope s_L_is_met, [], []⟩
def d_L_led : He.DefD := ⟨("_law_led", none), "_law_led", "_law_led", defArgs s_L_led, defBody s_L_led, defScope s_L_led, [], []⟩
def d_L_met : He.DefD := ⟨("_law_met", none), "_law_met", "_law_met", defArgs s_L_met, defBody s_L_met, defScope s_L_met, [], []⟩
def d_L_joined : He.DefD := ⟨("_law_joined", none), "_law_joined", "_law_joined", defArgs s_L_joined, defBody s_L_joined, defScope s_L_joined, [], []⟩
def d_L_is_sense : He.DefD := ⟨("_law_is_sense", none), "_law_is_sense", "_law_is_sense", defArgs s_L_is_sense, defBody s_L_is_sense, defScope s_L_is_sense, [], []⟩
def d_L_told : He.DefD := ⟨("_law_told", none), "_law_told", "_law_told", defArgs s_L_told, defBody s_L_told, defScope s_L_told, [], []⟩
def d_L_is_right : He.DefD := ⟨("_law_is_right", none), "_law_is_right", "_law_is_right", defArgs s_L_is_right, defBody s_L_is_right, defScope s_L_is_right, [], []⟩
def d_L_no_deed : He.DefD := ⟨("_law_no_deed", none), "_law_no_deed", "_law_no_deed", defArgs s_L_no_deed, defBody s_L_no_deed, defScope s_L_no_deed, [], []⟩
def d_law : He.DefD := ⟨("law", none), "law", "law", defArgs s_law, defBody s_law, defScope s_law, [], []⟩
def fns : List He.DefD := [d_BadSize_init, d_BadWord_init, d_BadWorld_init, d_BadDeed_init, d_TooMany_init, d_is_integer, d_deep, d_is_letter, d_is_part, d_is_step, d_is_deed, d_first_state, d_gathered, d_exchanged, d_handed, d_state_behind, d_surely_there, d_needs_told, d_sense_of, d_sense, d_L_draw, d_L_mix, d_L_pick, d_L_kinds, d_L_things, d_L_world, d_L_step, d_L_done, d_L_is_int, d_L_listed, d_L_exact, d_L_back_again, d_L_some_deed, d_L_put, d_L_alone, d_L_can_be_done, d_L_is_triple, d_L_is_letter, d_L_is_lot, d_L_has_form, d_L_is_met, d_L_led, d_L_met, d_L_joined, d_L_is_sense, d_L_told, d_L_is_right, d_L_no_deed, d_law]
def fas : List He.Fa := [.glo "ShowError", .glo "BadSize", .glo "BadWord", .glo "BadWorld", .glo "BadDeed", .glo "TooMany", .glo "is_integer", .glo "deep", .glo "is_letter", .glo "is_part", .glo "is_step", .glo "is_deed", .glo "first_state", .glo "gathered", .glo "exchanged", .glo "handed", .glo "state_behind", .glo "surely_there", .glo "needs_told", .glo "sense_of", .glo "sense", .glo "_law_draw", .glo "_law_mix", .glo "_law_pick", .glo "_law_kinds", .glo "_law_things", .glo "_law_world", .glo "_law_step", .glo "_law_done", .glo "_law_is_int", .glo "_law_listed", .glo "_law_exact", .glo "_law_back_again", .glo "_law_some_deed", .glo "_law_put", .glo "_law_alone", .glo "_law_can_be_done", .glo "_law_is_triple", .glo "_law_is_letter", .glo "_law_is_lot", .glo "_law_has_form", .glo "_law_is_met", .glo "_law_led", .glo "_law_met", .glo "_law_joined", .glo "_law_is_sense", .glo "_law_told", .glo "_law_is_right", .glo "_law_no_deed", .glo "law", .free "ValueError", .free "abs", .free "all", .free "any", .free "bool", .free "enumerate", .free "int", .free "isinstance", .free "len", .free "list", .free "max", .free "min", .free "range", .free "sorted", .free "str", .free "sum", .free "tuple", .str "LETTERS" "abcdefghijklmnopqrstuvwxyz", .str "ALL" "*", .str "EXCHANGE" "~", .keep "ShowError", .keep "BadSize", .keep "BadWord", .keep "BadWorld", .keep "BadDeed", .keep "TooMany"]
abbrev R : PySem.W.OpenRow := PySem.W.OpenLaw.row PySem.Challenge.rw_shownempty_k10_whole_senses
abbrev hkK : PySem.W.Hook := hookK fas fns
def obK (st : PySem.W.SharedT) : He.AlD × Bool := seenG fas fns (partG (HandSHeadRun.getT st))
theorem obK_eq (st : PySem.W.SharedT) : obK st = hkK.obs st.abs := seenG_eq (HandSHeadRun.getT_eq st)
def loose : List Str := (["ShowError", "BadSize", "BadWord", "BadWorld", "BadDeed", "TooMany", "LETTERS", "is_integer", "deep", "is_letter", "is_part", "ALL", "EXCHANGE", "is_step", "is_deed", "first_state", "gathered", "exchanged", "handed", "state_behind", "surely_there", "needs_told", "sense_of", "sense", "_law_draw", "_law_mix", "_law_pick", "_law_kinds", "_law_things", "_law_world"] : List Str) ++ (["_law_step", "_law_done", "_law_is_int", "_law_listed", "_law_exact", "_law_back_again", "_law_some_deed", "_law_put", "_law_alone", "_law_can_be_done", "_law_is_triple", "_law_is_letter", "_law_is_lot", "_law_has_form", "_law_is_met", "_law_led", "_law_met", "_law_joined", "_law_is_sense", "_law_told", "_law_is_right", "_law_no_deed"] : List Str)
theorem runK (w : World) : HandSHeadRun.RunEq R (PySem.W.view R.prog [57]) hkK obK 3000 loose w := fun os => by kernel_rfl
end K10
set_option maxHeartbeats 4000000
/-! The law, joined. -/
namespace K10
open PySem PySem.Spec PyProof.Rows L2 SX
open C8 (Cal pe_c)
section
variable {P : Program} {w : World} {K : PySem.W.Frag} {mg : Str → Option Value} {base h : Heap}
theorem ev_of (X : K.In h) (G : h.Ns mainGlobals mg) (c : He.SaysD fas fns K) : Ev mg :=
  have fr : ∀ (i : Nat) (x : Str), fas[i]? = some (.free x) → mg x = none := fun i x e => He.free_ok X G (c.fact i e)
  ⟨fr 57 _ rfl, fr 56 _ rfl, fr 54 _ rfl, fr 64 _ rfl, fr 59 _ rfl, fr 66 _ rfl, fr 58 _ rfl, fr 52 _ rfl, fr 53 _ rfl, fr 62 _ rfl, fr 63 _ rfl, fr 60 _ rfl, fr 61 _ rfl, fr 65 _ rfl, fr 51 _ rfl, fr 55 _ rfl, fr 50 _ rfl,
    He.str_ok X G (c.fact 67 (f := .str "LETTERS" "abcdefghijklmnopqrstuvwxyz") rfl), He.str_ok X G (c.fact 68 (f := .str "ALL" "*") rfl), He.str_ok X G (c.fact 69 (f := .str "EXCHANGE" "~") rfl)⟩
theorem gd_of (X : K.In h) (G : h.Ns mainGlobals mg) (c : He.SaysD fas fns K) {x : Str} {st : Stmt} (i j : Nat) (e : fns[i]? = some ⟨(x, none), x, x, defArgs st, defBody st, defScope st, [], []⟩) (e2 : fas[j]? = some (.glo x)) : Gd K mg x st := by
  obtain ⟨fd, F⟩ := c.def_ i e
  exact ⟨_, fd, F, He.glo_ok X G (c.fact j e2)⟩
theorem gdX_of (X : K.In h) (G : h.Ns mainGlobals mg) (c : He.SaysD fas fns K) (ck : ckB K = true) : ClF P w K mg base (He.ga K "ShowError") (He.ga K "BadSize") (He.ga K "BadDeed") (He.ga K "BadWorld") (He.ga K "BadWord") (He.ga K "TooMany") := by
  obtain ⟨h1, ck⟩ := He.ba ck
  obtain ⟨h2, ck⟩ := He.ba ck
  obtain ⟨h3, ck⟩ := He.ba ck
  obtain ⟨h4, h5⟩ := He.ba ck
  have S := shfB_ok h1
  have E2 := exfB_ok h2
  have E3 := exfB_ok h3
  have m0 := He.glo_ok X G (c.fact 0 (f := .glo "ShowError") rfl)
  obtain ⟨fd2, F2⟩ := c.def_ 0 (d := d_BadSize_init) rfl
  obtain ⟨fd3, F3⟩ := c.def_ 3 (d := d_BadDeed_init) rfl
  exact ⟨m0, ⟨_, fd2, _, E2, fn_sizeInit F2 S m0 E2, F2.bindsN (fun _ _ _ _ _ _ us hl => match us, hl with | [_, _], _ => rfl), He.glo_ok X G (c.fact 1 (f := .glo "BadSize") rfl)⟩, ⟨_, fd3, _, E3, fn_deedInit F3 S m0 E3, F3.bindsN (fun _ _ _ _ _ _ us hl => match us, hl with | [_, _], _ => rfl), He.glo_ok X G (c.fact 4 (f := .glo "BadDeed") rfl)⟩,
    He.glo_ok X G (c.fact 3 (f := .glo "BadWorld") rfl), He.glo_ok X G (c.fact 2 (f := .glo "BadWord") rfl), He.glo_ok X G (c.fact 5 (f := .glo "TooMany") rfl), isfB_ok h4, isfB_ok h5⟩
def spLaw (K : PySem.W.Frag) : Sp := fun vs H Q _ => ∃ (a : Addr) (ns : List Int), vs = [.ref a] ∧ Dp K H (.ref a) (.list (ns.map .int)) ∧ ns.length ≤ 1000 ∧ ∀ H', Q (.bl true) H'
theorem law_ok (P : Program) (w : World) (X : K.In h) (G : h.Ns mainGlobals mg) (c : He.SaysD fas fns K) (ck : ckB K = true) : ∃ fd, (∀ (s : Shared) (v : Value), BindsTo s fd ⟨[v], []⟩ [("_law_script", v)]) ∧ ∀ base : Heap, FnOk P w K mg base CX0 17 (He.ga K "law") fd p_law (spLaw K) := by
  obtain ⟨fdL, FL⟩ : ∃ fd, FunD K "law" "law" (defArgs s_law) (defBody s_law) (defScope s_law) [] [] (He.ga K "law") fd := c.def_ 48 (d := d_law) rfl
  have bL := FunD.bindsA (ps := ["_law_script"]) FL fun _ _ _ _ _ _ us hl => match us, hl with | [_], _ => rfl
  refine ⟨fdL, fun s v => bL s [v] rfl, fun base => ?_⟩
  have V := ev_of X G c
  have Z := gdX_of (P := P) (w := w) (base := base) X G c ck
  have gd := fun {x : Str} {st : Stmt} (i j : Nat) e e2 => gd_of (x := x) (st := st) X G c i j e e2
  have GD : GdD K mg := by
    obtain ⟨fd, F⟩ := c.def_ 6 (d := d_deep) rfl
    exact ⟨_, fd, F, He.glo_ok X G (c.fact 7 (f := .glo "deep") rfl)⟩
  -- the program's
  have Ci : Cal P w K mg base 1 "is_integer" (spF K P_is_integer) [] := c_is_integer V (gd 5 6 rfl rfl)
  have Cle : Cal P w K mg base 1 "is_letter" (spF K P_is_letter) [] := c_is_letter V (gd 7 8 rfl rfl)
  have Cpa := c_is_part (P := P) (w := w) (base := base) V (gd 8 9 rfl rfl)
  have Cst := c_is_step (P := P) (w := w) (base := base) V (gd 9 10 rfl rfl) Cle Ci
  have Cdp : Cal P w K mg base 6 "deep" (spF K (P_deep 4)) [.int 40] := by
    obtain ⟨f, fd, F, hg⟩ := GD.ex
    obtain ⟨ds, h1, h2⟩ := deep_b1 F
    exact ⟨f, fd, p_deep, ds, fn_deep V F hg 4, hg, F.kp, h2, h1⟩
  have Cde := c_is_deed (P := P) (w := w) (base := base) V (gd 10 11 rfl rfl) Cdp Cst
  have Cfi := c_first (P := P) (w := w) (base := base) V (gd 11 12 rfl rfl)
  have A : ∀ {x : Str} {st : Stmt} (i : Nat), fns[i]? = some ⟨(x, none), x, x, defArgs st, defBody st, defScope st, [], []⟩ → fas[i + 1]? = some (.glo x) → Gd K mg x st := fun i e e2 => gd i (i + 1) e e2
  have Csu : Cal P w K mg base 12 "surely_there" (spF K (P_sur 10)) [] := by
    obtain ⟨f, fd, F, hg⟩ := (A (x := "surely_there") (st := s_surely_there) 16 rfl rfl).ex
    exact ⟨f, fd, _, [], fn_sur V F hg Cpa 10, hg, F.kp, F.bindsN (fun _ _ _ _ _ _ us hl => match us, hl with | [_, _], _ => rfl), .nil⟩
  have Cnt := c_told (P := P) (w := w) (base := base) V (A 17 rfl rfl) Csu
  have Cse : ∀ g : Bool, CalT P w K mg base 15 "sense" (spSense K g) [] := fun g => c_sense V (A 19 rfl rfl) GD g Ci Cde Cfi (c_behind V (A 15 rfl rfl) g (c_gathered V (A 12 rfl rfl) g) (c_exchanged V (A 13 rfl rfl) g) (c_handed V (A 14 rfl rfl) g)) (c_sense_of V (A 18 rfl rfl) g Cnt)
  obtain ⟨fT, fdT, FT, hT⟩ := (A (x := "_law_told") (st := s_L_told) 45 rfl rfl).ex
  have bT : Binds K fdT p_L_told [] := FT.bindsN (fun _ _ _ _ _ _ us hl => match us, hl with | [_, _], _ => rfl)
  have Cto : ∀ g : Bool, CalT P w K mg base 16 "_law_told" (spTold K g) [] := fun g => ⟨fT, fdT, _, [], fnT_told FT g (Cse g), hT, FT.kp, bT, .nil⟩
  obtain ⟨fS, fdS, FS, hS⟩ := (A (x := "sense") (st := s_sense) 19 rfl rfl).ex
  have Cx : Cal P w K mg base 16 "_law_told" (spF K P_toldX) [] := ⟨fT, fdT, _, [], fn_toldX V Z FT (fn_senseX V FS Z.size Z.deed Ci Cde) (FS.bindsN (fun _ _ _ _ _ _ us hl => match us, hl with | [_, _], _ => rfl)) hS FS.kp, hT, FT.kp, bT, .nil⟩
  -- the law's
  have Cii := c_is_int (P := P) (w := w) (base := base) V (A 28 rfl rfl)
  have Cpu := c_put (P := P) (w := w) (base := base) V (A 33 rfl rfl)
  have Cjo := c_joined (P := P) (w := w) (base := base) V (A 43 rfl rfl)
  have Cme := c_met (P := P) (w := w) (base := base) V (A 42 rfl rfl) Cpu
  have Cim := c_is_met (P := P) (w := w) (base := base) V (A 40 rfl rfl)
  have Cdo := c_done (P := P) (w := w) (base := base) V (A 27 rfl rfl)
  have Cal' := c_alone (P := P) (w := w) (base := base) V (A 34 rfl rfl) Cpu
  have Cca := c_can (P := P) (w := w) (base := base) V (A 35 rfl rfl) Cpu Cdo
  have Cfo := c_form (P := P) (w := w) (base := base) V (A 39 rfl rfl) Cii (c_triple V (A 36 rfl rfl) Cii) (c_lot V (A 38 rfl rfl) Cii) (c_Lletter V (A 37 rfl rfl))
  have Cpi := c_pick (P := P) (w := w) (base := base) V (A 22 rfl rfl) (c_mix V (A 21 rfl rfl))
  have Cki := c_kinds (P := P) (w := w) (base := base) V (A 23 rfl rfl) Cpi
  have Cth := c_things (P := P) (w := w) (base := base) V (A 24 rfl rfl) Cpi
  have Cwo := c_world (P := P) (w := w) (base := base) V (A 25 rfl rfl) Cpi
  have Cdr := c_draw (P := P) (w := w) (base := base) V (A 20 rfl rfl)
  have Csp := c_step (P := P) (w := w) (base := base) V (A 26 rfl rfl) Cpi
  have Cso := c_some (P := P) (w := w) (base := base) V (A 32 rfl rfl) Cpi Csp (c_back V (A 31 rfl rfl) Cpi)
  have Cled := c_led (P := P) (w := w) (base := base) V (A 41 rfl rfl) Cim
  have Cis := c_is_sense (P := P) (w := w) (base := base) V (A 44 rfl rfl) Cled Cim Cal' Cme Cjo Cdo
  have Cri := c_is_right (P := P) (w := w) (base := base) V (A 46 rfl rfl) Cled Cis Cfo Cca Cdo Cwo Cth
  have Cno := c_no (P := P) (w := w) (base := base) V (A 47 rfl rfl) Cpi Csp
  have Cli : Cal P w K mg base 3 "_law_listed" (spL K 2) [] := by
    obtain ⟨f, fd, F, hg⟩ := (A (x := "_law_listed") (st := s_L_listed) 29 rfl rfl).ex
    exact ⟨f, fd, _, [], fn_listed V F hg 2, hg, F.kp, F.bindsN (fun _ _ _ _ _ _ us hl => match us, hl with | [_], _ => rfl), .nil⟩
  have Cex : Cal P w K mg base 7 "_law_exact" (spF K (P_exact 5)) [] := by
    obtain ⟨f, fd, F, hg⟩ := (A (x := "_law_exact") (st := s_L_exact) 30 rfl rfl).ex
    exact ⟨f, fd, _, [], fn_exact V F hg Cii 5, hg, F.kp, F.bindsN (fun _ _ _ _ _ _ us hl => match us, hl with | [_, _], _ => rfl), .nil⟩
  have FF : FnT P w K mg base 17 (He.ga K "law") fdL p_law (spLawT K) := fn_law V FL Cdr Cpi Cki Cso (Cto true) (Cto false) Cx Cri Cli Cex Cno
  refine ⟨fun vs H Q E ⟨_, _, q, _⟩ => by rw [q]; rfl, fun A outer s H args us vs Q E hr e0 hb hv ⟨a, ns, q, da, hz, k⟩ => ?_⟩
  refine codeAny_mono (FF.run A outer s H args us vs (fun v _ _ H' => Q v H') hr e0 hb hv ⟨a, ns, q, da, hz, fun _ H' => k H'⟩) fun r s' hq => ?_
  cases r with
  | error e => exact hq.elim
  | ok fl =>
    cases fl with
    | ret u =>
      obtain ⟨v, H', os, bare, un, hok, rv, _, q⟩ := hq
      exact ⟨v, H', os, bare, un, hok, rv, q⟩
    | next => exact hq.elim
    | brk => exact hq.elim
    | cont => exact hq.elim
end
end K10
set_option maxHeartbeats 4000000
/-! The law, joined: the statement. -/
namespace K10
open PySem PySem.Spec PyProof.Rows L2
abbrev RW : PySem.W.OpenLaw := PySem.Challenge.rw_shownempty_k10_whole_senses
theorem name_law : (HandSHeadRun.topDef R.prog 57).name = ("law" : PySem.Str) := by kernel_rfl
theorem walk_law : PySem.W.WalkO (PySem.W.view R.prog [57]) loose (PySem.W.XL (PySem.W.view R.prog [57]) []) hkK.says R.toRowW (HandSHeadRun.topDef R.prog 57) [] (fun f vs => PySem.call f vs) := by
  refine L2.walk_ofE (l := RW) (n := 63) (k := 17) (x := "_law_script") (CX := C8.CX0) rfl (by decide) (by kernel_rfl) ⟨rfl, by decide, by decide⟩ ?F (fun _ _ _ _ z => z)
  intro w mg fa h Y G hmg0
  obtain ⟨K, KX, c, ck⟩ := Y
  have hmg : mg ("law" : PySem.Str) = some (.ref fa) := by
    rw [← name_law]
    exact hmg0
  have e := hmg.symm.trans (He.glo_ok KX G (c.fact 49 (f := .glo "law") rfl))
  cases e
  obtain ⟨fd, b, ok⟩ := law_ok RW.prog w KX G c ck
  exact ⟨K, fd, spLaw K, KX, b, fun H a ns hl _ hS => ⟨a, ns, rfl, .lst hS (dpAll_ofInts ns), by omega, fun _ => rfl⟩, fun base _ _ => ok base⟩
end K10
set_option maxHeartbeats 4000000
open PySem PySem.W PySem.Calls PyProof.Rows
theorem PySem.Challenge.cw_shownempty_k10_whole_senses_holds : PySem.Challenge.rw_shownempty_k10_whole_senses.Holds := by
  w_on; o_law
  refine HandSHeadRun.head_any (r := OpenLaw.row PySem.Challenge.rw_shownempty_k10_whole_senses) (q := view (OpenLaw.row PySem.Challenge.rw_shownempty_k10_whole_senses).prog [57]) (H := K10.hkK) (ob := K10.obK) (M := 3000) (loose := K10.loose) (d := HandSHeadRun.topDef (OpenLaw.row PySem.Challenge.rw_shownempty_k10_whole_senses).prog 57) (kwd := []) K10.obK_eq
    (by kernel_rfl) (fun s => by kernel_rfl) K10.runK (by kernel_rfl) (by kernel_rfl) (by kernel_rfl) (by rfl) (by first | assumption | decide +kernel) (by decide +kernel) ⟨rfl, rfl, rfl, rfl, rfl, by decide +kernel⟩ ?hw K10.walk_law
  case hw => w_witness2
