import PyProof.Rows.All
import Wide.All
import OpenK.AllK
import Wide.FinOn
import KE.KStateDown
import Lean
import HandS.ForMost
import HandS.ForExc
import HandS.TryMany
import HandS.CallSlots
import HandS.ExcInit
import HandS.ExcField
import HandS.Defaults
import HandS.IsInst
import HandS.Property
import HandS.ClsMeth
import HandS.Star
import HandS.Flow
import HandS.Style
import HandS.Wide
import HandS.WideBits
import HandS.TupLe
import HandS.TupAny
import HandS.GenYield
import HandS.GenCall
import HandS.GenList
import HandS.Lambda
import HandS.Conv
import HandS.Deep
import HandS.Evl
import HandS.HeadNt
import HandS.HeadHook4
import HandS.HeadWalk
import HandS.Head2
import HandS.EndTab
import KE.GoesMore
import PyProof.InstEq
import HandS.NamedTupSort
import PySem.Challenge.RW_drawstate_k64_whole_recordings
set_option Elab.async false
set_option linter.all false
set_option maxRecDepth 100000
set_option maxHeartbeats 2000000
namespace Kx
open PySem PySem.Spec PyProof.Rows L2
open He (ga ma)
/-! ### the text -/
def top (i : Nat) : Stmt := PySem.Challenge.pw_drawstate_k64_whole_recordings.main.body.getD i (.Pass ⟨0, 0, 0, 0⟩)
def mkD (at_ : PySem.W.Frag → Addr) (name qual : Str) (st : Stmt) (dfl : List He.Dv := []) : He5.DefA := { at_ := at_, name := name, qual := qual, params := defArgs st, body := defBody st, scope := defScope st, dfl := dfl }
/-! ### facts as Bools -/
open PySem.W in
def fMeth (c m : Str) : Frag → Bool := fun K => (He.Fa.meth c m).ok K
open PySem.W in
def fMkr (c : Str) : Frag → Bool := fun K => (He.Fa.mkr c).ok K
open PySem.W in
def fProp (c f : Str) : Frag → Bool := fun K => He.eqO (findIn K (.ref (ga K c)) f) (some (some (.ref (ma K (ga K c) f)))) && (He.eqO (specialIn K (.ref (ma K (ga K c) f)) "__get__") (some (some (.builtin "property.__get__"))) &&
  (decide (takesIn K (.ref (ma K (ga K c) f)) = some true) && (match recIn K (ma K (ga K c) f) "property" with
    | some (.ref _ :: _) => true
    | _ => false)))
open PySem.W in
def fCon (c f v : Str) : Frag → Bool := fun K => He.conB K c f (.str v)
open PySem.W in
def fRead (c : Str) : Frag → Bool := fun K => readsIn K (ga K c) (.type "type") && He.eqO (specialIn K (.ref (ga K c)) "__getattribute__") (some (some (.builtin "type.__getattribute__")))
open PySem.W in
def fVal (c f v : Str) : Frag → Bool := fun K => match findCls K (.ref (ga K c)) (.type "type") f with
  | some (.val u) => He.relB (.str v) u
  | _ => false
open PySem.W in
def fCmet (c m : Str) : Frag → Bool := fun K => He5.wrapB K (ga K c) "classmethod" "classmethod.__get__" m && fnIn K (He5.wf K (ga K c) "classmethod" m)
open PySem.W in
def fKit (c d : Str) (b : Bool) : Frag → Bool := fun K => decide (kitOne K (.ref (ga K c)) (.ref (ga K d)) = some b)
open PySem.W in
def fKitT (t : String) (d : Str) (b : Bool) : Frag → Bool := fun K => decide (kitOne K (.type t) (.ref (ga K d)) = some b)
open PySem.W in
def fIns (c : Str) : Frag → Bool := fun K => He.eqO (findIn K (.ref (ga K c)) "__class__") (some (some (.builtin "object.__class__"))) && (He.eqO (specialIn K (.builtin "object.__class__") "__get__") (some (some (.builtin "getset_descriptor.__get__"))) &&
  (decide (takesIn K (.builtin "object.__class__") = some true) && decide (mroIn K (ga K c) (.type "object") = some true)))
open PySem.W in
def fEqs (c : Str) : Frag → Bool := fun K => He.eqO (findIn K (.ref (ga K c)) "__eq__") (some (some (.builtin "object.__eq__"))) && He.eqO (findIn K (.ref (ga K c)) "__ne__") (some (some (.builtin "object.__ne__")))
/-! an own exception class: its row, over the built-in chain tl -/
open PySem.W in
def fExc (c : Str) (newId : String) (tl : List Value) : Frag → Bool := fun K => (match K.lookup (ga K c) with
    | some ⟨.type "type", _, .cls cd, sl⟩ => (match cd.mro, sl.toList with
      | .ref C' :: bm, [_, _, _, _, some (.builtin n), _] => C' == ga K c && n == newId && !cd.hasDel && cd.hasDict && (bm.dropWhile (fun v => match v with | .ref _ => true | _ => false) == tl)
      | _, _ => false)
    | _ => false) && (He.eqO (findIn K (.ref (ga K c)) "__setattr__") (some (some (.builtin "object.__setattr__"))) && (decide (subIn K (.ref (ga K c)) (.type "BaseException") = some true) && (decide (typeIn K (.ref (ga K c)) = some (.type "type")) &&
    (keepIn K (.ref (ga K c)) && (He.eqO (findIn K (.ref (ga K c)) "__init__") (some (some (.ref (ma K (ga K c) "__init__")))) && (decide (typeIn K (.ref (ma K (ga K c) "__init__")) = some (.type "function")) && xfB K (ga K c)))))))
open PySem.W in
def fExm (c d : Str) (b : Bool) : Frag → Bool := fun K => decide (exmOne K (.ref (ga K c)) (.ref (ga K d)) = some b)
/-! C.__init__ of an own exception class C is the built-in one -/
open PySem.W in
def fBI (c : Str) (id : String) : Frag → Bool := fun K => match findCls K (.ref (ga K c)) (.type "type") "__init__" with
  | some (.val (.builtin i)) => i == id
  | _ => false
def tlVE : List Value := [.type "ValueError", .type "Exception", .type "BaseException", .type "object"]
def tlLE : List Value := [.type "LookupError", .type "Exception", .type "BaseException", .type "object"]
def s_BadSteps_init : Stmt := inClass (top 5) 0
def d_BadSteps_init : He5.DefA := mkD (fun K => He.ma K (He.ga K "BadSteps") "__init__") "__init__" "BadSteps.__init__" s_BadSteps_init
def s_Exhausted_init : Stmt := inClass (top 10) 0
def d_Exhausted_init : He5.DefA := mkD (fun K => He.ma K (He.ga K "Exhausted") "__init__") "__init__" "Exhausted.__init__" s_Exhausted_init
def s_is_integer : Stmt := top 17
def d_is_integer : He5.DefA := mkD (fun K => He.ga K "is_integer") "is_integer" "is_integer" s_is_integer
def s_is_word : Stmt := top 18
def d_is_word : He5.DefA := mkD (fun K => He.ga K "is_word") "is_word" "is_word" s_is_word
def s_need_word : Stmt := top 19
def d_need_word : He5.DefA := mkD (fun K => He.ga K "need_word") "need_word" "need_word" s_need_word
def s_own_tempered : Stmt := top 20
def d_own_tempered : He5.DefA := mkD (fun K => He.ga K "own_tempered") "own_tempered" "own_tempered" s_own_tempered
def s_tempered : Stmt := top 21
def d_tempered : He5.DefA := mkD (fun K => He.ga K "tempered") "tempered" "tempered" s_tempered
def s_need_steps : Stmt := top 26
def d_need_steps : He5.DefA := mkD (fun K => He.ga K "need_steps") "need_steps" "need_steps" s_need_steps
def s_need_many : Stmt := top 27
def d_need_many : He5.DefA := mkD (fun K => He.ga K "need_many") "need_many" "need_many" s_need_many
def s_need_source : Stmt := top 29
def d_need_source : He5.DefA := mkD (fun K => He.ga K "need_source") "need_source" "need_source" s_need_source
def s_is_script : Stmt := top 30
def d_is_script : He5.DefA := mkD (fun K => He.ga K "is_script") "is_script" "is_script" s_is_script
def s_need_script_state : Stmt := top 31
def d_need_script_state : He5.DefA := mkD (fun K => He.ga K "need_script_state") "need_script_state" "need_script_state" s_need_script_state
def s_script_after : Stmt := top 32
def d_script_after : He5.DefA := mkD (fun K => He.ga K "script_after") "script_after" "script_after" s_script_after
def s_script_before : Stmt := top 33
def d_script_before : He5.DefA := mkD (fun K => He.ga K "script_before") "script_before" "script_before" s_script_before
def s_Scripted_init : Stmt := inClass (top 34) 1
def d_Scripted_init : He5.DefA := mkD (fun K => He.ma K (He.ga K "Scripted") "__init__") "__init__" "Scripted.__init__" s_Scripted_init [.int 0]
def s_Scripted_next_word : Stmt := inClass (top 34) 2
def d_Scripted_next_word : He5.DefA := mkD (fun K => He.ma K (He.ga K "Scripted") "next_word") "next_word" "Scripted.next_word" s_Scripted_next_word
def s_Scripted_state : Stmt := inClass (top 34) 4
def d_Scripted_state : He5.DefA := mkD (fun K => He5.wf K (He.ga K "Scripted") "property" "state") "state" "Scripted.state" s_Scripted_state
def s_Scripted_left : Stmt := inClass (top 34) 6
def d_Scripted_left : He5.DefA := mkD (fun K => He5.wf K (He.ga K "Scripted") "property" "left") "left" "Scripted.left" s_Scripted_left
def s_Scripted_set_state : Stmt := inClass (top 34) 7
def d_Scripted_set_state : He5.DefA := mkD (fun K => He.ma K (He.ga K "Scripted") "set_state") "set_state" "Scripted.set_state" s_Scripted_set_state
def s_Scripted_jump : Stmt := inClass (top 34) 8
def d_Scripted_jump : He5.DefA := mkD (fun K => He.ma K (He.ga K "Scripted") "jump") "jump" "Scripted.jump" s_Scripted_jump
def s_Scripted_back : Stmt := inClass (top 34) 9
def d_Scripted_back : He5.DefA := mkD (fun K => He.ma K (He.ga K "Scripted") "back") "back" "Scripted.back" s_Scripted_back
def s_Scripted_copy : Stmt := inClass (top 34) 14
def d_Scripted_copy : He5.DefA := mkD (fun K => He.ma K (He.ga K "Scripted") "copy") "copy" "Scripted.copy" s_Scripted_copy
def s_Scripted_same_state : Stmt := inClass (top 34) 15
def d_Scripted_same_state : He5.DefA := mkD (fun K => He.ma K (He.ga K "Scripted") "same_state") "same_state" "Scripted.same_state" s_Scripted_same_state
def s_Scripted_at_state : Stmt := inClass (top 34) 16
def d_Scripted_at_state : He5.DefA := mkD (fun K => He5.wf K (He.ga K "Scripted") "classmethod" "at_state") "at_state" "Scripted.at_state" s_Scripted_at_state
def s_s7_is_item : Stmt := top 37
def d_s7_is_item : He5.DefA := mkD (fun K => He.ga K "s7_is_item") "s7_is_item" "s7_is_item" s_s7_is_item
def s_is_tape : Stmt := top 38
def d_is_tape : He5.DefA := mkD (fun K => He.ga K "is_tape") "is_tape" "is_tape" s_is_tape
def s_need_tape : Stmt := top 39
def d_need_tape : He5.DefA := mkD (fun K => He.ga K "need_tape") "need_tape" "need_tape" s_need_tape
def s_Recording_init : Stmt := inClass (top 40) 1
def d_Recording_init : He5.DefA := mkD (fun K => He.ma K (He.ga K "Recording") "__init__") "__init__" "Recording.__init__" s_Recording_init
def s_Recording_tape : Stmt := inClass (top 40) 4
def d_Recording_tape : He5.DefA := mkD (fun K => He5.wf K (He.ga K "Recording") "property" "tape") "tape" "Recording.tape" s_Recording_tape
def s_Recording_inner : Stmt := inClass (top 40) 5
def d_Recording_inner : He5.DefA := mkD (fun K => He5.wf K (He.ga K "Recording") "property" "inner") "inner" "Recording.inner" s_Recording_inner
def s_Recording_state : Stmt := inClass (top 40) 6
def d_Recording_state : He5.DefA := mkD (fun K => He5.wf K (He.ga K "Recording") "property" "state") "state" "Recording.state" s_Recording_state
def s_Recording_set_state : Stmt := inClass (top 40) 8
def d_Recording_set_state : He5.DefA := mkD (fun K => He.ma K (He.ga K "Recording") "set_state") "set_state" "Recording.set_state" s_Recording_set_state
def s_Recording_s7_need_room : Stmt := inClass (top 40) 9
def d_Recording_s7_need_room : He5.DefA := mkD (fun K => He.ma K (He.ga K "Recording") "s7_need_room") "s7_need_room" "Recording.s7_need_room" s_Recording_s7_need_room
def s_Recording_next_word : Stmt := inClass (top 40) 10
def d_Recording_next_word : He5.DefA := mkD (fun K => He.ma K (He.ga K "Recording") "next_word") "next_word" "Recording.next_word" s_Recording_next_word
def s_Recording_words : Stmt := inClass (top 40) 11
def d_Recording_words : He5.DefA := mkD (fun K => He.ma K (He.ga K "Recording") "words") "words" "Recording.words" s_Recording_words
def s_Recording_jump : Stmt := inClass (top 40) 12
def d_Recording_jump : He5.DefA := mkD (fun K => He.ma K (He.ga K "Recording") "jump") "jump" "Recording.jump" s_Recording_jump
def s_Recording_back : Stmt := inClass (top 40) 13
def d_Recording_back : He5.DefA := mkD (fun K => He.ma K (He.ga K "Recording") "back") "back" "Recording.back" s_Recording_back
def s_Recording_copy : Stmt := inClass (top 40) 14
def d_Recording_copy : He5.DefA := mkD (fun K => He.ma K (He.ga K "Recording") "copy") "copy" "Recording.copy" s_Recording_copy
def s_Recording_same_state : Stmt := inClass (top 40) 15
def d_Recording_same_state : He5.DefA := mkD (fun K => He.ma K (He.ga K "Recording") "same_state") "same_state" "Recording.same_state" s_Recording_same_state
def s_Recording_empty : Stmt := inClass (top 40) 16
def d_Recording_empty : He5.DefA := mkD (fun K => He.ma K (He.ga K "Recording") "empty") "empty" "Recording.empty" s_Recording_empty
def s_words_on : Stmt := top 41
def d_words_on : He5.DefA := mkD (fun K => He.ga K "words_on") "words_on" "words_on" s_words_on
def s_s7_fits : Stmt := top 42
def d_s7_fits : He5.DefA := mkD (fun K => He.ga K "s7_fits") "s7_fits" "s7_fits" s_s7_fits
def s_first_difference : Stmt := top 43
def d_first_difference : He5.DefA := mkD (fun K => He.ga K "first_difference") "first_difference" "first_difference" s_first_difference
def s_is_key : Stmt := top 47
def d_is_key : He5.DefA := mkD (fun K => He.ga K "is_key") "is_key" "is_key" s_is_key
def s_s4_change : Stmt := top 48
def d_s4_change : He5.DefA := mkD (fun K => He.ga K "s4_change") "s4_change" "s4_change" s_s4_change
def s_s4_block : Stmt := top 49
def d_s4_block : He5.DefA := mkD (fun K => He.ga K "s4_block") "s4_block" "s4_block" s_s4_block
def s_s4_need_state : Stmt := top 50
def d_s4_need_state : He5.DefA := mkD (fun K => He.ga K "s4_need_state") "s4_need_state" "s4_need_state" s_s4_need_state
def s_s4_state_at : Stmt := top 51
def d_s4_state_at : He5.DefA := mkD (fun K => He.ga K "s4_state_at") "s4_state_at" "s4_state_at" s_s4_state_at
def s_Counter_init : Stmt := inClass (top 52) 1
def d_Counter_init : He5.DefA := mkD (fun K => He.ma K (He.ga K "Counter") "__init__") "__init__" "Counter.__init__" s_Counter_init
def s_Counter_next_word : Stmt := inClass (top 52) 2
def d_Counter_next_word : He5.DefA := mkD (fun K => He.ma K (He.ga K "Counter") "next_word") "next_word" "Counter.next_word" s_Counter_next_word
def s_Counter_state : Stmt := inClass (top 52) 4
def d_Counter_state : He5.DefA := mkD (fun K => He5.wf K (He.ga K "Counter") "property" "state") "state" "Counter.state" s_Counter_state
def s_Counter_set_state : Stmt := inClass (top 52) 8
def d_Counter_set_state : He5.DefA := mkD (fun K => He.ma K (He.ga K "Counter") "set_state") "set_state" "Counter.set_state" s_Counter_set_state
def s_Counter_jump : Stmt := inClass (top 52) 9
def d_Counter_jump : He5.DefA := mkD (fun K => He.ma K (He.ga K "Counter") "jump") "jump" "Counter.jump" s_Counter_jump
def s_Counter_back : Stmt := inClass (top 52) 10
def d_Counter_back : He5.DefA := mkD (fun K => He.ma K (He.ga K "Counter") "back") "back" "Counter.back" s_Counter_back
def s_Counter_copy : Stmt := inClass (top 52) 15
def d_Counter_copy : He5.DefA := mkD (fun K => He.ma K (He.ga K "Counter") "copy") "copy" "Counter.copy" s_Counter_copy
def s_Counter_same_state : Stmt := inClass (top 52) 16
def d_Counter_same_state : He5.DefA := mkD (fun K => He.ma K (He.ga K "Counter") "same_state") "same_state" "Counter.same_state" s_Counter_same_state
def s_Counter_at_state : Stmt := inClass (top 52) 17
def d_Counter_at_state : He5.DefA := mkD (fun K => He5.wf K (He.ga K "Counter") "classmethod" "at_state") "at_state" "Counter.at_state" s_Counter_at_state
def s_s2_is_number : Stmt := top 58
def d_s2_is_number : He5.DefA := mkD (fun K => He.ga K "s2_is_number") "s2_is_number" "s2_is_number" s_s2_is_number
def s_s2_need_start : Stmt := top 59
def d_s2_need_start : He5.DefA := mkD (fun K => He.ga K "s2_need_start") "s2_need_start" "s2_need_start" s_s2_need_start
def s_s2_need_state : Stmt := top 60
def d_s2_need_state : He5.DefA := mkD (fun K => He.ga K "s2_need_state") "s2_need_state" "s2_need_state" s_s2_need_state
def s_s2_joined : Stmt := top 61
def d_s2_joined : He5.DefA := mkD (fun K => He.ga K "s2_joined") "s2_joined" "s2_joined" s_s2_joined
def s_s2_step_map : Stmt := top 62
def d_s2_step_map : He5.DefA := mkD (fun K => He.ga K "s2_step_map") "s2_step_map" "s2_step_map" s_s2_step_map
def s_s2_mapped : Stmt := top 63
def d_s2_mapped : He5.DefA := mkD (fun K => He.ga K "s2_mapped") "s2_mapped" "s2_mapped" s_s2_mapped
def s_s2_moved : Stmt := top 64
def d_s2_moved : He5.DefA := mkD (fun K => He.ga K "s2_moved") "s2_moved" "s2_moved" s_s2_moved
def s_Linear_init : Stmt := inClass (top 65) 1
def d_Linear_init : He5.DefA := mkD (fun K => He.ma K (He.ga K "Linear") "__init__") "__init__" "Linear.__init__" s_Linear_init
def s_Linear_next_word : Stmt := inClass (top 65) 2
def d_Linear_next_word : He5.DefA := mkD (fun K => He.ma K (He.ga K "Linear") "next_word") "next_word" "Linear.next_word" s_Linear_next_word
def s_Linear_state : Stmt := inClass (top 65) 4
def d_Linear_state : He5.DefA := mkD (fun K => He5.wf K (He.ga K "Linear") "property" "state") "state" "Linear.state" s_Linear_state
def s_Linear_set_state : Stmt := inClass (top 65) 6
def d_Linear_set_state : He5.DefA := mkD (fun K => He.ma K (He.ga K "Linear") "set_state") "set_state" "Linear.set_state" s_Linear_set_state
def s_Linear_jump : Stmt := inClass (top 65) 7
def d_Linear_jump : He5.DefA := mkD (fun K => He.ma K (He.ga K "Linear") "jump") "jump" "Linear.jump" s_Linear_jump
def s_Linear_back : Stmt := inClass (top 65) 8
def d_Linear_back : He5.DefA := mkD (fun K => He.ma K (He.ga K "Linear") "back") "back" "Linear.back" s_Linear_back
def s_Linear_copy : Stmt := inClass (top 65) 13
def d_Linear_copy : He5.DefA := mkD (fun K => He.ma K (He.ga K "Linear") "copy") "copy" "Linear.copy" s_Linear_copy
def s_Linear_same_state : Stmt := inClass (top 65) 14
def d_Linear_same_state : He5.DefA := mkD (fun K => He.ma K (He.ga K "Linear") "same_state") "same_state" "Linear.same_state" s_Linear_same_state
def s_Linear_at_state : Stmt := inClass (top 65) 15
def d_Linear_at_state : He5.DefA := mkD (fun K => He5.wf K (He.ga K "Linear") "classmethod" "at_state") "at_state" "Linear.at_state" s_Linear_at_state
def s_s3_is_whole : Stmt := top 68
def d_s3_is_whole : He5.DefA := mkD (fun K => He.ga K "s3_is_whole") "s3_is_whole" "s3_is_whole" s_s3_is_whole
def s_is_polynomial : Stmt := top 69
def d_is_polynomial : He5.DefA := mkD (fun K => He.ga K "is_polynomial") "is_polynomial" "is_polynomial" s_is_polynomial
def s_s3_need : Stmt := top 70
def d_s3_need : He5.DefA := mkD (fun K => He.ga K "s3_need") "s3_need" "s3_need" s_s3_need
def s_s3_need_modulus : Stmt := top 71
def d_s3_need_modulus : He5.DefA := mkD (fun K => He.ga K "s3_need_modulus") "s3_need_modulus" "s3_need_modulus" s_s3_need_modulus
def s_s3_product : Stmt := top 72
def d_s3_product : He5.DefA := mkD (fun K => He.ga K "s3_product") "s3_product" "s3_product" s_s3_product
def s_s3_parts : Stmt := top 73
def d_s3_parts : He5.DefA := mkD (fun K => He.ga K "s3_parts") "s3_parts" "s3_parts" s_s3_parts
def s_s3_power : Stmt := top 74
def d_s3_power : He5.DefA := mkD (fun K => He.ga K "s3_power") "s3_power" "s3_power" s_s3_power
def s_power_of : Stmt := top 75
def d_power_of : He5.DefA := mkD (fun K => He.ga K "power_of") "power_of" "power_of" s_power_of
def s_s3_need_row : Stmt := top 81
def d_s3_need_row : He5.DefA := mkD (fun K => He.ga K "s3_need_row") "s3_need_row" "s3_need_row" s_s3_need_row
def s_s3_moved : Stmt := top 82
def d_s3_moved : He5.DefA := mkD (fun K => He.ga K "s3_moved") "s3_moved" "s3_moved" s_s3_moved
def s_Twisted_init : Stmt := inClass (top 83) 1
def d_Twisted_init : He5.DefA := mkD (fun K => He.ma K (He.ga K "Twisted") "__init__") "__init__" "Twisted.__init__" s_Twisted_init
def s_Twisted_at_state : Stmt := inClass (top 83) 2
def d_Twisted_at_state : He5.DefA := mkD (fun K => He5.wf K (He.ga K "Twisted") "classmethod" "at_state") "at_state" "Twisted.at_state" s_Twisted_at_state
def s_Twisted_state : Stmt := inClass (top 83) 6
def d_Twisted_state : He5.DefA := mkD (fun K => He5.wf K (He.ga K "Twisted") "property" "state") "state" "Twisted.state" s_Twisted_state
def s_Twisted_set_state : Stmt := inClass (top 83) 8
def d_Twisted_set_state : He5.DefA := mkD (fun K => He.ma K (He.ga K "Twisted") "set_state") "set_state" "Twisted.set_state" s_Twisted_set_state
def s_Twisted_next_word : Stmt := inClass (top 83) 9
def d_Twisted_next_word : He5.DefA := mkD (fun K => He.ma K (He.ga K "Twisted") "next_word") "next_word" "Twisted.next_word" s_Twisted_next_word
def s_Twisted_jump : Stmt := inClass (top 83) 11
def d_Twisted_jump : He5.DefA := mkD (fun K => He.ma K (He.ga K "Twisted") "jump") "jump" "Twisted.jump" s_Twisted_jump
def s_Twisted_back : Stmt := inClass (top 83) 12
def d_Twisted_back : He5.DefA := mkD (fun K => He.ma K (He.ga K "Twisted") "back") "back" "Twisted.back" s_Twisted_back
def s_Twisted_copy : Stmt := inClass (top 83) 17
def d_Twisted_copy : He5.DefA := mkD (fun K => He.ma K (He.ga K "Twisted") "copy") "copy" "Twisted.copy" s_Twisted_copy
def s_Twisted_same_state : Stmt := inClass (top 83) 18
def d_Twisted_same_state : He5.DefA := mkD (fun K => He.ma K (He.ga K "Twisted") "same_state") "same_state" "Twisted.same_state" s_Twisted_same_state
def s_law_begun : Stmt := top 85
def d_law_begun : He5.DefA := mkD (fun K => He.ga K "_law_begun") "_law_begun" "_law_begun" s_law_begun
def s_law_next : Stmt := top 86
def d_law_next : He5.DefA := mkD (fun K => He.ga K "_law_next") "_law_next" "_law_next" s_law_next
def s_law_wide : Stmt := top 87
def d_law_wide : He5.DefA := mkD (fun K => He.ga K "_law_wide") "_law_wide" "_law_wide" s_law_wide
def s_law_state : Stmt := top 88
def d_law_state : He5.DefA := mkD (fun K => He.ga K "_law_state") "_law_state" "_law_state" s_law_state
def s_law_source : Stmt := top 89
def d_law_source : He5.DefA := mkD (fun K => He.ga K "_law_source") "_law_source" "_law_source" s_law_source
def s_law_told : Stmt := top 90
def d_law_told : He5.DefA := mkD (fun K => He.ga K "_law_told") "_law_told" "_law_told" s_law_told
def s_law_steps : Stmt := top 91
def d_law_steps : He5.DefA := mkD (fun K => He.ga K "_law_steps") "_law_steps" "_law_steps" s_law_steps
def s_law_call_right : Stmt := top 92
def d_law_call_right : He5.DefA := mkD (fun K => He.ga K "_law_call_right") "_law_call_right" "_law_call_right" s_law_call_right
def s_law_odd_right : Stmt := top 93
def d_law_odd_right : He5.DefA := mkD (fun K => He.ga K "_law_odd_right") "_law_odd_right" "_law_odd_right" s_law_odd_right
def s_law : Stmt := top 94
def d_law : He5.DefA := mkD (fun K => He.ga K "law") "law" "law" s_law
def fns0 : List He5.DefA := [d_BadSteps_init, d_Exhausted_init, d_is_integer, d_is_word, d_need_word, d_own_tempered, d_tempered, d_need_steps, d_need_many, d_need_source, d_is_script, d_need_script_state, d_script_after, d_script_before, d_Scripted_init, d_Scripted_next_word, d_Scripted_state, d_Scripted_left, d_Scripted_set_state, d_Scripted_jump, d_Scripted_back, d_Scripted_copy, d_Scripted_same_state, d_Scripted_at_state, d_s7_is_item, d_is_tape, d_need_tape, d_Recording_init, d_Recording_tape, d_Recording_inner]
def fns1 : List He5.DefA := [d_Recording_state, d_Recording_set_state, d_Recording_s7_need_room, d_Recording_next_word, d_Recording_words, d_Recording_jump, d_Recording_back, d_Recording_copy, d_Recording_same_state, d_Recording_empty, d_words_on, d_s7_fits, d_first_difference, d_is_key, d_s4_change, d_s4_block, d_s4_need_state, d_s4_state_at, d_Counter_init, d_Counter_next_word, d_Counter_state, d_Counter_set_state, d_Counter_jump, d_Counter_back, d_Counter_copy, d_Counter_same_state, d_Counter_at_state, d_s2_is_number, d_s2_need_start, d_s2_need_state]
def fns2 : List He5.DefA := [d_s2_joined, d_s2_step_map, d_s2_mapped, d_s2_moved, d_Linear_init, d_Linear_next_word, d_Linear_state, d_Linear_set_state, d_Linear_jump, d_Linear_back, d_Linear_copy, d_Linear_same_state, d_Linear_at_state, d_s3_is_whole, d_is_polynomial, d_s3_need, d_s3_need_modulus, d_s3_product, d_s3_parts, d_s3_power, d_power_of, d_s3_need_row, d_s3_moved, d_Twisted_init, d_Twisted_at_state, d_Twisted_state, d_Twisted_set_state, d_Twisted_next_word, d_Twisted_jump, d_Twisted_back]
def fns3 : List He5.DefA := [d_Twisted_copy, d_Twisted_same_state, d_law_begun, d_law_next, d_law_wide, d_law_state, d_law_source, d_law_told, d_law_steps, d_law_call_right, d_law_odd_right, d_law]
def fns : List He5.DefA := fns0 ++ (fns1 ++ (fns2 ++ (fns3)))
def glos0 : List Str := ["_wall", "DrawError", "BadWord", "BadState", "BadSteps", "BadSource", "BadPolynomial", "BadTape", "Shortage", "Exhausted", "RunError", "TooLong", "Unsteady", "is_integer", "is_word", "need_word", "own_tempered", "tempered", "need_steps", "need_many", "Source", "need_source", "is_script", "need_script_state", "script_after", "script_before", "Scripted", "s7_is_item", "is_tape", "need_tape"]
def glos1 : List Str := ["Recording", "words_on", "s7_fits", "first_difference", "is_key", "s4_change", "s4_block", "s4_need_state", "s4_state_at", "Counter", "s2_is_number", "s2_need_start", "s2_need_state", "s2_joined", "s2_step_map", "s2_mapped", "s2_moved", "Linear", "s3_is_whole", "is_polynomial", "s3_need", "s3_need_modulus", "s3_product", "s3_parts", "s3_power", "power_of", "s3_need_row", "s3_moved", "Twisted", "_law_begun"]
def glos2 : List Str := ["_law_next", "_law_wide", "_law_state", "_law_source", "_law_told", "_law_steps", "_law_call_right", "_law_odd_right", "law"]
def glos : List Str := glos0 ++ (glos1 ++ (glos2))
def nums : List (Str × Int) := [("WORDS", 4294967296), ("FACTOR", 3486784401), ("MOST_STEPS", 18446744073709551616), ("MOST_WORDS", 1000000), ("MOST_SCRIPT", 10000), ("MOST_ITEMS", 10000), ("BLOCKS", 18446744073709551616), ("COUNTER_PERIOD", 36893488147419103232), ("MODULUS", 281474976710656), ("MULTIPLIER", 205891132094649), ("ADDEND", 11), ("LOW_WORD", 65536), ("MOST_DIGITS", 512), ("SIZE", 31), ("TAP", 3), ("RULE", 2147483657), ("PERIOD", 2147483647)]
def fres : List Str := ["isinstance", "len", "all", "range", "tuple", "list", "enumerate", "min", "max", "int", "bool", "str", "ValueError", "LookupError"]
def clss : List Str := ["Scripted", "Counter", "Linear", "Twisted", "Recording", "Source"]
def noats : List (Str × Str) := [("Scripted", "s1_script"), ("Scripted", "s1_place"), ("Counter", "s4_key"), ("Counter", "s4_position"), ("Linear", "s2_x"), ("Twisted", "s3_state"), ("Recording", "s7_inner"), ("Recording", "s7_items"), ("BadSteps", "given"), ("Exhausted", "missing")]
def facs0 : List (PySem.W.Frag → Bool) := [fMeth "Scripted" "next_word", fMeth "Scripted" "set_state", fMeth "Scripted" "jump", fMeth "Scripted" "back", fMeth "Scripted" "copy", fMeth "Scripted" "same_state", fMeth "Counter" "next_word", fMeth "Counter" "set_state", fMeth "Counter" "jump", fMeth "Counter" "back", fMeth "Counter" "copy", fMeth "Counter" "same_state", fMeth "Linear" "next_word", fMeth "Linear" "set_state", fMeth "Linear" "jump", fMeth "Linear" "back", fMeth "Linear" "copy", fMeth "Linear" "same_state", fMeth "Twisted" "next_word", fMeth "Twisted" "set_state", fMeth "Twisted" "jump", fMeth "Twisted" "back", fMeth "Twisted" "copy", fMeth "Twisted" "same_state", fMeth "Recording" "s7_need_room", fMeth "Recording" "next_word", fMeth "Recording" "words", fMeth "Recording" "jump", fMeth "Recording" "back", fMeth "Recording" "copy"]
def facs1 : List (PySem.W.Frag → Bool) := [fMeth "Recording" "same_state", fMeth "Recording" "set_state", fMeth "Recording" "empty", fMkr "Scripted", fMkr "Counter", fMkr "Linear", fMkr "Twisted", fMkr "Recording", fProp "Scripted" "state", fProp "Scripted" "left", fProp "Counter" "state", fProp "Linear" "state", fProp "Twisted" "state", fProp "Recording" "tape", fProp "Recording" "inner", fProp "Recording" "state", fCon "Scripted" "KIND" "script", fCon "Counter" "KIND" "counter", fCon "Linear" "KIND" "linear", fCon "Twisted" "KIND" "twisted", fCon "Recording" "KIND" "recording", fRead "Scripted", fRead "Counter", fRead "Linear", fRead "Twisted", fRead "Recording", fRead "DrawError", fRead "Shortage", fVal "Recording" "KIND" "recording", fCmet "Scripted" "at_state"]
def facs2 : List (PySem.W.Frag → Bool) := [fCmet "Counter" "at_state", fCmet "Linear" "at_state", fCmet "Twisted" "at_state", fKit "Scripted" "Source" true, fKit "Counter" "Source" true, fKit "Linear" "Source" true, fKit "Twisted" "Source" true, fKit "Recording" "Source" true, fKit "Scripted" "Recording" false, fKit "Counter" "Recording" false, fKit "Linear" "Recording" false, fKit "Twisted" "Recording" false, fIns "Scripted", fIns "Counter", fIns "Linear", fIns "Twisted", fIns "Recording", fEqs "Scripted", fEqs "Counter", fEqs "Linear", fEqs "Twisted", fEqs "Recording", fExc "BadSteps" "ValueError.__new__" tlVE, fExc "Exhausted" "LookupError.__new__" tlLE, fExm "Exhausted" "Exhausted" true, fExm "BadSteps" "Exhausted" false, fExm "BadSteps" "BadSteps" true, fBI "DrawError" "ValueError.__init__", fBI "Shortage" "LookupError.__init__", fKit "Scripted" "Scripted" true]
def facs3 : List (PySem.W.Frag → Bool) := [fKit "Counter" "Counter" true, fKit "Linear" "Linear" true, fKit "Twisted" "Twisted" true, fKit "Recording" "Recording" true]
def facs : List (PySem.W.Frag → Bool) := facs0 ++ (facs1 ++ (facs2 ++ (facs3)))
/-! ### what the head tells -/
structure Tx (K : PySem.W.Frag) (mg : Str → Option Value) : Prop where
  fn : ∀ (i : Nat) (d : He5.DefA), fns[i]? = some d → ∃ fd, FunD K d.name d.qual d.params d.body d.scope (d.dvs K) (d.kws K) (d.at_ K) fd
  glo : ∀ (i : Nat) (x : Str), glos[i]? = some x → mg x = some (.ref (ga K x))
  num : ∀ (i : Nat) (q : Str × Int), nums[i]? = some q → ∃ t, mg q.1 = some (.int q.2 t)
  fre : ∀ (i : Nat) (x : Str), fres[i]? = some x → mg x = none
  cls : ∀ (i : Nat) (c : Str), clss[i]? = some c → Cls K (ga K c)
  noat : ∀ (i : Nat) (q : Str × Str), noats[i]? = some q → NoAttr K (ga K q.1) q.2
  fac : ∀ (i : Nat) (f : PySem.W.Frag → Bool), facs[i]? = some f → f K = true
section
variable {P : Program} {w : World} {K : PySem.W.Frag} {mg : Str → Option Value} {base : Heap} {CX : CXT}
/-! ### defs by name -/
structure Has (P : Program) (w : World) (K : PySem.W.Frag) (mg : Str → Option Value) (base : Heap) (CX : CXT) (x : Str) (k : Nat) (ps : List Str) (sp : Sp) : Prop where
  ex : ∃ f fd, FnOk P w K mg base CX k f fd ps sp ∧ mg x = some (.ref f) ∧ PySem.W.keepIn K (.ref f) = true ∧ Binds K fd ps []
theorem Has.imp {x : Str} {k : Nat} {ps : List Str} {sp sp' : Sp} (h : Has P w K mg base CX x k ps sp) (i : ∀ vs H Q E, sp' vs H Q E → sp vs H Q E) : Has P w K mg base CX x k ps sp' := by
  obtain ⟨f, fd, F, r⟩ := h.ex
  exact ⟨f, fd, F.imp i, r⟩
theorem has_of {x : Str} {k : Nat} {ps : List Str} {sp : Sp} {f : Addr} {fd : FuncData} (F : FnOk P w K mg base CX k f fd ps sp) (hm : mg x = some (.ref f)) (hk : PySem.W.keepIn K (.ref f) = true) (hb : Binds K fd ps []) : Has P w K mg base CX x k ps sp := ⟨f, fd, F, hm, hk, hb⟩
/-- the rule for a def of no default, nothing leaves it -/
theorem FunD.ok0 {x qual : Str} {params : Arguments} {body : List Stmt} {scope : Scope} {dvs : List V} {kws : List (Str × V)} {f : Addr} {fd : FuncData} {N ps : List Str} {k : Nat} {sp : Sp} (F : FunD K x qual params body scope dvs kws f fd) (S : FnScope N ps scope)
    (len : ∀ vs H Q E, sp vs H Q E → vs.length = ps.length)
    (hbody : ∀ (cdv : Value) (A : Around) (outer : List Env) (s : Shared) (H : Hp) (vs : List V) (Q : VK) (E : XK), Room k (A.deeper (envOfC qual scope s.heap.objs.size f cdv)) → sp vs H Q E →
      ∃ t, PSs (cxOf CX0 P w K mg base N qual scope f cdv A outer s H E).nox body t ∧ t { nx := fun _ H' => Q .non H', rt := Q } (start N vs) H) : FnOk P w K mg base CX0 (k + 1) f fd ps sp :=
  FunD.ok F S len fun cdv A outer s H vs Q E hr hsp => by
    obtain ⟨t, h, q⟩ := hbody cdv A outer s H vs Q E hr hsp
    exact ⟨t, h.nox, q⟩
end
section
variable {X : Cx} {CX : CXT} {k : Nat} {ps : List Str} {sp : Sp} {E : XK} {x m : Str} {p pos apos : Pos} {e o : Expr} {es : List Expr} {ta : TE} {t : TA} {C : Addr}
/-- f(e, ..) -/
theorem pe_h (h : Has X.prog X.w X.K X.mg X.base CX x k ps sp) (hr : Room k X.A) (hx : Passes CX X E) (ha : PA X (e :: es) t) (hg : Gl X x := by rfl)
    (hdb : (x == ("__debug__" : Str)) = false := by decide) (he : starEach (e :: es) X.env = (false, eval e X.env) :: starEach es X.env := by rfl) (hpl : (backTo pos (starEach es X.env)).any (·.1) = false := by rfl) :
    PE X (.Call (.Name x p) (e :: es) [] pos) (tCall sp [] E t) := by
  obtain ⟨f, fd, F, hm, hk, hb⟩ := h.ex
  exact pe_call F hr hg hm hk hb .nil hx ha hdb he hpl
/-- methods of a class -/
structure HasM (P : Program) (w : World) (K : PySem.W.Frag) (mg : Str → Option Value) (base : Heap) (CX : CXT) (C : Addr) (m : Str) (k : Nat) (ps : List Str) (sp : Sp) : Prop where
  ex : ∃ f fd, FnOk P w K mg base CX k f fd ps sp ∧ Meth K C m f ∧ Binds K fd ps []
theorem pe_hm {pl : Sem Bool} (h : HasM X.prog X.w X.K X.mg X.base CX C m k ps sp) (c : Cls X.K C) (hr : Room k X.A) (hx : Passes CX X E) (he : PE X o ta) (ha : PA X (e :: es) t)
    (hst : starEach (e :: es) X.env = (false, eval e X.env) :: starEach es X.env := by rfl) (hpl : (backTo pos (starEach es X.env)).any (·.1) = false := by rfl)
    (ht : eval (.Call (.Attribute o m apos) (e :: es) [] pos) X.env = (do
      let ov ← eval o X.env
      standAt apos.atName
      let (f, first) ← holding [ov] (getMethod ov m pl)
      callWith pos f first (backTo pos (starEach (e :: es) X.env)) (backToKw pos (keywordEach [] X.env))) := by rfl) :
    PE X (.Call (.Attribute o m apos) (e :: es) [] pos) (tMeth C m sp [] E ta t) := by
  obtain ⟨f, fd, F, hm, hb⟩ := h.ex
  exact pe_meth he c hm F hr hb .nil hx ha hst hpl ht
theorem pe_hm0 {pl : Sem Bool} (h : HasM X.prog X.w X.K X.mg X.base CX C m k ps sp) (c : Cls X.K C) (hr : Room k X.A) (hx : Passes CX X E) (he : PE X o ta)
    (ht : eval (.Call (.Attribute o m apos) [] [] pos) X.env = (do
      let ov ← eval o X.env
      standAt apos.atName
      let (f, first) ← holding [ov] (getMethod ov m pl)
      callWith pos f first (backTo pos (starEach [] X.env)) (backToKw pos (keywordEach [] X.env))) := by rfl) :
    PE X (.Call (.Attribute o m apos) [] [] pos) (tMeth C m sp [] E ta tNil) := by
  obtain ⟨f, fd, F, hm, hb⟩ := h.ex
  exact pe_meth0 he c hm F hr hb .nil hx ht
/-- properties -/
structure HasP (P : Program) (w : World) (K : PySem.W.Frag) (mg : Str → Option Value) (base : Heap) (CX : CXT) (C : Addr) (f : Str) (k : Nat) (sp : Sp) : Prop where
  ex : ∃ p g fd, PropOf K C f p g ∧ FnOk P w K mg base CX k g fd ["self"] sp ∧ Binds K fd ["self"] []
theorem pe_hp {f : Str} (h : HasP X.prog X.w X.K X.mg X.base CX C f k sp) (c : Cls X.K C) (hr : Room (k + 1) X.A) (hx : Passes CX X.nox E) (he : PE X e ta) (hab : attributeBase e f X.env (eval e X.env) = eval e X.env := by rfl) :
    PE X (.Attribute e f pos) (tProp C sp [] E ta) := by
  obtain ⟨p, g, fd, hp, F, hb⟩ := h.ex
  exact pe_prop he c hp F hr hb .nil hx hab
/-- one of several readings -/
theorem pe_any {ι : Type} {e : Expr} {t : ι → TE} (h : ∀ i, PE X e (t i)) : PE X e (fun σ H Q => ∃ i, t i σ H Q) := ⟨fun pins s σ H Q I ⟨i, q⟩ => (h i).run pins s σ H Q I q⟩
theorem pt_any {ι : Type} {e : Expr} {t : ι → TT} (h : ∀ i, PT X e (t i)) : PT X e (fun σ H Q => ∃ i, t i σ H Q) := ⟨fun pins s σ H Q I ⟨i, q⟩ => (h i).run pins s σ H Q I q⟩
end
/-! ### promises of plain defs -/
/-- ints in, under C, a value out -/
def sp1 (C : Int → Prop) (f : Int → V) : Sp := fun vs H Q _ => ∃ i, vs = [.int i] ∧ C i ∧ Evl.RetV (f i) H Q
def sp2 (C : Int → Int → Prop) (f : Int → Int → V) : Sp := fun vs H Q _ => ∃ i j, vs = [.int i, .int j] ∧ C i j ∧ Evl.RetV (f i j) H Q
def sp3 (C : Int → Int → Int → Prop) (f : Int → Int → Int → V) : Sp := fun vs H Q _ => ∃ i j l, vs = [.int i, .int j, .int l] ∧ C i j l ∧ Evl.RetV (f i j l) H Q
theorem sp1_len {C : Int → Prop} {f : Int → V} {x : Str} (vs : List V) (H : Hp) (Q : VK) (E : XK) (h : sp1 C f vs H Q E) : vs.length = [x].length := by
  obtain ⟨i, rfl, _⟩ := h
  rfl
theorem sp2_len {C : Int → Int → Prop} {f : Int → Int → V} {x y : Str} (vs : List V) (H : Hp) (Q : VK) (E : XK) (h : sp2 C f vs H Q E) : vs.length = [x, y].length := by
  obtain ⟨i, j, rfl, _⟩ := h
  rfl
theorem sp3_len {C : Int → Int → Int → Prop} {f : Int → Int → Int → V} {x y z : Str} (vs : List V) (H : Hp) (Q : VK) (E : XK) (h : sp3 C f vs H Q E) : vs.length = [x, y, z].length := by
  obtain ⟨i, j, l, rfl, _⟩ := h
  rfl
theorem spv1 {C : Int → Prop} {f : Int → V} {i : Int} {H : Hp} (c : C i) : Evl.SpV (sp1 C f) [.int i] H (f i) := fun _ _ _ q _ => ⟨_, rfl, c, q⟩
theorem spv2 {C : Int → Int → Prop} {f : Int → Int → V} {i j : Int} {H : Hp} (c : C i j) : Evl.SpV (sp2 C f) [.int i, .int j] H (f i j) := fun _ _ _ q _ => ⟨_, _, rfl, c, q⟩
theorem spv3 {C : Int → Int → Int → Prop} {f : Int → Int → Int → V} {i j l : Int} {H : Hp} (c : C i j l) : Evl.SpV (sp3 C f) [.int i, .int j, .int l] H (f i j l) := fun _ _ _ q _ => ⟨_, _, _, rfl, c, q⟩
end Kx
set_option Elab.async false
set_option linter.all false
set_option maxRecDepth 100000
set_option maxHeartbeats 2000000
namespace KxH
open PySem PySem.W PySem.Calls PyProof.Rows
open He (ga ma ba)
abbrev R : OpenRow := OpenLaw.row PySem.Challenge.rw_drawstate_k64_whole_recordings
abbrev qv : Program := view R.prog [94]
def names0 : List PySem.Str := ["_wall", "__name__", "DrawError", "BadWord", "BadState", "BadSteps", "BadSource", "BadPolynomial", "BadTape", "Shortage", "Exhausted", "RunError", "TooLong", "Unsteady", "WORDS", "FACTOR", "is_integer", "is_word", "need_word", "own_tempered", "tempered", "MOST_STEPS", "MOST_WORDS", "MOST_SCRIPT", "need_steps", "need_many", "Source", "need_source", "is_script", "need_script_state"]
def names1 : List PySem.Str := ["script_after", "script_before", "Scripted", "MOST_ITEMS", "s7_is_item", "is_tape", "need_tape", "Recording", "words_on", "s7_fits", "first_difference", "BLOCKS", "COUNTER_PERIOD", "is_key", "s4_change", "s4_block", "s4_need_state", "s4_state_at", "Counter", "MODULUS", "MULTIPLIER", "ADDEND", "LOW_WORD", "s2_is_number", "s2_need_start", "s2_need_state", "s2_joined", "s2_step_map", "s2_mapped", "s2_moved"]
def names2 : List PySem.Str := ["Linear", "MOST_DIGITS", "s3_is_whole", "is_polynomial", "s3_need", "s3_need_modulus", "s3_product", "s3_parts", "s3_power", "power_of", "SIZE", "TAP", "RULE", "PERIOD", "s3_need_row", "s3_moved", "Twisted", "_law_begun", "_law_next", "_law_wide", "_law_state", "_law_source", "_law_told", "_law_steps", "_law_call_right", "_law_odd_right"]
def names : List PySem.Str := names0 ++ (names1 ++ (names2))
/-! ### the Hook -/
def tf : List He.Defn := [("_law_call_right", none), ("_law_odd_right", none)]
/-- the address that the module's name x stands for, off the tree -/
def gaG (g : Addr → Option Obj) (x : PySem.Str) : Addr := ga (He.frG g [mainGlobals]) x
def nsG (g : Addr → Option Obj) (C : Addr) : List Addr := match g C with
  | some ⟨_, _, .cls cd, _⟩ => [cd.ns]
  | _ => []
/-- the addresses that a namespace holds -/
def inG (g : Addr → Option Obj) (N : Addr) : List Addr := match g N with
  | some ⟨_, _, .dict es _, _⟩ => es.toList.flatMap fun e => He.refV e.val
  | _ => []
/-- a property's, a classmethod's def -/
def wrG (g : Addr → Option Obj) (p : Addr) : List Addr := match g p with
  | some ⟨.type n, _, .fields vs, _⟩ => (match n == "property" || n == "classmethod" with
    | true => (vs.toList.take 1).flatMap He.refV
    | false => [])
  | _ => []
def cdG (g : Addr → Option Obj) (f : Addr) : List Addr := match g f with
  | some ⟨_, _, .func fd, _⟩ => He.refV fd.code ++ He.refV fd.defaults
  | _ => []
def clsNames : List PySem.Str := ["DrawError", "BadSteps", "Shortage", "Exhausted", "Source", "Scripted", "Recording", "Counter", "Linear", "Twisted"]
def isCls (x : PySem.Str) : Bool := clsNames.contains x
def asZ (g : Addr → Option Obj) (n : Nat) : List Addr :=
  let cs := (Kx.glos.filter isCls).map (gaG g)
  let ns := cs.flatMap (nsG g)
  let ms := ns.flatMap (inG g)
  let fs := (Kx.glos.filter fun x => !isCls x).map (gaG g) ++ (ms ++ ms.flatMap (wrG g))
  [mainGlobals, cStatics] ++ (cs ++ (ns ++ (fs ++ fs.flatMap (cdG g))))
def fNames (K : Frag) : Bool := (Kx.glos.all fun x => (He.Fa.glo x).ok K) && ((Kx.nums.all fun q => (He.Fa.int q.1 q.2).ok K) && (Kx.fres.all fun x => (He.Fa.free x).ok K))
def fCls (K : Frag) : Bool := (Kx.clss.all fun c => (He.Fa.cls c).ok K) && (Kx.noats.all fun q => (He.Fa.noat q.1 q.2).ok K)
def neB (K : Frag) : Bool := !(Nat.beq (He.cT K ("_law_call_right", none)).2 (He.cT K ("_law_odd_right", none)).2)
/-! the looks, one a run -/
def kOf (g : Addr → Option Obj) : Frag := He.frT g (asZ g 6)
def obs1 (g : Addr → Option Obj) : Bool × (Bool × Bool) := (fNames (kOf g), (neB (kOf g), He.tabsB g tf (kOf g)))
def obs2 (g : Addr → Option Obj) : List He.FnW := Kx.fns.map fun d => He5.fnA (kOf g) (d.at_ (kOf g))
def obs3 (g : Addr → Option Obj) : Bool := (Kx.fns.take 42).all fun d => d.ok (kOf g)
def obs4 (g : Addr → Option Obj) : Bool := (Kx.fns.drop 42).all fun d => d.ok (kOf g)
def obs5 (g : Addr → Option Obj) : Bool × Bool := (fCls (kOf g), (Kx.facs.take 47).all fun f => f (kOf g))
def obs6 (g : Addr → Option Obj) : Bool := (Kx.facs.drop 47).all fun f => f (kOf g)
/-- the run, with a look at its end -/
def RunO {β : Type} (o : (Addr → Option Obj) → β) (v : β) (w : World) : Prop := ∀ os : OsState, (HandSHeadRun.endF (HandSHeadRun.stepQ (HandSHeadRun.denQ HandSHeadRun.tabQ) R.prog w) 100000 R.prog w os).map (fun s => (HandSHeadRun.looksF R.prog (boot_heap w.params) s.abs, HandSHeadRun.seenQ qv names (importedModules R.prog.main.body) (fun s => xlAt qv [] s && recOk R.toRowW.records s) s.abs, o (HandSHeadRun.getT s))) = some (true, openGood qv names, v)
def RunP {β : Type} (o : (Addr → Option Obj) → β) (v : β) (w : World) : Prop := ∀ os : OsState, (HandSHeadRun.endF (HandSHeadRun.stepQ (HandSHeadRun.denQ HandSHeadRun.tabQ) R.prog w) 100000 R.prog w os).map (fun s => o (HandSHeadRun.getT s)) = some v
set_option maxHeartbeats 0
theorem run1 (w : World) : RunO obs1 (true, (true, true)) w := by
  intro os
  kernel_rfl
theorem run2 (w : World) : RunP obs2 (Kx.fns.map He5.DefA.val) w := by
  intro os
  kernel_rfl
theorem run3 (w : World) : RunP obs3 true w := by
  intro os
  kernel_rfl
theorem run4 (w : World) : RunP obs4 true w := by
  intro os
  kernel_rfl
theorem run5 (w : World) : RunP obs5 (true, true) w := by
  intro os
  kernel_rfl
theorem run6 (w : World) : RunP obs6 true w := by
  intro os
  kernel_rfl
end KxH
set_option Elab.async false
set_option linter.all false
set_option maxRecDepth 100000
set_option maxHeartbeats 2000000
namespace Kx
open PySem PySem.Spec PyProof.Rows L2
open He (ga ma)
section
variable {P : Program} {w : World} {K : PySem.W.Frag} {mg : Str → Option Value} {base : Heap}
/-- a def of the top that lets nothing out -/
theorem Tx.has (T : Tx K mg) (i j : Nat) {d : He5.DefA} {x : Str} {N ps : List Str} {k : Nat} {sp : Sp} (hd : fns[i]? = some d) (hj : glos[j]? = some x) (hx : d.at_ = fun K => ga K x) (S : FnScope N ps d.scope) (len : ∀ vs H Q E, sp vs H Q E → vs.length = ps.length) (hdf : d.dfl = [])
    (hb : ∀ (kV doc pm : Value) (an : Option Addr) (cdv ct : Value) (us : List Value), us.length = ps.length → bindArgs (PySem.W.fnOf d.name d.qual d.params d.body d.scope .none kV doc pm an cdv ct) ⟨us, []⟩ = pure (ps.zip us))
    (hbody : ∀ (cdv : Value) (A : Around) (outer : List Env) (s : Shared) (H : Hp) (vs : List V) (Q : VK) (E : XK), Room k (A.deeper (envOfC d.qual d.scope s.heap.objs.size (ga K x) cdv)) → sp vs H Q E →
      ∃ t, PSs (cxOf CX0 P w K mg base N d.qual d.scope (ga K x) cdv A outer s H E).nox d.body t ∧ t { nx := fun _ H' => Q .non H', rt := Q } (start N vs) H) : Has P w K mg base CX0 x (k + 1) ps sp := by
  obtain ⟨fd, F⟩ := T.fn i d hd
  have e : d.at_ K = ga K x := by rw [hx]
  rw [e] at F
  have e2 : d.dvs K = [] := by unfold He5.DefA.dvs; rw [hdf]; rfl
  rw [e2] at F
  exact has_of (FunD.ok0 F S len hbody) (T.glo j x hj) F.kp (F.bindsN hb)
/-- .. that may raise -/
theorem Tx.hasX (T : Tx K mg) (i j : Nat) {d : He5.DefA} {x : Str} {N ps : List Str} {k : Nat} {sp : Sp} (hd : fns[i]? = some d) (hj : glos[j]? = some x) (hx : d.at_ = fun K => ga K x) (S : FnScope N ps d.scope) (len : ∀ vs H Q E, sp vs H Q E → vs.length = ps.length) (hdf : d.dfl = [])
    (hb : ∀ (kV doc pm : Value) (an : Option Addr) (cdv ct : Value) (us : List Value), us.length = ps.length → bindArgs (PySem.W.fnOf d.name d.qual d.params d.body d.scope .none kV doc pm an cdv ct) ⟨us, []⟩ = pure (ps.zip us))
    (hbody : ∀ (cdv : Value) (A : Around) (outer : List Env) (s : Shared) (H : Hp) (vs : List V) (Q : VK) (E : XK), Room k (A.deeper (envOfC d.qual d.scope s.heap.objs.size (ga K x) cdv)) → sp vs H Q E →
      ∃ t, PSs (cxOf (L2.CX P w) P w K mg base N d.qual d.scope (ga K x) cdv A outer s H E) d.body t ∧ t { nx := fun _ H' => Q .non H', rt := Q } (start N vs) H) : Has P w K mg base (L2.CX P w) x (k + 1) ps sp := by
  obtain ⟨fd, F⟩ := T.fn i d hd
  have e : d.at_ K = ga K x := by rw [hx]
  rw [e] at F
  have e2 : d.dvs K = [] := by unfold He5.DefA.dvs; rw [hdf]; rfl
  rw [e2] at F
  exact has_of (FunD.ok F S len hbody) (T.glo j x hj) F.kp (F.bindsN hb)
/-- a method -/
theorem Tx.hasM (T : Tx K mg) (i j : Nat) {d : He5.DefA} {c m : Str} {N ps : List Str} {k : Nat} {sp : Sp} (hd : fns[i]? = some d) (hj : facs[j]? = some (fMeth c m)) (hx : d.at_ = fun K => ma K (ga K c) m) (S : FnScope N ps d.scope) (len : ∀ vs H Q E, sp vs H Q E → vs.length = ps.length) (hdf : d.dfl = [])
    (hb : ∀ (kV doc pm : Value) (an : Option Addr) (cdv ct : Value) (us : List Value), us.length = ps.length → bindArgs (PySem.W.fnOf d.name d.qual d.params d.body d.scope .none kV doc pm an cdv ct) ⟨us, []⟩ = pure (ps.zip us))
    (hbody : ∀ (cdv : Value) (A : Around) (outer : List Env) (s : Shared) (H : Hp) (vs : List V) (Q : VK) (E : XK), Room k (A.deeper (envOfC d.qual d.scope s.heap.objs.size (ma K (ga K c) m) cdv)) → sp vs H Q E →
      ∃ t, PSs (cxOf CX0 P w K mg base N d.qual d.scope (ma K (ga K c) m) cdv A outer s H E).nox d.body t ∧ t { nx := fun _ H' => Q .non H', rt := Q } (start N vs) H) : HasM P w K mg base CX0 (ga K c) m (k + 1) ps sp := by
  obtain ⟨fd, F⟩ := T.fn i d hd
  have e : d.at_ K = ma K (ga K c) m := by rw [hx]
  rw [e] at F
  have e2 : d.dvs K = [] := by unfold He5.DefA.dvs; rw [hdf]; rfl
  rw [e2] at F
  exact ⟨_, fd, FunD.ok0 F S len hbody, He.meth_ok (T.fac j _ hj), F.bindsN hb⟩
theorem Tx.hasMX (T : Tx K mg) (i j : Nat) {d : He5.DefA} {c m : Str} {N ps : List Str} {k : Nat} {sp : Sp} (hd : fns[i]? = some d) (hj : facs[j]? = some (fMeth c m)) (hx : d.at_ = fun K => ma K (ga K c) m) (S : FnScope N ps d.scope) (len : ∀ vs H Q E, sp vs H Q E → vs.length = ps.length) (hdf : d.dfl = [])
    (hb : ∀ (kV doc pm : Value) (an : Option Addr) (cdv ct : Value) (us : List Value), us.length = ps.length → bindArgs (PySem.W.fnOf d.name d.qual d.params d.body d.scope .none kV doc pm an cdv ct) ⟨us, []⟩ = pure (ps.zip us))
    (hbody : ∀ (cdv : Value) (A : Around) (outer : List Env) (s : Shared) (H : Hp) (vs : List V) (Q : VK) (E : XK), Room k (A.deeper (envOfC d.qual d.scope s.heap.objs.size (ma K (ga K c) m) cdv)) → sp vs H Q E →
      ∃ t, PSs (cxOf (L2.CX P w) P w K mg base N d.qual d.scope (ma K (ga K c) m) cdv A outer s H E) d.body t ∧ t { nx := fun _ H' => Q .non H', rt := Q } (start N vs) H) : HasM P w K mg base (L2.CX P w) (ga K c) m (k + 1) ps sp := by
  obtain ⟨fd, F⟩ := T.fn i d hd
  have e : d.at_ K = ma K (ga K c) m := by rw [hx]
  rw [e] at F
  have e2 : d.dvs K = [] := by unfold He5.DefA.dvs; rw [hdf]; rfl
  rw [e2] at F
  exact ⟨_, fd, FunD.ok F S len hbody, He.meth_ok (T.fac j _ hj), F.bindsN hb⟩
/-- a property -/
theorem Tx.propOf (T : Tx K mg) (j : Nat) {c f : Str} (hj : facs[j]? = some (fProp c f)) : PropOf K (ga K c) f (ma K (ga K c) f) (He5.wf K (ga K c) "property" f) := by
  have h := T.fac j _ hj
  obtain ⟨h1, h⟩ := He.ba h
  obtain ⟨h2, h⟩ := He.ba h
  obtain ⟨h3, h4⟩ := He.ba h
  refine ⟨He.eqO_ok h1, He.eqO_ok h2, of_decide_eq_true h3, ?_⟩
  unfold He5.wf
  split at h4
  · rename_i a r e
    exact ⟨r, by rw [e]⟩
  · cases h4
theorem Tx.hasP (T : Tx K mg) (i j : Nat) {d : He5.DefA} {c m : Str} {N : List Str} {k : Nat} {sp : Sp} (hd : fns[i]? = some d) (hj : facs[j]? = some (fProp c m)) (hx : d.at_ = fun K => He5.wf K (ga K c) "property" m) (S : FnScope N ["self"] d.scope) (len : ∀ vs H Q E, sp vs H Q E → vs.length = (["self"] : List Str).length) (hdf : d.dfl = [])
    (hb : ∀ (kV doc pm : Value) (an : Option Addr) (cdv ct : Value) (us : List Value), us.length = (["self"] : List Str).length → bindArgs (PySem.W.fnOf d.name d.qual d.params d.body d.scope .none kV doc pm an cdv ct) ⟨us, []⟩ = pure ((["self"] : List Str).zip us))
    (hbody : ∀ (cdv : Value) (A : Around) (outer : List Env) (s : Shared) (H : Hp) (vs : List V) (Q : VK) (E : XK), Room k (A.deeper (envOfC d.qual d.scope s.heap.objs.size (He5.wf K (ga K c) "property" m) cdv)) → sp vs H Q E →
      ∃ t, PSs (cxOf CX0 P w K mg base N d.qual d.scope (He5.wf K (ga K c) "property" m) cdv A outer s H E).nox d.body t ∧ t { nx := fun _ H' => Q .non H', rt := Q } (start N vs) H) : HasP P w K mg base CX0 (ga K c) m (k + 1) sp := by
  obtain ⟨fd, F⟩ := T.fn i d hd
  have e : d.at_ K = He5.wf K (ga K c) "property" m := by rw [hx]
  rw [e] at F
  have e2 : d.dvs K = [] := by unfold He5.DefA.dvs; rw [hdf]; rfl
  rw [e2] at F
  exact ⟨_, _, fd, T.propOf j hj, FunD.ok0 F S len hbody, F.bindsN hb⟩
end
/-! ### nicer rules -/
theorem PE.imp {X : Cx} {e : Expr} {t t' : TE} (h : PE X e t) (i : ∀ σ H Q, t' σ H Q → t σ H Q) : PE X e t' := ⟨fun pins s σ H Q I q => h.run pins s σ H Q I (i σ H Q q)⟩
theorem PT.imp {X : Cx} {e : Expr} {t t' : TT} (h : PT X e t) (i : ∀ σ H Q, t' σ H Q → t σ H Q) : PT X e t' := ⟨fun pins s σ H Q I q => h.run pins s σ H Q I (i σ H Q q)⟩
section
variable {X : Cx} {a b c e : Expr} {ta tb tc te : TE} {pos p p2 : Pos} {x : Str} {σ : L2.St} {H : Hp}
/-- a number of the module -/
theorem pe_num (T : Tx X.K X.mg) (i : Nat) {n : Int} (h : nums[i]? = some (x, n)) (hg : Gl X x := by rfl) (hd : (x == ("__debug__" : Str)) = false := by decide) : PE X (.Name x pos) (tC (.int n)) := by
  obtain ⟨t, ht⟩ := T.num i _ h
  exact pe_glob hg ht ⟨t, rfl⟩ hd
/-- a def, a class of the module -/
theorem pe_glo (T : Tx X.K X.mg) (i : Nat) (h : glos[i]? = some x) (hg : Gl X x := by rfl) (hd : (x == ("__debug__" : Str)) = false := by decide) : PE X (.Name x pos) (tC (.ref (ga X.K x))) := pe_glob hg (T.glo i x h) rfl hd
/-- which values the built-in type T has -/
def isB (T : String) (x : V) (H : Hp) (b : Bool) : Prop := match x with
  | .int _ => kitB "int" T = some b
  | .str _ => kitB "str" T = some b
  | .ref a => (∃ xs, H a = some (.tup xs) ∧ kitB "tuple" T = some b) ∨ (∃ xs, H a = some (.lst xs) ∧ kitB "list" T = some b)
  | _ => False
def rIsB : List V → Hp → VK → Prop := fun xs H Q => ∃ (x : V) (n : String) (b : Bool), xs = [x, .ty n] ∧ isB n x H b ∧ Q (.bl b) H
theorem call_isB : CallR X (.builtin "isinstance") rIsB := by
  intro pins s σ H xs us Q I r h
  obtain ⟨x, n, b, rfl, k, q⟩ := h
  refine call_isi pins s σ H _ us Q I r ?_
  cases x with
  | int i => exact ⟨_, _, _, _, b, rfl, .ty n, .base (.int i), kit_ty k, q⟩
  | str i => exact ⟨_, _, _, _, b, rfl, .ty n, .base (.str i), kit_ty k, q⟩
  | ref a =>
    rcases k with ⟨ys, e, k⟩ | ⟨ys, e, k⟩
    · exact ⟨_, _, _, _, b, rfl, .ty n, .base (.tup e), kit_ty k, q⟩
    · exact ⟨_, _, _, _, b, rfl, .ty n, .base (.lst e), kit_ty k, q⟩
  | _ => exact k.elim
theorem isB_ii {i : Int} : isB "int" (.int i) H true := (by decide +kernel : kitB "int" "int" = some true)
theorem isB_ib {i : Int} : isB "bool" (.int i) H false := (by decide +kernel : kitB "int" "bool" = some false)
theorem isB_it {i : Int} : isB "tuple" (.int i) H false := (by decide +kernel : kitB "int" "tuple" = some false)
theorem isB_ss {z : Str} : isB "str" (.str z) H true := (by decide +kernel : kitB "str" "str" = some true)
theorem isB_tt {a : Addr} {xs : List V} (h : H a = some (.tup xs)) : isB "tuple" (.ref a) H true := .inl ⟨xs, h, by decide +kernel⟩
theorem isB_tl {a : Addr} {xs : List V} (h : H a = some (.tup xs)) : isB "list" (.ref a) H false := .inl ⟨xs, h, by decide +kernel⟩
theorem isB_ll {a : Addr} {xs : List V} (h : H a = some (.lst xs)) : isB "list" (.ref a) H true := .inr ⟨xs, h, by decide +kernel⟩
theorem boot_boolT : bootBuiltins "bool" = some (.type "bool") := by decide +kernel
theorem boot_intT : bootBuiltins "int" = some (.type "int") := by decide +kernel
theorem boot_strT : bootBuiltins "str" = some (.type "str") := by decide +kernel
theorem boot_tupleT : bootBuiltins "tuple" = some (.type "tuple") := by decide +kernel
theorem boot_listT : bootBuiltins "list" = some (.type "list") := by decide +kernel
theorem boot_isi : bootBuiltins "isinstance" = some (.builtin "isinstance") := by decide +kernel
theorem boot_minB : bootBuiltins "min" = some (.builtin "min") := by decide +kernel
theorem boot_maxB : bootBuiltins "max" = some (.builtin "max") := by decide +kernel
theorem boot_allB : bootBuiltins "all" = some (.builtin "all") := by decide +kernel
theorem pe_isB (T : Tx X.K X.mg) (j : Nat) {n : String} {y : Str} (hj : fres[j]? = some y) (hv : bootBuiltins y = some (.type n)) (he : PE X e te) (hg : Gl X "isinstance" := by rfl) (hg2 : Gl X y := by rfl) (hn : y ≠ "__name__" := by decide) (hdb : (y == ("__debug__" : Str)) = false := by decide)
    (hst : starEach (e :: [.Name y p2]) X.env = (false, eval e X.env) :: starEach [.Name y p2] X.env := by rfl) (hpl : (backTo pos (starEach [.Name y p2] X.env)).any (·.1) = false := by rfl) (hst2 : starEach [.Name y p2] X.env = (false, eval (.Name y p2) X.env) :: starEach [] X.env := by rfl) :
    PE X (.Call (.Name "isinstance" p) [e, .Name y p2] [] pos) (tCB rIsB (tCons te (tCons (tC (.ty n)) tNil))) :=
  pe_callB call_isB hg (T.fre 0 _ rfl) boot_isi (pa_cons he (pa_cons (pe_bltn (v := .ty n) (pos := p2) hg2 (T.fre j _ hj) hv rfl hn hdb) pa_nil hst2) hst) (by decide) (by decide) hst hpl
/-- lo <= e < hi, lo <= e <= hi, between constants -/
def tRng (p : Int → Bool) (te : TE) : TE := fun σ H Q => te σ H fun x H1 => ∃ i, x = .int i ∧ Q (.bl (p i)) H1
theorem pe_rng {lo hi : Int} (ha : PE X a (tC (.int lo))) (hb : PE X b tb) (hc : PE X c (tC (.int hi))) (hm : lastMarks [.LtE, .Lt] [b, c] = false := by with_unfolding_all rfl) : PE X (.Compare a [.LtE, .Lt] [b, c] pos) (tRng (fun i => decide (lo ≤ i) && decide (i < hi)) tb) := by
  refine ⟨fun pins s σ H Q I h => ?_⟩
  refine Compare_chain (thn (ha.run pins s σ H (fun v H1 => v = .int lo ∧ H1 = H) I ⟨rfl, rfl⟩) fun v s1 ⟨x, H1, I1, r1, q1⟩ => chain_link ?_) hm
  obtain ⟨q1, q2⟩ := q1
  subst q1
  rw [q2] at I1
  obtain ⟨t, rfl⟩ := r1
  refine thn (hb.run pins s1 σ H _ I1 h) fun u s2 ⟨y, H2, I2, r2, i, e2, q2⟩ => ?_
  subst e2
  obtain ⟨t2, rfl⟩ := r2
  refine le_int (wpAny_truthy_bool ?_)
  dsimp only at q2
  cases k : decide (lo ≤ i) with
  | false =>
    rw [k] at q2
    exact ite_ff ⟨.bl false, H2, I2, rfl, q2⟩
  | true =>
    rw [k] at q2
    refine ite_tt (chain_last (thn (hc.run pins s2 σ H2 (fun v H1 => v = .int hi ∧ H1 = H2) I2 ⟨rfl, rfl⟩) fun w' s4 ⟨z', H4, I4, r4, q4⟩ => ?_))
    obtain ⟨q4, q5⟩ := q4
    subst q4
    rw [q5] at I4
    obtain ⟨t3, rfl⟩ := r4
    exact lt_int ⟨.bl _, H2, I4, rfl, q2⟩
theorem pe_rngE {lo hi : Int} (ha : PE X a (tC (.int lo))) (hb : PE X b tb) (hc : PE X c (tC (.int hi))) (hm : lastMarks [.LtE, .LtE] [b, c] = false := by with_unfolding_all rfl) : PE X (.Compare a [.LtE, .LtE] [b, c] pos) (tRng (fun i => decide (lo ≤ i) && decide (i ≤ hi)) tb) := by
  refine ⟨fun pins s σ H Q I h => ?_⟩
  refine Compare_chain (thn (ha.run pins s σ H (fun v H1 => v = .int lo ∧ H1 = H) I ⟨rfl, rfl⟩) fun v s1 ⟨x, H1, I1, r1, q1⟩ => chain_link ?_) hm
  obtain ⟨q1, q2⟩ := q1
  subst q1
  rw [q2] at I1
  obtain ⟨t, rfl⟩ := r1
  refine thn (hb.run pins s1 σ H _ I1 h) fun u s2 ⟨y, H2, I2, r2, i, e2, q2⟩ => ?_
  subst e2
  obtain ⟨t2, rfl⟩ := r2
  refine le_int (wpAny_truthy_bool ?_)
  dsimp only at q2
  cases k : decide (lo ≤ i) with
  | false =>
    rw [k] at q2
    exact ite_ff ⟨.bl false, H2, I2, rfl, q2⟩
  | true =>
    rw [k] at q2
    refine ite_tt (chain_last (thn (hc.run pins s2 σ H2 (fun v H1 => v = .int hi ∧ H1 = H2) I2 ⟨rfl, rfl⟩) fun w' s4 ⟨z', H4, I4, r4, q4⟩ => ?_))
    obtain ⟨q4, q5⟩ := q4
    subst q4
    rw [q5] at I4
    obtain ⟨t3, rfl⟩ := r4
    exact le_int ⟨.bl _, H2, I4, rfl, q2⟩
/-- e & c, c = m - 1, m a power of 2 -/
def rMask (c m : Int) : R2 := fun x y H Q => ∃ i, x = .int i ∧ y = .int c ∧ Q (.int (i % m)) H
theorem op_mask {c m : Int} (k : Nat) (hm : m = 2 ^ k) (hc : c = m - 1) : OpR X (binaryOp .BitAnd) (rMask c m) := by
  intro pins s σ H x y v u Q I rx ry h
  obtain ⟨i, rfl, rfl, q⟩ := h
  subst hm
  subst hc
  exact op_andM pins s σ H _ _ v u Q I rx ry ⟨i, k, rfl, rfl, q⟩
/-- e // m -/
def rDivK (m : Int) : R2 := fun x y H Q => ∃ i, x = .int i ∧ y = .int m ∧ Q (.int (i / m)) H
theorem op_fdivK {m : Int} (h1 : 0 < m) (h2 : m < 1073741824) : OpR X (binaryOp .FloorDiv) (rDivK m) := by
  intro pins s σ H x y v u Q I rx ry h
  obtain ⟨i, rfl, rfl, q⟩ := h
  exact op_fdiv pins s σ H _ _ v u Q I rx ry ⟨i, m, rfl, rfl, ⟨h1, h2⟩, q⟩
theorem op_fdivG {m : Int} (b : Nat) (h1 : 0 < m) (h2 : m.natAbs < 2 ^ b) (h3 : 0 < b) (h4 : b ≤ 9000) : OpR X (binaryOp .FloorDiv) (rDivK m) := by
  intro pins s σ H x y v u Q I rx ry h
  obtain ⟨i, rfl, rfl, q⟩ := h
  exact op_fdivW pins s σ H _ _ v u Q I rx ry ⟨i, m, rfl, rfl, wide_div h1 h2 h3 h4, q⟩
def rModK (m : Int) : R2 := fun x y H Q => ∃ i, x = .int i ∧ y = .int m ∧ Q (.int (i % m)) H
theorem op_modK {m : Int} (h1 : 0 < m) : OpR X (binaryOp .Mod) (rModK m) := by
  intro pins s σ H x y v u Q I rx ry h
  obtain ⟨i, rfl, rfl, q⟩ := h
  exact op_mod pins s σ H _ _ v u Q I rx ry ⟨i, m, rfl, rfl, h1, q⟩
/-- e >> k -/
def rShrK (c : Int) (k : Nat) : R2 := fun x y H Q => ∃ i, x = .int i ∧ y = .int c ∧ Q (.int (i / 2 ^ k)) H
theorem op_shrK {c : Int} (k : Nat) (hc : c = (k : Int)) : OpR X (binaryOp .RShift) (rShrK c k) := by
  intro pins s σ H x y v u Q I rx ry h
  obtain ⟨i, rfl, rfl, q⟩ := h
  subst hc
  exact op_shrN pins s σ H _ _ v u Q I rx ry ⟨i, k, rfl, rfl, q⟩
/-- e * m, m small -/
def rMulK (m : Int) : R2 := fun x y H Q => ∃ i, x = .int i ∧ y = .int m ∧ Q (.int (i * m)) H
def rMulL (m : Int) : R2 := fun x y H Q => ∃ i, x = .int m ∧ y = .int i ∧ Q (.int (m * i)) H
theorem op_mulK {m : Int} (h1 : -(2 ^ 64) < m) (h2 : m < 2 ^ 64) : OpR X (binaryOp .Mult) (rMulK m) := by
  intro pins s σ H x y v u Q I rx ry h
  obtain ⟨i, rfl, rfl, q⟩ := h
  exact op_mul pins s σ H _ _ v u Q I rx ry ⟨i, m, rfl, rfl, .inr ⟨h1, h2⟩, q⟩
theorem op_mulL {m : Int} (h1 : -(2 ^ 64) < m) (h2 : m < 2 ^ 64) : OpR X (binaryOp .Mult) (rMulL m) := by
  intro pins s σ H x y v u Q I rx ry h
  obtain ⟨i, rfl, rfl, q⟩ := h
  exact op_mul pins s σ H _ _ v u Q I rx ry ⟨m, i, rfl, rfl, .inl ⟨h1, h2⟩, q⟩
end
/-! ### values (Evl) of these -/
section
open Evl
variable {K : PySem.W.Frag} {σ : L2.St} {H H' : Hp} {ta tb te tx : TE} {t u : TT} {x y z v : V} {i : Int}
theorem rv_mask {c m : Int} : RV (rMask c m) (.int i) (.int c) H (.int (i % m)) := rv_val fun _ _ _ q => ⟨_, rfl, rfl, q⟩
theorem rv_divK {m : Int} : RV (rDivK m) (.int i) (.int m) H (.int (i / m)) := rv_val fun _ _ _ q => ⟨_, rfl, rfl, q⟩
theorem rv_modK {m : Int} : RV (rModK m) (.int i) (.int m) H (.int (i % m)) := rv_val fun _ _ _ q => ⟨_, rfl, rfl, q⟩
theorem rv_shrK {c : Int} {k : Nat} : RV (rShrK c k) (.int i) (.int c) H (.int (i / 2 ^ k)) := rv_val fun _ _ _ q => ⟨_, rfl, rfl, q⟩
theorem rv_mulK {m : Int} : RV (rMulK m) (.int i) (.int m) H (.int (i * m)) := rv_val fun _ _ _ q => ⟨_, rfl, rfl, q⟩
theorem rv_mulL {m : Int} : RV (rMulL m) (.int m) (.int i) H (.int (m * i)) := rv_val fun _ _ _ q => ⟨_, rfl, rfl, q⟩
theorem ev_rng {p : Int → Bool} (h : Ev te σ H (.int i)) : Ev (tRng p te) σ H (.bl (p i)) := fun H1 e Q q => h H1 e _ fun H2 e2 => ⟨i, rfl, q H2 e2⟩
theorem ev_isB {n : String} {b : Bool} (h : Ev te σ H x) (k : ∀ H1, Ex H H1 → isB n x H1 b) : Ev (tCB rIsB (tCons te (tCons (tC (.ty n)) tNil))) σ H (.bl b) :=
  fun H1 e Q q => h H1 e _ fun H2 e2 => ⟨x, n, b, rfl, k H2 (e.trans e2), q H2 e2⟩
theorem ev_isBii (h : Ev te σ H (.int i)) : Ev (tCB rIsB (tCons te (tCons (tC (.ty "int")) tNil))) σ H (.bl true) := ev_isB h fun _ _ => isB_ii
theorem ev_isBib (h : Ev te σ H (.int i)) : Ev (tCB rIsB (tCons te (tCons (tC (.ty "bool")) tNil))) σ H (.bl false) := ev_isB h fun _ _ => isB_ib
theorem ev_isBit (h : Ev te σ H (.int i)) : Ev (tCB rIsB (tCons te (tCons (tC (.ty "tuple")) tNil))) σ H (.bl false) := ev_isB h fun _ _ => isB_it
theorem ev_isBss {z : Str} (h : Ev te σ H (.str z)) : Ev (tCB rIsB (tCons te (tCons (tC (.ty "str")) tNil))) σ H (.bl true) := ev_isB h fun _ _ => isB_ss
theorem ev_isBtt {a : Addr} {xs : List V} (h : Ev te σ H (.ref a)) (k : H a = some (.tup xs)) : Ev (tCB rIsB (tCons te (tCons (tC (.ty "tuple")) tNil))) σ H (.bl true) := ev_isB h fun _ e => isB_tt (e _ _ k)
theorem ev_isBtl {a : Addr} {xs : List V} (h : Ev te σ H (.ref a)) (k : H a = some (.tup xs)) : Ev (tCB rIsB (tCons te (tCons (tC (.ty "list")) tNil))) σ H (.bl false) := ev_isB h fun _ e => isB_tl (e _ _ k)
theorem ev_isBll {a : Addr} {xs : List V} (h : Ev te σ H (.ref a)) (k : H a = some (.lst xs)) : Ev (tCB rIsB (tCons te (tCons (tC (.ty "list")) tNil))) σ H (.bl true) := ev_isB h fun _ e => isB_ll (e _ _ k)
/-- len of a tracked tuple, list -/
theorem ev_lenT {a : Addr} {xs : List V} (h : Ev te σ H (.ref a)) (k : H a = some (.tup xs)) : Ev (tCB (fun xs H Q => ∃ x n, xs = [x] ∧ LenV K x H n ∧ Q (.int n) H) (tCons te tNil)) σ H (.int (xs.length : Nat)) :=
  fun H1 e Q q => h H1 e _ fun H2 e2 => ⟨.ref a, xs.length, rfl, .inr ⟨xs, SqT.of ((e.trans e2) _ _ k), rfl⟩, q H2 e2⟩
theorem ev_lenL {a : Addr} {xs : List V} (h : Ev te σ H (.ref a)) (k : H a = some (.lst xs)) : Ev (tCB (fun xs H Q => ∃ x n, xs = [x] ∧ LenV K x H n ∧ Q (.int n) H) (tCons te tNil)) σ H (.int (xs.length : Nat)) :=
  fun H1 e Q q => h H1 e _ fun H2 e2 => ⟨.ref a, xs.length, rfl, .inl ⟨xs, SqL.of ((e.trans e2) _ _ k), rfl⟩, q H2 e2⟩
/-- a field of an instance -/
theorem ev_fld {a C dx : Addr} {fs : List (Str × V)} {f : Str} (h : Ev te σ H (.ref a)) (k : H a = some (.ins C dx fs)) (c : Cls K C) (n : NoAttr K C f) (l : fs.lookup f = some v) : Ev (tFld K te f) σ H v :=
  fun H1 e Q q => h H1 e _ fun H2 e2 => ⟨a, C, dx, fs, v, rfl, (e.trans e2) _ _ k, c, n, l, q H2 e2⟩
theorem ev_and0 {a b : Bool} (h1 : Ev ta σ H (.bl a)) (h2 : Ev tb σ H (.bl b)) : Ev (tAndV ta tb) σ H (.bl (a && b)) := ev_andV h1 fun _ => h2
theorem ev_or0 {a b : Bool} (h1 : Ev ta σ H (.bl a)) (h2 : Ev tb σ H (.bl b)) : Ev (tOrV ta tb) σ H (.bl (a || b)) := ev_orV h1 fun _ => h2
theorem et_and0 {a b : Bool} (h1 : EvT t σ H a) (h2 : EvT u σ H b) : EvT (tAnd t u) σ H (a && b) := et_and h1 fun _ => h2
theorem et_or0 {a b : Bool} (h1 : EvT t σ H a) (h2 : EvT u σ H b) : EvT (tOr t u) σ H (a || b) := et_or h1 fun _ => h2
theorem s_retE (h : Ev te σ H v) {D : Ends} (k : RetV v H D.rt) : tRet te D σ H := s_ret h fun _ e => k _ e
theorem ra {Q : VK} {H1 : Hp} (k : RetV v H Q) (e : Ex H H1) : RetV v H1 Q := fun _ e2 => k _ (e.trans e2)
theorem ex_up {a : Addr} {o : HO} (e : Ex H H') (h : H a = some o) : H' a = some o := e _ _ h
end
end Kx
set_option Elab.async false
set_option linter.all false
set_option maxRecDepth 100000
set_option maxHeartbeats 2000000
namespace Kx
open PySem PySem.Spec PyProof.Rows L2 Evl
open He (ga ma)
/-! ### comprehensions -/
/-- at D, new since H1, the list ys; the rest as in H1 -/
structure CI (H1 : Hp) (D : Addr) (ys : List V) (H' : Hp) : Prop where
  new : H1 D = none
  ex : Ex H1 H'
  at_ : H' D = some (.lst ys)
section
variable {K : PySem.W.Frag} {σ : L2.St} {H H1 H' : Hp} {D : Addr} {ta tb te tl : TE} {t : TT} {j : Nat} {vs : List Nat} {a : Addr}
theorem CI.turn {ys ys2 : List V} {b : Bool} {y : V} (c : CI H1 D ys H') (sz : ys.length < sizeLine) (ht : EvT t σ H1 b) (he : b = true → Ev te σ H1 y) (h2 : ys2 = if b = true then ys ++ [y] else ys) :
    t σ H' fun b H3 => if b = true then te σ H3 fun y H4 => ∃ acc, H4 D = some (.lst acc) ∧ acc.length < sizeLine ∧ CI H1 D ys2 (upd H4 D (.lst (acc ++ [y]))) else CI H1 D ys2 H3 := by
  refine ht H' c.ex _ fun H3 e3 => ?_
  cases b with
  | false =>
    rw [if_neg (by decide)] at h2 ⊢
    subst h2
    exact ⟨c.new, c.ex.trans e3, e3 _ _ c.at_⟩
  | true =>
    rw [if_pos rfl] at h2 ⊢
    subst h2
    exact he rfl H3 (c.ex.trans e3) _ fun H4 e4 => ⟨ys, (e3.trans e4) _ _ c.at_, sz, c.new, Ex.mut ((c.ex.trans e3).trans e4) c.new, upd_same⟩
theorem et_yes : EvT tYes σ H true := fun H1 _ _ q => q H1 (Ex.refl _)
theorem take_step {α β : Type} (p : α → Bool) (g : α → β) {xs : List α} {i : Nat} {x : α} (h : xs[i]? = some x) : ((xs.take (i + 1)).filter p).map g = if p x = true then ((xs.take i).filter p).map g ++ [g x] else ((xs.take i).filter p).map g := by
  rw [List.take_add_one, h, Option.toList_some, List.filter_append, List.map_append]
  cases k : p x with
  | true =>
    rw [if_pos rfl]
    simp [List.filter, k]
  | false =>
    rw [if_neg (by decide)]
    simp [List.filter, k]
theorem take_size {α β : Type} (p : α → Bool) (g : α → β) (xs : List α) (i : Nat) (hz : xs.length ≤ 40000) : (((xs.take i).filter p).map g).length < sizeLine := by
  rw [List.length_map]
  have h1 := List.length_filter_le p (xs.take i)
  have h2 : (xs.take i).length ≤ xs.length := List.length_take_le' i xs
  exact sz_lt (by omega)
/-- over a tuple -/
theorem lc_t {xs : List V} (p : V → Bool) (g : V → V) (h : Ev tl σ H (.ref a)) (hx : H a = some (.tup xs)) (hz : xs.length ≤ 40000) (hw : ∀ x, wipe ((wipe σ vs).set j (some x)) vs = wipe σ vs)
    (ht : ∀ x, x ∈ xs → ∀ H1, Ex H H1 → EvT t ((wipe σ vs).set j (some x)) H1 (p x)) (he : ∀ x, x ∈ xs → ∀ H1, Ex H H1 → p x = true → Ev te ((wipe σ vs).set j (some x)) H1 (g x)) :
    EvL (tLc (iTup K tl) (gName j) t te vs) σ H ((xs.filter p).map g) := by
  intro H0 e Q q
  refine h H0 e _ fun H1 e1 => ⟨a, rfl, ⟨xs, SqT.of ((e.trans e1) _ _ hx)⟩, fun D hD => ?_⟩
  refine lc_tup (xs := xs) (fun i H' => CI H1 D (((xs.take i).filter p).map g) H') ⟨hD, Ex.new hD, upd_same⟩ (fun i H' _ c => SqT.of (c.ex _ _ ((e.trans e1) _ _ hx))) (fun i x H' hi c => ?_) (fun H' c => ?_)
  · have m : x ∈ xs := List.mem_of_getElem? hi
    exact ⟨hw x, c.turn (take_size p g xs i hz) (ht x m H1 (e.trans e1)) (he x m H1 (e.trans e1)) (take_step p g hi)⟩
  · refine q D H' (fresh_back e1 c.new) (e1.trans c.ex) ?_
    have z := c.at_
    rw [List.take_length] at z
    exact z
/-- over a list -/
theorem lc_l {xs : List V} (p : V → Bool) (g : V → V) (h : Ev tl σ H (.ref a)) (hx : H a = some (.lst xs)) (hz : xs.length ≤ 40000) (hw : ∀ x, wipe ((wipe σ vs).set j (some x)) vs = wipe σ vs)
    (ht : ∀ x, x ∈ xs → ∀ H1, Ex H H1 → EvT t ((wipe σ vs).set j (some x)) H1 (p x)) (he : ∀ x, x ∈ xs → ∀ H1, Ex H H1 → p x = true → Ev te ((wipe σ vs).set j (some x)) H1 (g x)) :
    EvL (tLc (iList K tl) (gName j) t te vs) σ H ((xs.filter p).map g) := by
  intro H0 e Q q
  refine h H0 e _ fun H1 e1 => ⟨a, rfl, ⟨xs, SqL.of ((e.trans e1) _ _ hx)⟩, fun D hD => ?_⟩
  refine lc_list (xs := xs) (fun i H' => CI H1 D (((xs.take i).filter p).map g) H') ⟨hD, Ex.new hD, upd_same⟩ (fun i H' _ c => SqL.of (c.ex _ _ ((e.trans e1) _ _ hx))) (fun i x H' hi c => ?_) (fun H' c => ?_)
  · have m : x ∈ xs := List.mem_of_getElem? hi
    exact ⟨hw x, c.turn (take_size p g xs i hz) (ht x m H1 (e.trans e1)) (he x m H1 (e.trans e1)) (take_step p g hi)⟩
  · refine q D H' (fresh_back e1 c.new) (e1.trans c.ex) ?_
    have z := c.at_
    rw [List.take_length] at z
    exact z
/-- over range(n) -/
theorem lc_r {ta : TA} {n : Nat} (p : Nat → Bool) (g : Nat → V) (h : EvA ta σ H [.int n]) (hz : n ≤ 40000) (hw : ∀ x, wipe ((wipe σ vs).set j (some x)) vs = wipe σ vs)
    (ht : ∀ i, i < n → ∀ H1, Ex H H1 → EvT t ((wipe σ vs).set j (some (.int (i : Nat)))) H1 (p i)) (he : ∀ i, i < n → ∀ H1, Ex H H1 → p i = true → Ev te ((wipe σ vs).set j (some (.int (i : Nat)))) H1 (g i)) :
    EvL (tLc (iRng1 ta) (gName j) t te vs) σ H (((List.range n).filter p).map g) := by
  intro H0 e Q q
  refine h H0 e _ fun H1 e1 => ⟨(n : Int), rfl, by omega, by omega, fun D hD => ?_⟩
  refine lc_range (lo := 0) (n := (n : Int).toNat) (fun i H' => CI H1 D ((((List.range n).take i).filter p).map g) H') ⟨hD, Ex.new hD, upd_same⟩ (fun i H' hi c => ?_) (fun H' c => ?_)
  · have hi' : i < n := by omega
    have hg : (List.range n)[i]? = some i := by rw [List.getElem?_range hi']
    refine ⟨?_, ?_⟩
    · exact hw _
    · have k : (.int ((0 : Int) + (i : Nat)) : V) = .int (i : Nat) := by rw [Int.zero_add]
      rw [k]
      exact c.turn (take_size p g _ i (by rw [List.length_range]; exact hz)) (ht i hi' H1 (e.trans e1)) (he i hi' H1 (e.trans e1)) (take_step p g hg)
  · refine q D H' (fresh_back e1 c.new) (e1.trans c.ex) ?_
    have z := c.at_
    have k : (List.range n).take ((n : Int).toNat) = List.range n := by
      have := List.take_length (l := List.range n)
      rw [List.length_range] at this
      exact this
    rw [k] at z
    exact z
theorem filter_tt {α : Type} (xs : List α) : xs.filter (fun _ => true) = xs := by
  induction xs with
  | nil => rfl
  | cons x r ih => simp [List.filter]
/-- without an if -/
theorem lc_t0 {xs : List V} (g : V → V) (h : Ev tl σ H (.ref a)) (hx : H a = some (.tup xs)) (hz : xs.length ≤ 40000) (hw : ∀ x, wipe ((wipe σ vs).set j (some x)) vs = wipe σ vs)
    (he : ∀ x, x ∈ xs → ∀ H1, Ex H H1 → Ev te ((wipe σ vs).set j (some x)) H1 (g x)) : EvL (tLc (iTup K tl) (gName j) tYes te vs) σ H (xs.map g) := by
  have z := lc_t (K := K) (te := te) (t := tYes) (j := j) (vs := vs) (fun _ => true) g h hx hz hw (fun _ _ _ _ => et_yes) (fun x m H1 e _ => he x m H1 e)
  rw [filter_tt] at z
  exact z
theorem lc_l0 {xs : List V} (g : V → V) (h : Ev tl σ H (.ref a)) (hx : H a = some (.lst xs)) (hz : xs.length ≤ 40000) (hw : ∀ x, wipe ((wipe σ vs).set j (some x)) vs = wipe σ vs)
    (he : ∀ x, x ∈ xs → ∀ H1, Ex H H1 → Ev te ((wipe σ vs).set j (some x)) H1 (g x)) : EvL (tLc (iList K tl) (gName j) tYes te vs) σ H (xs.map g) := by
  have z := lc_l (K := K) (te := te) (t := tYes) (j := j) (vs := vs) (fun _ => true) g h hx hz hw (fun _ _ _ _ => et_yes) (fun x m H1 e _ => he x m H1 e)
  rw [filter_tt] at z
  exact z
theorem lc_r0 {ta : TA} {n : Nat} (g : Nat → V) (h : EvA ta σ H [.int n]) (hz : n ≤ 40000) (hw : ∀ x, wipe ((wipe σ vs).set j (some x)) vs = wipe σ vs)
    (he : ∀ i, i < n → ∀ H1, Ex H H1 → Ev te ((wipe σ vs).set j (some (.int (i : Nat)))) H1 (g i)) : EvL (tLc (iRng1 ta) (gName j) tYes te vs) σ H ((List.range n).map g) := by
  have z := lc_r (te := te) (t := tYes) (j := j) (vs := vs) (fun _ => true) g h hz hw (fun _ _ _ _ => et_yes) (fun i m H1 e _ => he i m H1 e)
  rw [filter_tt] at z
  exact z
/-! ### more values -/
theorem ev_allL {bs : List Bool} (h : EvL te σ H (bs.map V.bl)) : Ev (tCB (rAll K) (tCons te tNil)) σ H (.bl (bs.all id)) :=
  fun H0 e Q q => h H0 e _ fun p H2 _ e2 hp => ⟨p, bs, rfl, SqL.of hp, q H2 e2⟩
theorem all_map {α : Type} (xs : List α) (p : α → Bool) : (xs.map p).all id = xs.all p := by
  induction xs with
  | nil => rfl
  | cons x r ih => simp [List.all_map]
/-- all([e for x in t]) -/
theorem ev_allT {xs : List V} (p : V → Bool) (h : Ev tl σ H (.ref a)) (hx : H a = some (.tup xs)) (hz : xs.length ≤ 40000) (hw : ∀ x, wipe ((wipe σ vs).set j (some x)) vs = wipe σ vs)
    (he : ∀ x, x ∈ xs → ∀ H1, Ex H H1 → Ev te ((wipe σ vs).set j (some x)) H1 (.bl (p x))) : Ev (tCB (rAll K) (tCons (tLc (iTup K tl) (gName j) tYes te vs) tNil)) σ H (.bl (xs.all p)) := by
  have z := lc_t0 (K := K) (te := te) (j := j) (vs := vs) (fun x => .bl (p x)) h hx hz hw he
  have k : xs.map (fun x => V.bl (p x)) = (xs.map p).map V.bl := by rw [List.map_map]; rfl
  have y := ev_allL (K := K) (bs := xs.map p) (k ▸ z)
  rw [all_map] at y
  exact y
/-- tuple(e), e a new list -/
theorem eu_tupleL {xs : List V} (h : EvL te σ H xs) : EvU (tCB (fun xs H Q => ∃ p ys, xs = [.ref p] ∧ ((SqL K H p ys ∧ ∀ l, H l = none → Q (.ref l) (upd H l (.tup ys))) ∨ (SqT K H p ys ∧ Q (.ref p) H))) (tCons te tNil)) σ H xs :=
  fun H0 e Q q => h H0 e _ fun p H2 _ e2 hp => ⟨p, xs, rfl, .inl ⟨SqL.of hp, fun l hl => q l _ (fresh_back e2 hl) (e2.trans (Ex.new hl)) upd_same⟩⟩
/-- .. e a tracked list -/
theorem eu_tuple {xs : List V} (h : Ev te σ H (.ref a)) (k : H a = some (.lst xs)) : EvU (tCB (fun xs H Q => ∃ p ys, xs = [.ref p] ∧ ((SqL K H p ys ∧ ∀ l, H l = none → Q (.ref l) (upd H l (.tup ys))) ∨ (SqT K H p ys ∧ Q (.ref p) H))) (tCons te tNil)) σ H xs :=
  fun H0 e Q q => h H0 e _ fun H2 e2 => ⟨a, xs, rfl, .inl ⟨SqL.of ((e.trans e2) _ _ k), fun l hl => q l _ (fresh_back e2 hl) (e2.trans (Ex.new hl)) upd_same⟩⟩
/-- list(e) -/
theorem el_listT {xs : List V} (h : Ev te σ H (.ref a)) (k : H a = some (.tup xs)) : EvL (tCB (fun xs H Q => ∃ p ys, xs = [.ref p] ∧ (SqL K H p ys ∨ SqT K H p ys) ∧ ∀ l, H l = none → Q (.ref l) (upd H l (.lst ys))) (tCons te tNil)) σ H xs :=
  fun H0 e Q q => h H0 e _ fun H2 e2 => ⟨a, xs, rfl, .inr (SqT.of ((e.trans e2) _ _ k)), fun l hl => q l _ (fresh_back e2 hl) (e2.trans (Ex.new hl)) upd_same⟩
theorem el_listL {xs : List V} (h : Ev te σ H (.ref a)) (k : H a = some (.lst xs)) : EvL (tCB (fun xs H Q => ∃ p ys, xs = [.ref p] ∧ (SqL K H p ys ∨ SqT K H p ys) ∧ ∀ l, H l = none → Q (.ref l) (upd H l (.lst ys))) (tCons te tNil)) σ H xs :=
  fun H0 e Q q => h H0 e _ fun H2 e2 => ⟨a, xs, rfl, .inl (SqL.of ((e.trans e2) _ _ k)), fun l hl => q l _ (fresh_back e2 hl) (e2.trans (Ex.new hl)) upd_same⟩
/-- a[i] of a tracked tuple, list -/
theorem ev_ixT {xs : List V} {i : Int} {v : V} (h : Ev te σ H (.ref a)) (k : H a = some (.tup xs)) (hb : Ev tb σ H (.int i)) (l : atI xs i = some v) : Ev (tOp (rIxT K) te tb) σ H v := ev_op h hb (rv_ixT (SqT.of k) l)
theorem ev_ixL {xs : List V} {i : Int} {v : V} (h : Ev te σ H (.ref a)) (k : H a = some (.lst xs)) (hb : Ev tb σ H (.int i)) (l : atI xs i = some v) : Ev (tOp (rIxL K) te tb) σ H v := ev_op h hb (rv_ixL (SqL.of k) l)
/-- a constant's place -/
theorem ev_chain {r r' : R2} {tc : TE} {x y z : V} {k k2 : Bool} (h1 : Ev ta σ H x) (h2 : Ev tb σ H y) (h3 : RV r x y H (.bl k)) (h4 : Ev tc σ H z) (h5 : RV r' y z H (.bl k2)) : Ev (tChain r r' ta tb tc) σ H (.bl (k && k2)) := by
  intro H0 e Q q
  refine h1 H0 e _ fun H1 e1 => h2 H1 (e.trans e1) _ fun H2 e2 => h3 H2 ((e.trans e1).trans e2) _ fun H3 e3 => ⟨k, rfl, ?_⟩
  cases k with
  | false => exact q H3 ((e1.trans e2).trans e3)
  | true => exact h4 H3 (((e.trans e1).trans e2).trans e3) _ fun H4 e4 => h5 H4 ((((e.trans e1).trans e2).trans e3).trans e4) _ fun H5 e5 => q H5 ((((e1.trans e2).trans e3).trans e4).trans e5)
/-- e1 if c else e2, ints -/
theorem ev_ifI {b : Bool} {i k : Int} (h : EvT t σ H b) (h1 : Ev ta σ H (.int i)) (h2 : Ev tb σ H (.int k)) : Ev (tIf t ta tb) σ H (.int (if b = true then i else k)) :=
  ev_if h (fun e => by rw [if_pos e]; exact h1) (fun e => by rw [if_neg (by rw [e]; decide)]; exact h2)
/-- a, b = e1, e2 -/
theorem q_par {i k : Nat} {tz : TS} {D : Ends} {ta : TA} {v u : V} (h : EvA ta σ H [v, u]) (c : ∀ H1, Ex H H1 → tz D ((σ.set i (some v)).set k (some u)) H1) : tSeq (tPar i k ta) tz D σ H := h H (Ex.refl _) _ fun H1 e1 => ⟨v, u, rfl, c H1 e1⟩
theorem s_par {i k : Nat} {D : Ends} {ta : TA} {v u : V} (h : EvA ta σ H [v, u]) (c : ∀ H1, Ex H H1 → D.nx ((σ.set i (some v)).set k (some u)) H1) : tPar i k ta D σ H := h H (Ex.refl _) _ fun H1 e1 => ⟨v, u, rfl, c H1 e1⟩
/-- a tuple of these at some place -/
def EvW (te : TE) (σ : L2.St) (H : Hp) (xs : List V) : Prop := ∀ H1, Ex H H1 → ∀ Q : VK, (∀ p H2, Ex H1 H2 → H2 p = some (.tup xs) → Q (.ref p) H2) → te σ H1 Q
theorem ew_of {xs : List V} (h : EvU te σ H xs) : EvW te σ H xs := fun H1 e Q q => h H1 e Q fun p H2 _ => q p H2
theorem ew_at {xs : List V} (h : Ev te σ H (.ref a)) (k : H a = some (.tup xs)) : EvW te σ H xs := fun H1 e Q q => h H1 e Q fun H2 e2 => q a H2 e2 ((e.trans e2) _ _ k)
theorem ew_tup {ta : TA} {vs : List V} (h : EvA ta σ H vs) (hl : vs.length ≤ 100000) : EvW (tTup ta) σ H vs := ew_of (eu_tup h hl)
theorem ew_is {xs ys : List V} (h : EvW te σ H xs) (e : xs = ys) : EvW te σ H ys := e ▸ h
def RetU (xs : List V) (H : Hp) (Q : VK) : Prop := ∀ p H2, Ex H H2 → H2 p = some (.tup xs) → Q (.ref p) H2
theorem rau {xs : List V} {Q : VK} (k : RetU xs H Q) (e : Ex H H1) : RetU xs H1 Q := fun p H2 e2 h2 => k p H2 (e.trans e2) h2
theorem s_retW {xs : List V} {D : Ends} (h : EvW te σ H xs) (k : RetU xs H D.rt) : tRet te D σ H := h H (Ex.refl _) _ k
theorem s_retUE {xs : List V} {D : Ends} (h : EvU te σ H xs) (k : RetU xs H D.rt) : tRet te D σ H := s_retW (ew_of h) k
def SpU (sp : Sp) (vs : List V) (H : Hp) (xs : List V) : Prop := ∀ H1, Ex H H1 → ∀ Q : VK, RetU xs H1 Q → ∀ E : XK, sp vs H1 Q E
theorem ew_call {sp : Sp} {dvs vs xs : List V} {E : XK} {ta : TA} (h : EvA ta σ H vs) (hs : SpU sp (vs ++ dvs) H xs) : EvW (tCall sp dvs E ta) σ H xs :=
  fun H0 e Q q => h H0 e _ fun H2 e2 => hs H2 (e.trans e2) _ (fun p H3 e3 h3 => q p H3 (e2.trans e3) h3) E
theorem q_asgW {i : Nat} {xs : List V} {D : Ends} {tz : TS} (h : EvW te σ H xs) (k : ∀ p H1, Ex H H1 → H1 p = some (.tup xs) → tz D (σ.set i (some (.ref p))) H1) : tSeq (tAsg te (gName i)) tz D σ H := h H (Ex.refl _) _ k
theorem s_asgW {i : Nat} {xs : List V} {D : Ends} (h : EvW te σ H xs) (k : ∀ p H1, Ex H H1 → H1 p = some (.tup xs) → D.nx (σ.set i (some (.ref p))) H1) : tAsg te (gName i) D σ H := h H (Ex.refl _) _ k
/-- an item, a length of what is a tuple -/
theorem ev_ixW {xs : List V} {i : Int} {v : V} (h : EvW te σ H xs) (hb : Ev tb σ H (.int i)) (l : atI xs i = some v) : Ev (tOp (rIxT K) te tb) σ H v :=
  fun H0 e Q q => h H0 e _ fun p H2 e2 hp => hb H2 (e.trans e2) _ fun H3 e3 => ⟨p, xs, i, v, rfl, rfl, SqT.of (e3 _ _ hp), l, q H3 (e2.trans e3)⟩
theorem eu_is {xs ys : List V} (h : EvU te σ H xs) (e : xs = ys) : EvU te σ H ys := e ▸ h
theorem el_is {xs ys : List V} (h : EvL te σ H xs) (e : xs = ys) : EvL te σ H ys := e ▸ h
theorem ea_is {ta : TA} {xs ys : List V} (h : EvA ta σ H xs) (e : xs = ys) : EvA ta σ H ys := e ▸ h
/-- a call with a new tuple (list) among its arguments -/
theorem ev_callW {sp : Sp} {dvs xs : List V} {E : XK} {v : V} (h : EvW te σ H xs) (hs : ∀ p H1, Ex H H1 → H1 p = some (.tup xs) → SpV sp ([.ref p] ++ dvs) H1 v) : Ev (tCall sp dvs E (tCons te tNil)) σ H v :=
  fun H0 e Q q => h H0 e _ fun p H2 e2 hp => hs p H2 (e.trans e2) hp H2 (Ex.refl _) _ (fun H3 e3 => q H3 (e2.trans e3)) E
end
end Kx
namespace Kx
open PySem PySem.Spec PyProof.Rows L2 Evl
open He (ga ma)
section
variable {K : PySem.W.Frag} {σ : L2.St} {H H1 H' : Hp} {D : Addr} {ta tb te tl : TE} {t : TT} {j : Nat} {vs : List Nat} {a : Addr}
theorem q_parWW {i k : Nat} {tz : TS} {D : Ends} {xs ys : List V} (h1 : EvW ta σ H xs) (h2 : EvW tb σ H ys) (c : ∀ p q H1, Ex H H1 → H1 p = some (.tup xs) → H1 q = some (.tup ys) → tz D ((σ.set i (some (.ref p))).set k (some (.ref q))) H1) :
    tSeq (tPar i k (tCons ta (tCons tb tNil))) tz D σ H :=
  h1 H (Ex.refl _) _ fun p H1 e1 hp => h2 H1 e1 _ fun q H2 e2 hq => ⟨_, _, rfl, c p q H2 (e1.trans e2) (e2 _ _ hp) hq⟩
/-- f(a new tuple, e) -/
theorem ev_callWV {sp : Sp} {dvs xs : List V} {E : XK} {y v : V} (h : EvW te σ H xs) (h2 : Ev tb σ H y) (hs : ∀ p H1, Ex H H1 → H1 p = some (.tup xs) → SpV sp ([.ref p, y] ++ dvs) H1 v) : Ev (tCall sp dvs E (tCons te (tCons tb tNil))) σ H v :=
  fun H0 e Q q => h H0 e _ fun p H2 e2 hp => h2 H2 (e.trans e2) _ fun H3 e3 => hs p H3 ((e.trans e2).trans e3) (e3 _ _ hp) H3 (Ex.refl _) _ (fun H4 e4 => q H4 ((e2.trans e3).trans e4)) E
end
end Kx
namespace Kx
open PySem PySem.Spec PyProof.Rows L2 Evl
open He (ga ma)
/-! ### a def with *values -/
structure HasR (P : Program) (w : World) (K : PySem.W.Frag) (mg : Str → Option Value) (base : Heap) (CX : CXT) (x : Str) (k : Nat) (sp : Sp) : Prop where
  ex : ∃ f, FnR P w K mg base CX k f sp ∧ mg x = some (.ref f) ∧ PySem.W.keepIn K (.ref f) = true
section
variable {P : Program} {w : World} {K : PySem.W.Frag} {mg : Str → Option Value} {base : Heap}
theorem Tx.hasR (T : Tx K mg) (i j : Nat) {d : He5.DefA} {x pv : Str} {N : List Str} {k : Nat} {sp : Sp} (hd : fns[i]? = some d) (hj : glos[j]? = some x) (hx : d.at_ = fun K => ga K x) (S : FnScope N [pv] d.scope) (hdf : d.dfl = [])
    (hb : ∀ (kV doc pm : Value) (an : Option Addr) (cdv ct : Value) (rest : List Value), bindArgs (PySem.W.fnOf d.name d.qual d.params d.body d.scope .none kV doc pm an cdv ct) ⟨rest, []⟩ = (newTuple rest >>= fun t => pure [(pv, t)]))
    (hbody : ∀ (cdv : Value) (A : Around) (outer : List Env) (s : Shared) (H : Hp) (vs : List V) (Q : VK) (E : XK), Room k (A.deeper (envOfC d.qual d.scope s.heap.objs.size (ga K x) cdv)) → sp vs H Q E →
      ∃ t, PSs (cxOf CX0 P w K mg base N d.qual d.scope (ga K x) cdv A outer s H E).nox d.body t ∧ t { nx := fun _ H' => Q .non H', rt := Q } (start N vs) H) :
    HasR P w K mg base CX0 x (k + 1) (fun vs H Q E => vs.length ≤ sizeLine ∧ ∀ p, H p = none → sp [.ref p] (upd H p (.tup vs)) Q E) := by
  obtain ⟨fd, F⟩ := T.fn i d hd
  have e : d.at_ K = ga K x := by rw [hx]
  rw [e] at F
  have e2 : d.dvs K = [] := by unfold He5.DefA.dvs; rw [hdf]; rfl
  rw [e2] at F
  refine ⟨_, ?_, T.glo j x hj, F.kp⟩
  obtain ⟨oc, od, dV, kV, doc, pm, an, cdv, ct, osl, rfl, lk, hcd, hdv, _⟩ := F.ex
  obtain rfl : dV = .none := by
    rcases hdv with ⟨_, h⟩ | ⟨h, _⟩
    · exact h
    · exact absurd rfl h
  have G := StX.fn_star (P := P) (w := w) (mg := mg) (base := base) (CX := CX0) (k := k) (N := N) (ps := []) (pv := pv) (sp := sp) lk hcd S StX.cxUp_none
    (fun us rest h => by
      cases us with
      | nil => exact hb kV doc pm an cdv ct rest
      | cons _ _ => cases h)
    (fun A outer s H vs Q E hr h => by
      obtain ⟨t, h1, h2⟩ := hbody cdv A outer s H vs Q E hr h
      exact ⟨t, h1.nox, h2⟩)
  exact G.imp fun vs H Q E ⟨hl, h⟩ => ⟨[], vs, rfl, rfl, hl, h⟩
end
theorem HasR.imp {P : Program} {w : World} {K : PySem.W.Frag} {mg : Str → Option Value} {base : Heap} {CX : CXT} {x : Str} {k : Nat} {sp sp' : Sp} (h : HasR P w K mg base CX x k sp) (i : ∀ vs H Q E, sp' vs H Q E → sp vs H Q E) : HasR P w K mg base CX x k sp' := by
  obtain ⟨f, F, r⟩ := h.ex
  exact ⟨f, F.imp i, r⟩
section
variable {X : Cx} {CX : CXT} {k : Nat} {sp : Sp} {E : XK} {x : Str} {p pos : Pos} {e : Expr} {es : List Expr} {t : TA}
theorem pe_hR (h : HasR X.prog X.w X.K X.mg X.base CX x k sp) (hr : Room k X.A) (hx : Passes CX X E) (ha : PA X (e :: es) t) (hg : Gl X x := by rfl)
    (hd : (x == ("__debug__" : Str)) = false := by decide) (he : starEach (e :: es) X.env = (false, eval e X.env) :: starEach es X.env := by rfl) (hpl : (backTo pos (starEach es X.env)).any (·.1) = false := by rfl) :
    PE X (.Call (.Name x p) (e :: es) [] pos) (tCall sp [] E t) := by
  obtain ⟨f, F, hm, hk⟩ := h.ex
  refine ⟨fun pins s σ H Q I h => ?_⟩
  refine wpAny_Call_Name_kw (ld_glob I hg hm ?_ hd)
  refine PySem.W.callWith_K (h₀ := X.base) I.ok.mod.kin hk (thn (ha.run pos pins s σ H _ I h) fun us s1 ⟨vs, H1, I1, r, q⟩ => ⟨I1.kIn, ?_⟩) he hpl
  have q2 : sp (vs ++ []) H1 Q E := q
  rw [List.append_nil] at q2
  exact wpAny_call (run_fnR F hr hx I1 r q2)
end
section
variable {σ : L2.St} {H : Hp} {te : TE} {i : Int}
theorem ev_bits (h : Ev te σ H (.int i)) : Ev (tBits te) σ H (.int (Builtin.Int.intBits i : Nat)) := fun H1 e Q q => h H1 e _ fun H2 e2 => ⟨i, rfl, q H2 e2⟩
end
end Kx
set_option Elab.async false
set_option linter.all false
set_option maxRecDepth 100000
set_option maxHeartbeats 2000000
namespace Kx
open PySem PySem.Spec PyProof.Rows L2 Evl
open He (ga ma)
section
variable {P : Program} {w : World} {K : PySem.W.Frag} {mg : Str → Option Value} {base : Heap}
def N_is_integer : List Str := ["value"]
theorem sc_is_integer : FnScope N_is_integer ["value"] (defScope s_is_integer) := ⟨rfl, rfl, rfl, by decide +kernel, rfl, by decide +kernel, by decide +kernel⟩
theorem h_is_integer (T : Tx K mg) : Has P w K mg base CX0 "is_integer" 1 ["value"] (sp1 (fun _ => True) fun _ => .bl true) :=
  T.has 2 13 rfl rfl rfl sc_is_integer sp1_len rfl (fun | _, _, _, _, _, _, [_], _ => rfl) fun cdv A outer s H vs Q E hr h => by
    obtain ⟨i, rfl, _, h⟩ := h
    refine ⟨_, (pss_one (ps_ret (pe_and (pe_isB T 9 rfl boot_intT (pv 0)) (pe_one (pe_not (pe_isB T 10 rfl boot_boolT (pv 0))))))), ?_⟩
    refine s_retE ?_ h
    apply ev_is
    · (repeat' first
  | with_reducible exact ev_c | ((with_reducible apply ev_var) <;> exact rfl) | with_reducible exact rv_I0 | with_reducible exact rv_mask | with_reducible exact rv_divK | with_reducible exact rv_modK | with_reducible exact rv_shrK | with_reducible exact rv_mulK | with_reducible exact rv_mulL | with_reducible exact ea_nil
  | with_reducible apply ev_isB | (exact fun _ _ => isB_ii) | (exact fun _ _ => isB_ib) | (exact fun _ _ => isB_it) | (exact fun _ _ => isB_ss)
  | with_reducible apply ev_rng | with_reducible apply ev_chain | with_reducible apply ev_bits | with_reducible apply ev_ifI | with_reducible apply ev_op | with_reducible apply ev_un | with_reducible apply ev_and0 | with_reducible apply ev_or0 | with_reducible apply ev_notV
  | with_reducible apply et_B | with_reducible apply et_test | with_reducible apply et_and0 | with_reducible apply et_or0 | with_reducible apply et_not | with_reducible apply ea_cons | with_reducible apply ev_call
  | with_reducible exact rv_eq rfl | with_reducible exact rv_ne rfl | (refine spv1 ?_ <;> first | trivial | assumption) | (refine spv2 ?_ <;> first | trivial | assumption) | (refine spv3 ?_ <;> first | trivial | assumption))
    · rfl
def N_is_word : List Str := ["value"]
theorem sc_is_word : FnScope N_is_word ["value"] (defScope s_is_word) := ⟨rfl, rfl, rfl, by decide +kernel, rfl, by decide +kernel, by decide +kernel⟩
def isWord (i : Int) : Bool := decide (0 ≤ i) && decide (i < 4294967296)
theorem h_is_word (T : Tx K mg) : Has P w K mg base CX0 "is_word" 2 ["value"] (sp1 (fun _ => True) fun i => .bl (isWord i)) :=
  have h_is_integer := h_is_integer (P := P) (w := w) (base := base) T
  T.has 3 14 rfl rfl rfl sc_is_word sp1_len rfl (fun | _, _, _, _, _, _, [_], _ => rfl) fun cdv A outer s H vs Q E hr h => by
    obtain ⟨i, rfl, _, h⟩ := h
    refine ⟨_, (pss_one (ps_ret (pe_and (pe_h h_is_integer (hr.mono (by decide)) pass0 (pa_cons (pv 0) pa_nil)) (pe_one (pe_rng (lo := 0) (hi := 4294967296) pe_int (pv 0) (pe_num T 0 rfl)))))), ?_⟩
    refine s_retE ?_ h
    apply ev_is
    · (repeat' first
  | with_reducible exact ev_c | ((with_reducible apply ev_var) <;> exact rfl) | with_reducible exact rv_I0 | with_reducible exact rv_mask | with_reducible exact rv_divK | with_reducible exact rv_modK | with_reducible exact rv_shrK | with_reducible exact rv_mulK | with_reducible exact rv_mulL | with_reducible exact ea_nil
  | with_reducible apply ev_isB | (exact fun _ _ => isB_ii) | (exact fun _ _ => isB_ib) | (exact fun _ _ => isB_it) | (exact fun _ _ => isB_ss)
  | with_reducible apply ev_rng | with_reducible apply ev_chain | with_reducible apply ev_bits | with_reducible apply ev_ifI | with_reducible apply ev_op | with_reducible apply ev_un | with_reducible apply ev_and0 | with_reducible apply ev_or0 | with_reducible apply ev_notV
  | with_reducible apply et_B | with_reducible apply et_test | with_reducible apply et_and0 | with_reducible apply et_or0 | with_reducible apply et_not | with_reducible apply ea_cons | with_reducible apply ev_call
  | with_reducible exact rv_eq rfl | with_reducible exact rv_ne rfl | (refine spv1 ?_ <;> first | trivial | assumption) | (refine spv2 ?_ <;> first | trivial | assumption) | (refine spv3 ?_ <;> first | trivial | assumption))
    · rfl
def N_need_word : List Str := ["word"]
theorem sc_need_word : FnScope N_need_word ["word"] (defScope s_need_word) := ⟨rfl, rfl, rfl, by decide +kernel, rfl, by decide +kernel, by decide +kernel⟩
theorem h_need_word (T : Tx K mg) : Has P w K mg base CX0 "need_word" 3 ["word"] (sp1 (fun i => isWord i = true) fun _ => .non) :=
  have h_is_word := h_is_word (P := P) (w := w) (base := base) T
  T.has 4 15 rfl rfl rfl sc_need_word sp1_len rfl (fun | _, _, _, _, _, _, [_], _ => rfl) fun cdv A outer s H vs Q E hr h => by
    obtain ⟨i, rfl, c, h⟩ := h
    refine ⟨_, (pss_one (ps_if (pt_not (pt_val (pe_h h_is_word (hr.mono (by decide)) pass0 (pa_cons (pv 0) pa_nil)))) (pss_one ps_never) pss_nil)), ?_⟩
    refine s_when (b := false) ?_ (fun q => nomatch q) (fun _ H1 e1 => h _ e1)
    apply et_is
    · (repeat' first
  | with_reducible exact ev_c | ((with_reducible apply ev_var) <;> exact rfl) | with_reducible exact rv_I0 | with_reducible exact rv_mask | with_reducible exact rv_divK | with_reducible exact rv_modK | with_reducible exact rv_shrK | with_reducible exact rv_mulK | with_reducible exact rv_mulL | with_reducible exact ea_nil
  | with_reducible apply ev_isB | (exact fun _ _ => isB_ii) | (exact fun _ _ => isB_ib) | (exact fun _ _ => isB_it) | (exact fun _ _ => isB_ss)
  | with_reducible apply ev_rng | with_reducible apply ev_chain | with_reducible apply ev_bits | with_reducible apply ev_ifI | with_reducible apply ev_op | with_reducible apply ev_un | with_reducible apply ev_and0 | with_reducible apply ev_or0 | with_reducible apply ev_notV
  | with_reducible apply et_B | with_reducible apply et_test | with_reducible apply et_and0 | with_reducible apply et_or0 | with_reducible apply et_not | with_reducible apply ea_cons | with_reducible apply ev_call
  | with_reducible exact rv_eq rfl | with_reducible exact rv_ne rfl | (refine spv1 ?_ <;> first | trivial | assumption) | (refine spv2 ?_ <;> first | trivial | assumption) | (refine spv3 ?_ <;> first | trivial | assumption))
    · rw [c]; rfl
def ownTempered (i : Int) : Int := let y := Builtin.bitXor i (i / 2 ^ 13) * 3486784401 % 4294967296; Builtin.bitXor y (y / 2 ^ 16)
def N_own_tempered : List Str := ["word"]
theorem sc_own_tempered : FnScope N_own_tempered ["word"] (defScope s_own_tempered) := ⟨rfl, rfl, rfl, by decide +kernel, rfl, by decide +kernel, by decide +kernel⟩
theorem h_own_tempered (T : Tx K mg) : Has P w K mg base CX0 "own_tempered" 1 ["word"] (sp1 (fun _ => True) fun i => .int (ownTempered i)) :=
  T.has 5 16 rfl rfl rfl sc_own_tempered sp1_len rfl (fun | _, _, _, _, _, _, [_], _ => rfl) fun cdv A outer s H vs Q E hr h => by
    obtain ⟨i, rfl, c, h⟩ := h
    refine ⟨_, (pss_cons (ps_set (i := 0) sc_own_tempered.nd rfl (Or.inl rfl) (pe_op (op_mask (c := (4294967296 - 1)) (m := 4294967296) 32 (by decide) (by decide)) (pe_op (op_mulK (m := 3486784401) (by decide) (by decide)) (pe_op op_xor (pv 0) (pe_op (op_shrK (c := 13) 13 (by decide)) (pv 0) pe_int)) (pe_num T 1 rfl)) (pe_op op_sub (pe_num T 0 rfl) pe_int))) (pss_one (ps_ret (pe_op op_xor (pv 0) (pe_op (op_shrK (c := 16) 16 (by decide)) (pv 0) pe_int))))), ?_⟩
    refine q_asg (v := .int (Builtin.bitXor i (i / 2 ^ 13) * 3486784401 % 4294967296)) ?_ fun H1 e1 => s_retE ?_ (ra h e1)
    · (repeat' first
  | with_reducible exact ev_c | ((with_reducible apply ev_var) <;> exact rfl) | with_reducible exact rv_I0 | with_reducible exact rv_mask | with_reducible exact rv_divK | with_reducible exact rv_modK | with_reducible exact rv_shrK | with_reducible exact rv_mulK | with_reducible exact rv_mulL | with_reducible exact ea_nil
  | with_reducible apply ev_isB | (exact fun _ _ => isB_ii) | (exact fun _ _ => isB_ib) | (exact fun _ _ => isB_it) | (exact fun _ _ => isB_ss)
  | with_reducible apply ev_rng | with_reducible apply ev_chain | with_reducible apply ev_bits | with_reducible apply ev_ifI | with_reducible apply ev_op | with_reducible apply ev_un | with_reducible apply ev_and0 | with_reducible apply ev_or0 | with_reducible apply ev_notV
  | with_reducible apply et_B | with_reducible apply et_test | with_reducible apply et_and0 | with_reducible apply et_or0 | with_reducible apply et_not | with_reducible apply ea_cons | with_reducible apply ev_call
  | with_reducible exact rv_eq rfl | with_reducible exact rv_ne rfl | (refine spv1 ?_ <;> first | trivial | assumption) | (refine spv2 ?_ <;> first | trivial | assumption) | (refine spv3 ?_ <;> first | trivial | assumption))
    · apply ev_is
      · (repeat' first
  | with_reducible exact ev_c | ((with_reducible apply ev_var) <;> exact rfl) | with_reducible exact rv_I0 | with_reducible exact rv_mask | with_reducible exact rv_divK | with_reducible exact rv_modK | with_reducible exact rv_shrK | with_reducible exact rv_mulK | with_reducible exact rv_mulL | with_reducible exact ea_nil
  | with_reducible apply ev_isB | (exact fun _ _ => isB_ii) | (exact fun _ _ => isB_ib) | (exact fun _ _ => isB_it) | (exact fun _ _ => isB_ss)
  | with_reducible apply ev_rng | with_reducible apply ev_chain | with_reducible apply ev_bits | with_reducible apply ev_ifI | with_reducible apply ev_op | with_reducible apply ev_un | with_reducible apply ev_and0 | with_reducible apply ev_or0 | with_reducible apply ev_notV
  | with_reducible apply et_B | with_reducible apply et_test | with_reducible apply et_and0 | with_reducible apply et_or0 | with_reducible apply et_not | with_reducible apply ea_cons | with_reducible apply ev_call
  | with_reducible exact rv_eq rfl | with_reducible exact rv_ne rfl | (refine spv1 ?_ <;> first | trivial | assumption) | (refine spv2 ?_ <;> first | trivial | assumption) | (refine spv3 ?_ <;> first | trivial | assumption))
      · rfl
def N_tempered : List Str := ["word"]
theorem sc_tempered : FnScope N_tempered ["word"] (defScope s_tempered) := ⟨rfl, rfl, rfl, by decide +kernel, rfl, by decide +kernel, by decide +kernel⟩
theorem h_tempered (T : Tx K mg) : Has P w K mg base CX0 "tempered" 4 ["word"] (sp1 (fun i => isWord i = true) fun i => .int (ownTempered i)) :=
  have h_need_word := h_need_word (P := P) (w := w) (base := base) T
  have h_own_tempered := h_own_tempered (P := P) (w := w) (base := base) T
  T.has 6 17 rfl rfl rfl sc_tempered sp1_len rfl (fun | _, _, _, _, _, _, [_], _ => rfl) fun cdv A outer s H vs Q E hr h => by
    obtain ⟨i, rfl, c, h⟩ := h
    refine ⟨_, (pss_cons (ps_expr (pe_h h_need_word (hr.mono (by decide)) pass0 (pa_cons (pv 0) pa_nil))) (pss_one (ps_ret (pe_h h_own_tempered (hr.mono (by decide)) pass0 (pa_cons (pv 0) pa_nil))))), ?_⟩
    refine q_drop (v := .non) (ev_call (ea_cons (ev_var rfl) ea_nil) (spv1 c)) fun H1 e1 => s_retE (ev_call (ea_cons (ev_var rfl) ea_nil) (spv1 trivial)) (ra h e1)
end
end Kx
set_option Elab.async false
set_option linter.all false
set_option maxRecDepth 100000
set_option maxHeartbeats 2000000
namespace Kx
open PySem PySem.Spec PyProof.Rows L2 Evl
open He (ga ma)
section
variable {P : Program} {w : World} {K : PySem.W.Frag} {mg : Str → Option Value} {base : Heap}
abbrev iV (ws : List Int) : List V := ws.map V.int
theorem iV_get {ws : List Int} {i : Nat} {x : Int} (h : ws[i]? = some x) : (iV ws)[i]? = some (.int x) := by
  rw [List.getElem?_map, h]
  rfl
theorem mem_iV {ws : List Int} {x : V} (h : x ∈ iV ws) : ∃ i, i ∈ ws ∧ x = .int i := by
  obtain ⟨i, h1, h2⟩ := List.mem_map.mp h
  exact ⟨i, h1, h2.symm⟩
theorem iV_len {ws : List Int} : (iV ws).length = ws.length := List.length_map ..
def vWord : V → Bool
  | .int i => isWord i
  | _ => false
def OkWords (ws : List Int) : Prop := ∀ i, i ∈ ws → isWord i = true
theorem iV_words {ws : List Int} (h : OkWords ws) : (iV ws).all vWord = true := by
  refine List.all_eq_true.mpr fun x m => ?_
  obtain ⟨i, hi, rfl⟩ := mem_iV m
  exact h i hi
def okSteps (i : Int) : Prop := 0 ≤ i ∧ i ≤ 18446744073709551616
def N_need_steps : List Str := ["steps"]
theorem sc_need_steps : FnScope N_need_steps ["steps"] (defScope s_need_steps) := ⟨rfl, rfl, rfl, by decide +kernel, rfl, by decide +kernel, by decide +kernel⟩
theorem h_need_steps (T : Tx K mg) : Has P w K mg base CX0 "need_steps" 2 ["steps"] (sp1 okSteps fun _ => .non) :=
  have h_is_integer := h_is_integer (P := P) (w := w) (base := base) T
  T.has 7 18 rfl rfl rfl sc_need_steps sp1_len rfl (fun | _, _, _, _, _, _, [_], _ => rfl) fun cdv A outer s H vs Q E hr h => by
    obtain ⟨i, rfl, ⟨c1, c2⟩, h⟩ := h
    refine ⟨_, (pss_one (ps_if (PW.pt (pw_or (pt_not (pt_val (pe_h h_is_integer (hr.mono (by decide)) pass0 (pa_cons (pv 0) pa_nil)))) (pw_or1 (pt_not (pt_chain op_le op_le pe_int (pv 0) (pe_num T 2 rfl)))))) (pss_one ps_never) pss_nil)), ?_⟩
    refine s_when (b := false) ?_ (fun q => nomatch q) (fun _ H1 e1 => h _ e1)
    apply et_is
    · (repeat' first
  | with_reducible exact ev_c | ((with_reducible apply ev_var) <;> exact rfl) | with_reducible exact rv_I0 | with_reducible exact rv_mask | with_reducible exact rv_divK | with_reducible exact rv_modK | with_reducible exact rv_shrK | with_reducible exact rv_mulK | with_reducible exact rv_mulL | with_reducible exact ea_nil
  | with_reducible apply ev_isB | (exact fun _ _ => isB_ii) | (exact fun _ _ => isB_ib) | (exact fun _ _ => isB_it) | (exact fun _ _ => isB_ss)
  | with_reducible apply ev_rng | with_reducible apply ev_chain | with_reducible apply ev_bits | with_reducible apply ev_ifI | with_reducible apply ev_op | with_reducible apply ev_un | with_reducible apply ev_and0 | with_reducible apply ev_or0 | with_reducible apply ev_notV
  | with_reducible apply et_B | with_reducible apply et_test | with_reducible apply et_and0 | with_reducible apply et_or0 | with_reducible apply et_not | with_reducible apply ea_cons | with_reducible apply ev_call
  | with_reducible exact rv_eq rfl | with_reducible exact rv_ne rfl | (refine spv1 ?_ <;> first | trivial | assumption) | (refine spv2 ?_ <;> first | trivial | assumption) | (refine spv3 ?_ <;> first | trivial | assumption))
    · rw [decide_eq_true c1, decide_eq_true c2]; rfl
def okMany (i : Int) : Prop := 0 ≤ i ∧ i ≤ 1000000
def N_need_many : List Str := ["many"]
theorem sc_need_many : FnScope N_need_many ["many"] (defScope s_need_many) := ⟨rfl, rfl, rfl, by decide +kernel, rfl, by decide +kernel, by decide +kernel⟩
theorem h_need_many (T : Tx K mg) : Has P w K mg base CX0 "need_many" 2 ["many"] (sp1 okMany fun _ => .non) :=
  have h_is_integer := h_is_integer (P := P) (w := w) (base := base) T
  T.has 8 19 rfl rfl rfl sc_need_many sp1_len rfl (fun | _, _, _, _, _, _, [_], _ => rfl) fun cdv A outer s H vs Q E hr h => by
    obtain ⟨i, rfl, ⟨c1, c2⟩, h⟩ := h
    refine ⟨_, (pss_one (ps_if (PW.pt (pw_or (pt_not (pt_val (pe_h h_is_integer (hr.mono (by decide)) pass0 (pa_cons (pv 0) pa_nil)))) (pw_or1 (pt_not (pt_chain op_le op_le pe_int (pv 0) (pe_num T 3 rfl)))))) (pss_one ps_never) pss_nil)), ?_⟩
    refine s_when (b := false) ?_ (fun q => nomatch q) (fun _ H1 e1 => h _ e1)
    apply et_is
    · (repeat' first
  | with_reducible exact ev_c | ((with_reducible apply ev_var) <;> exact rfl) | with_reducible exact rv_I0 | with_reducible exact rv_mask | with_reducible exact rv_divK | with_reducible exact rv_modK | with_reducible exact rv_shrK | with_reducible exact rv_mulK | with_reducible exact rv_mulL | with_reducible exact ea_nil
  | with_reducible apply ev_isB | (exact fun _ _ => isB_ii) | (exact fun _ _ => isB_ib) | (exact fun _ _ => isB_it) | (exact fun _ _ => isB_ss)
  | with_reducible apply ev_rng | with_reducible apply ev_chain | with_reducible apply ev_bits | with_reducible apply ev_ifI | with_reducible apply ev_op | with_reducible apply ev_un | with_reducible apply ev_and0 | with_reducible apply ev_or0 | with_reducible apply ev_notV
  | with_reducible apply et_B | with_reducible apply et_test | with_reducible apply et_and0 | with_reducible apply et_or0 | with_reducible apply et_not | with_reducible apply ea_cons | with_reducible apply ev_call
  | with_reducible exact rv_eq rfl | with_reducible exact rv_ne rfl | (refine spv1 ?_ <;> first | trivial | assumption) | (refine spv2 ?_ <;> first | trivial | assumption) | (refine spv3 ?_ <;> first | trivial | assumption))
    · rw [decide_eq_true c1, decide_eq_true c2]; rfl
def OkScr (ws : List Int) : Prop := ws.length ≤ 9 ∧ OkWords ws
def N_is_script : List Str := ["value", "word"]
theorem sc_is_script : FnScope N_is_script ["value"] (defScope s_is_script) := ⟨rfl, rfl, rfl, by decide +kernel, rfl, by decide +kernel, by decide +kernel⟩
def sp_is_script : Sp := fun vs H Q _ => ∃ a ws, vs = [.ref a] ∧ H a = some (.tup (iV ws)) ∧ OkScr ws ∧ RetV (.bl true) H Q
theorem h_is_script (T : Tx K mg) : Has P w K mg base CX0 "is_script" 3 ["value"] sp_is_script :=
  have h_is_word := h_is_word (P := P) (w := w) (base := base) T
  T.has 10 22 rfl rfl rfl sc_is_script (fun vs H Q E h => by obtain ⟨a, ws, rfl, _⟩ := h; rfl) rfl (fun | _, _, _, _, _, _, [_], _ => rfl) fun cdv A outer s H vs Q E hr h => by
    obtain ⟨a, ws, rfl, ha, ⟨c1, c2⟩, h⟩ := h
    refine ⟨_, (pss_one (ps_ret (pe_and (pe_isB T 4 rfl boot_tupleT (pv 0)) (pe_and (pe_cmpR op_le (pe_callB call_len (by rfl) (T.fre 1 _ rfl) PySem.boot_len (pa_cons (pv 0) pa_nil)) (pe_num T 4 rfl) (nomark _)) (pe_one (pe_callB (cr_all rfl) (by rfl) (T.fre 2 _ rfl) boot_allB (pa_cons (pe_lc (own := [("word", 1)]) (g := gName 1) (tt := tYes) rfl sc_is_script.nd (pi_tup (pv 0)) (blkOk_by (own := [("word", 1)]) (N := N_is_script) (sc := defScope s_is_script) (by decide +kernel)) (fun _ _ _ _ _ => pg_name (i := 1) sc_is_script.nd rfl (Or.inl rfl)) (fun _ _ _ _ _ => pts_nil) (fun _ _ _ _ _ => (pe_h h_is_word (hr.mono (by decide)) pass0 (pa_cons (pv 1) pa_nil)))) pa_nil))))))), ?_⟩
    refine s_retE ?_ h
    refine ev_is (v := .bl (true && (decide (((iV ws).length : Int) ≤ 10000) && (iV ws).all vWord))) ?_ ?_
    · refine ev_and0 (ev_isBtt (ev_var rfl) ha) (ev_and0 (ev_op (ev_lenT (ev_var rfl) ha) ev_c rv_I0) ?_)
      refine ev_allT vWord (ev_var rfl) ha (by rw [iV_len]; omega) (fun x => rfl) (fun x m H1 e => ?_)
      obtain ⟨i, hi, rfl⟩ := mem_iV m
      exact ev_call (ea_cons (ev_var rfl) ea_nil) (spv1 trivial)
    · rw [iV_words c2, iV_len, decide_eq_true (by omega)]
      rfl
end
end Kx
set_option Elab.async false
set_option linter.all false
set_option maxRecDepth 100000
set_option maxHeartbeats 2000000
namespace Kx
open PySem PySem.Spec PyProof.Rows L2 Evl
open He (ga ma)
section
variable {P : Program} {w : World} {K : PySem.W.Frag} {mg : Str → Option Value} {base : Heap}
def isKey (i : Int) : Bool := decide (0 ≤ i) && decide (i < 18446744073709551616)
def N_is_key : List Str := ["value"]
theorem sc_is_key : FnScope N_is_key ["value"] (defScope s_is_key) := ⟨rfl, rfl, rfl, by decide +kernel, rfl, by decide +kernel, by decide +kernel⟩
theorem h_is_key (T : Tx K mg) : Has P w K mg base CX0 "is_key" 2 ["value"] (sp1 (fun _ => True) fun i => .bl (isKey i)) :=
  have h_is_integer := h_is_integer (P := P) (w := w) (base := base) T
  T.has 43 34 rfl rfl rfl sc_is_key sp1_len rfl (fun | _, _, _, _, _, _, [_], _ => rfl) fun cdv A outer s H vs Q E hr h => by
    obtain ⟨i, rfl, _, h⟩ := h
    refine ⟨_, (pss_one (ps_ret (pe_and (pe_h h_is_integer (hr.mono (by decide)) pass0 (pa_cons (pv 0) pa_nil)) (pe_one (pe_rng (lo := 0) (hi := 18446744073709551616) pe_int (pv 0) (pe_num T 6 rfl)))))), ?_⟩
    refine s_retE ?_ h
    apply ev_is
    · (repeat' first
  | with_reducible exact ev_c | ((with_reducible apply ev_var) <;> exact rfl) | with_reducible exact rv_I0 | with_reducible exact rv_mask | with_reducible exact rv_divK | with_reducible exact rv_modK | with_reducible exact rv_shrK | with_reducible exact rv_mulK | with_reducible exact rv_mulL | with_reducible exact ea_nil
  | with_reducible apply ev_isB | (exact fun _ _ => isB_ii) | (exact fun _ _ => isB_ib) | (exact fun _ _ => isB_it) | (exact fun _ _ => isB_ss)
  | with_reducible apply ev_rng | with_reducible apply ev_chain | with_reducible apply ev_bits | with_reducible apply ev_ifI | with_reducible apply ev_op | with_reducible apply ev_un | with_reducible apply ev_and0 | with_reducible apply ev_or0 | with_reducible apply ev_notV
  | with_reducible apply et_B | with_reducible apply et_test | with_reducible apply et_and0 | with_reducible apply et_or0 | with_reducible apply et_not | with_reducible apply ea_cons | with_reducible apply ev_call
  | with_reducible exact rv_eq rfl | with_reducible exact rv_ne rfl | (refine spv1 ?_ <;> first | trivial | assumption) | (refine spv2 ?_ <;> first | trivial | assumption) | (refine spv3 ?_ <;> first | trivial | assumption))
    · rfl
def chgPart (key step : Int) : Int := if decide (V.int (step % 2) = V.int 1) = true then key / 4294967296 else key % 4294967296
def chgFound (low key step : Int) : Int := (low * 3486784401 + chgPart key step + step) % 4294967296
def chg (low key step : Int) : Int := Builtin.bitXor (chgFound low key step) (chgFound low key step / 2 ^ 17)
def N_s4_change : List Str := ["low", "key", "step", "part", "found"]
theorem sc_s4_change : FnScope N_s4_change ["low", "key", "step"] (defScope s_s4_change) := ⟨rfl, rfl, rfl, by decide +kernel, rfl, by decide +kernel, by decide +kernel⟩
theorem h_s4_change (T : Tx K mg) : Has P w K mg base CX0 "s4_change" 1 ["low", "key", "step"] (sp3 (fun _ _ _ => True) fun i j l => .int (chg i j l)) :=
  T.has 44 35 rfl rfl rfl sc_s4_change sp3_len rfl (fun | _, _, _, _, _, _, [_, _, _], _ => rfl) fun cdv A outer s H vs Q E hr h => by
    obtain ⟨low, key, step, rfl, _, h⟩ := h
    refine ⟨_, (pss_cons (ps_set (i := 3) sc_s4_change.nd rfl (Or.inl rfl) (pe_ifExp (pt_cmpR op_eq (pe_op (op_mask (c := 1) (m := 2) 1 (by decide) (by decide)) (pv 2) pe_int) pe_int (nomark _)) (pe_op (op_fdivG (m := 4294967296) 33 (by decide) (by decide) (by decide) (by decide)) (pv 1) (pe_num T 0 rfl)) (pe_op (op_mask (c := (4294967296 - 1)) (m := 4294967296) 32 (by decide) (by decide)) (pv 1) (pe_op op_sub (pe_num T 0 rfl) pe_int)))) (pss_cons (ps_set (i := 4) sc_s4_change.nd rfl (Or.inl rfl) (pe_op (op_mask (c := (4294967296 - 1)) (m := 4294967296) 32 (by decide) (by decide)) (pe_op op_add (pe_op op_add (pe_op (op_mulK (m := 3486784401) (by decide) (by decide)) (pv 0) (pe_num T 1 rfl)) (pv 3)) (pv 2)) (pe_op op_sub (pe_num T 0 rfl) pe_int))) (pss_one (ps_ret (pe_op op_xor (pv 4) (pe_op (op_shrK (c := 17) 17 (by decide)) (pv 4) pe_int)))))), ?_⟩
    refine q_asg (v := .int (chgPart key step)) ?_ fun H1 e1 => q_asg (v := .int (chgFound low key step)) ?_ fun H2 e2 => s_retE ?_ (ra (ra h e1) e2)
    · (apply ev_is; (focus ((repeat' first
  | with_reducible exact ev_c | ((with_reducible apply ev_var) <;> exact rfl) | with_reducible exact rv_I0 | with_reducible exact rv_mask | with_reducible exact rv_divK | with_reducible exact rv_modK | with_reducible exact rv_shrK | with_reducible exact rv_mulK | with_reducible exact rv_mulL | with_reducible exact ea_nil
  | with_reducible apply ev_isB | (exact fun _ _ => isB_ii) | (exact fun _ _ => isB_ib) | (exact fun _ _ => isB_it) | (exact fun _ _ => isB_ss)
  | with_reducible apply ev_rng | with_reducible apply ev_chain | with_reducible apply ev_bits | with_reducible apply ev_ifI | with_reducible apply ev_op | with_reducible apply ev_un | with_reducible apply ev_and0 | with_reducible apply ev_or0 | with_reducible apply ev_notV
  | with_reducible apply et_B | with_reducible apply et_test | with_reducible apply et_and0 | with_reducible apply et_or0 | with_reducible apply et_not | with_reducible apply ea_cons | with_reducible apply ev_call
  | with_reducible exact rv_eq rfl | with_reducible exact rv_ne rfl | (refine spv1 ?_ <;> first | trivial | assumption) | (refine spv2 ?_ <;> first | trivial | assumption) | (refine spv3 ?_ <;> first | trivial | assumption)))); (focus rfl))
    · (apply ev_is; (focus ((repeat' first
  | with_reducible exact ev_c | ((with_reducible apply ev_var) <;> exact rfl) | with_reducible exact rv_I0 | with_reducible exact rv_mask | with_reducible exact rv_divK | with_reducible exact rv_modK | with_reducible exact rv_shrK | with_reducible exact rv_mulK | with_reducible exact rv_mulL | with_reducible exact ea_nil
  | with_reducible apply ev_isB | (exact fun _ _ => isB_ii) | (exact fun _ _ => isB_ib) | (exact fun _ _ => isB_it) | (exact fun _ _ => isB_ss)
  | with_reducible apply ev_rng | with_reducible apply ev_chain | with_reducible apply ev_bits | with_reducible apply ev_ifI | with_reducible apply ev_op | with_reducible apply ev_un | with_reducible apply ev_and0 | with_reducible apply ev_or0 | with_reducible apply ev_notV
  | with_reducible apply et_B | with_reducible apply et_test | with_reducible apply et_and0 | with_reducible apply et_or0 | with_reducible apply et_not | with_reducible apply ea_cons | with_reducible apply ev_call
  | with_reducible exact rv_eq rfl | with_reducible exact rv_ne rfl | (refine spv1 ?_ <;> first | trivial | assumption) | (refine spv2 ?_ <;> first | trivial | assumption) | (refine spv3 ?_ <;> first | trivial | assumption)))); (focus rfl))
    · (apply ev_is; (focus ((repeat' first
  | with_reducible exact ev_c | ((with_reducible apply ev_var) <;> exact rfl) | with_reducible exact rv_I0 | with_reducible exact rv_mask | with_reducible exact rv_divK | with_reducible exact rv_modK | with_reducible exact rv_shrK | with_reducible exact rv_mulK | with_reducible exact rv_mulL | with_reducible exact ea_nil
  | with_reducible apply ev_isB | (exact fun _ _ => isB_ii) | (exact fun _ _ => isB_ib) | (exact fun _ _ => isB_it) | (exact fun _ _ => isB_ss)
  | with_reducible apply ev_rng | with_reducible apply ev_chain | with_reducible apply ev_bits | with_reducible apply ev_ifI | with_reducible apply ev_op | with_reducible apply ev_un | with_reducible apply ev_and0 | with_reducible apply ev_or0 | with_reducible apply ev_notV
  | with_reducible apply et_B | with_reducible apply et_test | with_reducible apply et_and0 | with_reducible apply et_or0 | with_reducible apply et_not | with_reducible apply ea_cons | with_reducible apply ev_call
  | with_reducible exact rv_eq rfl | with_reducible exact rv_ne rfl | (refine spv1 ?_ <;> first | trivial | assumption) | (refine spv2 ?_ <;> first | trivial | assumption) | (refine spv3 ?_ <;> first | trivial | assumption)))); (focus rfl))
def blkIt (key number : Int) : Nat → Int × Int
  | 0 => (number / 4294967296, number % 4294967296)
  | n + 1 => ((blkIt key number n).2, Builtin.bitXor (blkIt key number n).1 (chg (blkIt key number n).2 key n))
def N_s4_block : List Str := ["key", "number", "high", "low", "step"]
theorem sc_s4_block : FnScope N_s4_block ["key", "number"] (defScope s_s4_block) := ⟨rfl, rfl, rfl, by decide +kernel, rfl, by decide +kernel, by decide +kernel⟩
def sp_s4_block : Sp := fun vs H Q _ => ∃ k n, vs = [.int k, .int n] ∧ RetU [.int (blkIt k n 4).1, .int (blkIt k n 4).2] H Q
theorem h_s4_block (T : Tx K mg) : Has P w K mg base CX0 "s4_block" 2 ["key", "number"] sp_s4_block :=
  have h_s4_change := h_s4_change (P := P) (w := w) (base := base) T
  T.has 45 36 rfl rfl rfl sc_s4_block (fun vs H Q E h => by obtain ⟨a, ws, rfl, _⟩ := h; rfl) rfl (fun | _, _, _, _, _, _, [_, _], _ => rfl) fun cdv A outer s H vs Q E hr h => by
    obtain ⟨key, number, rfl, h⟩ := h
    refine ⟨_, (pss_cons (ps_par (i := 2) (j := 3) (by rfl) sc_s4_block.nd rfl rfl (by decide) rfl rfl (pa_cons (pe_op (op_fdivG (m := 4294967296) 33 (by decide) (by decide) (by decide) (by decide)) (pv 1) (pe_num T 0 rfl)) (pa_cons (pe_op (op_mask (c := (4294967296 - 1)) (m := 4294967296) 32 (by decide) (by decide)) (pv 1) (pe_op op_sub (pe_num T 0 rfl) pe_int)) pa_nil)) (by rfl)) (pss_cons (ps_for PassesOwn.never rfl (pi_range1 (by rfl) (T.fre 3 _ rfl) (pa_cons pe_int pa_nil)) (pg_name (i := 4) sc_s4_block.nd rfl (Or.inl rfl)) (pss_one (ps_par (i := 2) (j := 3) (by rfl) sc_s4_block.nd rfl rfl (by decide) rfl rfl (pa_cons (pv 3) (pa_cons (pe_op op_xor (pv 2) (pe_h h_s4_change (hr.mono (by decide)) pass0 (pa_cons (pv 3) (pa_cons (pv 0) (pa_cons (pv 4) pa_nil))))) pa_nil)) (by rfl)))) (pss_one (ps_ret (pe_tup (pa_cons (pv 2) (pa_cons (pv 3) pa_nil))))))), ?_⟩
    refine q_par (v := .int (blkIt key number 0).1) (u := .int (blkIt key number 0).2) ?_ fun H1 e1 => ?_
    · (apply ea_is; (focus ((repeat' first
  | with_reducible exact ev_c | ((with_reducible apply ev_var) <;> exact rfl) | with_reducible exact rv_I0 | with_reducible exact rv_mask | with_reducible exact rv_divK | with_reducible exact rv_modK | with_reducible exact rv_shrK | with_reducible exact rv_mulK | with_reducible exact rv_mulL | with_reducible exact ea_nil
  | with_reducible apply ev_isB | (exact fun _ _ => isB_ii) | (exact fun _ _ => isB_ib) | (exact fun _ _ => isB_it) | (exact fun _ _ => isB_ss)
  | with_reducible apply ev_rng | with_reducible apply ev_chain | with_reducible apply ev_bits | with_reducible apply ev_ifI | with_reducible apply ev_op | with_reducible apply ev_un | with_reducible apply ev_and0 | with_reducible apply ev_or0 | with_reducible apply ev_notV
  | with_reducible apply et_B | with_reducible apply et_test | with_reducible apply et_and0 | with_reducible apply et_or0 | with_reducible apply et_not | with_reducible apply ea_cons | with_reducible apply ev_call
  | with_reducible exact rv_eq rfl | with_reducible exact rv_ne rfl | (refine spv1 ?_ <;> first | trivial | assumption) | (refine spv2 ?_ <;> first | trivial | assumption) | (refine spv3 ?_ <;> first | trivial | assumption)))); (focus rfl))
    refine q_forR1 (n := 4) (ea_cons ev_c ea_nil) (by decide) (fun i σ H' => Ex H H' ∧ ∃ x, σ = [some (.int key), some (.int number), some (.int (blkIt key number i).1), some (.int (blkIt key number i).2), x]) (fun H2 e2 => ⟨e1.trans e2, none, rfl⟩) (fun i σ H2 hi p => ?_) (fun σ H2 p => ?_)
    · obtain ⟨e2, x, rfl⟩ := p
      refine s_par (v := .int (blkIt key number (i + 1)).1) (u := .int (blkIt key number (i + 1)).2) ?_ fun H3 e3 => ⟨e2.trans e3, _, rfl⟩
      (apply ea_is; (focus ((repeat' first
  | with_reducible exact ev_c | ((with_reducible apply ev_var) <;> exact rfl) | with_reducible exact rv_I0 | with_reducible exact rv_mask | with_reducible exact rv_divK | with_reducible exact rv_modK | with_reducible exact rv_shrK | with_reducible exact rv_mulK | with_reducible exact rv_mulL | with_reducible exact ea_nil
  | with_reducible apply ev_isB | (exact fun _ _ => isB_ii) | (exact fun _ _ => isB_ib) | (exact fun _ _ => isB_it) | (exact fun _ _ => isB_ss)
  | with_reducible apply ev_rng | with_reducible apply ev_chain | with_reducible apply ev_bits | with_reducible apply ev_ifI | with_reducible apply ev_op | with_reducible apply ev_un | with_reducible apply ev_and0 | with_reducible apply ev_or0 | with_reducible apply ev_notV
  | with_reducible apply et_B | with_reducible apply et_test | with_reducible apply et_and0 | with_reducible apply et_or0 | with_reducible apply et_not | with_reducible apply ea_cons | with_reducible apply ev_call
  | with_reducible exact rv_eq rfl | with_reducible exact rv_ne rfl | (refine spv1 ?_ <;> first | trivial | assumption) | (refine spv2 ?_ <;> first | trivial | assumption) | (refine spv3 ?_ <;> first | trivial | assumption)))); (focus rfl))
    · obtain ⟨e2, x, rfl⟩ := p
      refine s_retUE (eu_tup ?_ (Nat.le_of_ble_eq_true rfl)) (rau h e2)
      (apply ea_is; (focus ((repeat' first
  | with_reducible exact ev_c | ((with_reducible apply ev_var) <;> exact rfl) | with_reducible exact rv_I0 | with_reducible exact rv_mask | with_reducible exact rv_divK | with_reducible exact rv_modK | with_reducible exact rv_shrK | with_reducible exact rv_mulK | with_reducible exact rv_mulL | with_reducible exact ea_nil
  | with_reducible apply ev_isB | (exact fun _ _ => isB_ii) | (exact fun _ _ => isB_ib) | (exact fun _ _ => isB_it) | (exact fun _ _ => isB_ss)
  | with_reducible apply ev_rng | with_reducible apply ev_chain | with_reducible apply ev_bits | with_reducible apply ev_ifI | with_reducible apply ev_op | with_reducible apply ev_un | with_reducible apply ev_and0 | with_reducible apply ev_or0 | with_reducible apply ev_notV
  | with_reducible apply et_B | with_reducible apply et_test | with_reducible apply et_and0 | with_reducible apply et_or0 | with_reducible apply et_not | with_reducible apply ea_cons | with_reducible apply ev_call
  | with_reducible exact rv_eq rfl | with_reducible exact rv_ne rfl | (refine spv1 ?_ <;> first | trivial | assumption) | (refine spv2 ?_ <;> first | trivial | assumption) | (refine spv3 ?_ <;> first | trivial | assumption)))); (focus rfl))
def N_s4_state_at : List Str := ["key", "position", "place"]
theorem sc_s4_state_at : FnScope N_s4_state_at ["key", "position"] (defScope s_s4_state_at) := ⟨rfl, rfl, rfl, by decide +kernel, rfl, by decide +kernel, by decide +kernel⟩
def posOf (p : Int) : Int := p % 36893488147419103232
def sp_s4_state_at : Sp := fun vs H Q _ => ∃ k p, vs = [.int k, .int p] ∧ RetU [.int k, .int (posOf p / 2), .int (posOf p % 2)] H Q
theorem h_s4_state_at (T : Tx K mg) : Has P w K mg base CX0 "s4_state_at" 1 ["key", "position"] sp_s4_state_at :=
  T.has 47 38 rfl rfl rfl sc_s4_state_at (fun vs H Q E h => by obtain ⟨a, ws, rfl, _⟩ := h; rfl) rfl (fun | _, _, _, _, _, _, [_, _], _ => rfl) fun cdv A outer s H vs Q E hr h => by
    obtain ⟨key, p, rfl, h⟩ := h
    refine ⟨_, (pss_cons (ps_set (i := 2) sc_s4_state_at.nd rfl (Or.inl rfl) (pe_op (op_mask (c := (36893488147419103232 - 1)) (m := 36893488147419103232) 65 (by decide) (by decide)) (pv 1) (pe_op op_sub (pe_num T 7 rfl) pe_int))) (pss_one (ps_ret (pe_tup (pa_cons (pv 0) (pa_cons (pe_op (op_fdivK (m := 2) (by decide) (by decide)) (pv 2) pe_int) (pa_cons (pe_op (op_mask (c := 1) (m := 2) 1 (by decide) (by decide)) (pv 2) pe_int) pa_nil))))))), ?_⟩
    refine q_asg (v := .int (posOf p)) ?_ fun H1 e1 => s_retUE (eu_tup ?_ (Nat.le_of_ble_eq_true rfl)) (rau h e1)
    · (apply ev_is; (focus ((repeat' first
  | with_reducible exact ev_c | ((with_reducible apply ev_var) <;> exact rfl) | with_reducible exact rv_I0 | with_reducible exact rv_mask | with_reducible exact rv_divK | with_reducible exact rv_modK | with_reducible exact rv_shrK | with_reducible exact rv_mulK | with_reducible exact rv_mulL | with_reducible exact ea_nil
  | with_reducible apply ev_isB | (exact fun _ _ => isB_ii) | (exact fun _ _ => isB_ib) | (exact fun _ _ => isB_it) | (exact fun _ _ => isB_ss)
  | with_reducible apply ev_rng | with_reducible apply ev_chain | with_reducible apply ev_bits | with_reducible apply ev_ifI | with_reducible apply ev_op | with_reducible apply ev_un | with_reducible apply ev_and0 | with_reducible apply ev_or0 | with_reducible apply ev_notV
  | with_reducible apply et_B | with_reducible apply et_test | with_reducible apply et_and0 | with_reducible apply et_or0 | with_reducible apply et_not | with_reducible apply ea_cons | with_reducible apply ev_call
  | with_reducible exact rv_eq rfl | with_reducible exact rv_ne rfl | (refine spv1 ?_ <;> first | trivial | assumption) | (refine spv2 ?_ <;> first | trivial | assumption) | (refine spv3 ?_ <;> first | trivial | assumption)))); (focus rfl))
    · (apply ea_is; (focus ((repeat' first
  | with_reducible exact ev_c | ((with_reducible apply ev_var) <;> exact rfl) | with_reducible exact rv_I0 | with_reducible exact rv_mask | with_reducible exact rv_divK | with_reducible exact rv_modK | with_reducible exact rv_shrK | with_reducible exact rv_mulK | with_reducible exact rv_mulL | with_reducible exact ea_nil
  | with_reducible apply ev_isB | (exact fun _ _ => isB_ii) | (exact fun _ _ => isB_ib) | (exact fun _ _ => isB_it) | (exact fun _ _ => isB_ss)
  | with_reducible apply ev_rng | with_reducible apply ev_chain | with_reducible apply ev_bits | with_reducible apply ev_ifI | with_reducible apply ev_op | with_reducible apply ev_un | with_reducible apply ev_and0 | with_reducible apply ev_or0 | with_reducible apply ev_notV
  | with_reducible apply et_B | with_reducible apply et_test | with_reducible apply et_and0 | with_reducible apply et_or0 | with_reducible apply et_not | with_reducible apply ea_cons | with_reducible apply ev_call
  | with_reducible exact rv_eq rfl | with_reducible exact rv_ne rfl | (refine spv1 ?_ <;> first | trivial | assumption) | (refine spv2 ?_ <;> first | trivial | assumption) | (refine spv3 ?_ <;> first | trivial | assumption)))); (focus rfl))
def OkCnt (k h b : Int) : Prop := isKey k = true ∧ isKey h = true ∧ (b = 0 ∨ b = 1)
def N_s4_need_state : List Str := ["state"]
theorem sc_s4_need_state : FnScope N_s4_need_state ["state"] (defScope s_s4_need_state) := ⟨rfl, rfl, rfl, by decide +kernel, rfl, by decide +kernel, by decide +kernel⟩
def sp_s4_need_state : Sp := fun vs H Q _ => ∃ a k h b, vs = [.ref a] ∧ H a = some (.tup [.int k, .int h, .int b]) ∧ OkCnt k h b ∧ RetV .non H Q
theorem h_s4_need_state (T : Tx K mg) : Has P w K mg base CX0 "s4_need_state" 3 ["state"] sp_s4_need_state :=
  have h_is_integer := h_is_integer (P := P) (w := w) (base := base) T
  have h_is_key := h_is_key (P := P) (w := w) (base := base) T
  T.has 46 37 rfl rfl rfl sc_s4_need_state (fun vs H Q E h => by obtain ⟨a, k, h', b, rfl, _⟩ := h; rfl) rfl (fun | _, _, _, _, _, _, [_], _ => rfl) fun cdv A outer s H vs Q E hr h => by
    obtain ⟨a, k, hf, b, rfl, ha, ⟨c1, c2, c3⟩, h⟩ := h
    refine ⟨_, (pss_cons (ps_if (PW.pt (pw_or (pt_not (pt_val (pe_isB T 4 rfl boot_tupleT (pv 0)))) (pw_or (pt_cmpR op_ne (pe_callB call_len (by rfl) (T.fre 1 _ rfl) PySem.boot_len (pa_cons (pv 0) pa_nil)) pe_int (nomark _)) (pw_or (pt_not (pt_val (pe_h h_is_key (hr.mono (by decide)) pass0 (pa_cons (pe_ix ix_tup (pv 0) pe_int (fun _ _ => rfl)) pa_nil)))) (pw_or1 (pt_not (pt_val (pe_h h_is_key (hr.mono (by decide)) pass0 (pa_cons (pe_ix ix_tup (pv 0) pe_int (fun _ _ => rfl)) pa_nil))))))))) (pss_one ps_never) pss_nil) (pss_one (ps_if (PW.pt (pw_or (pt_not (pt_val (pe_h h_is_integer (hr.mono (by decide)) pass0 (pa_cons (pe_ix ix_tup (pv 0) pe_int (fun _ _ => rfl)) pa_nil)))) (pw_or1 (pt_cmpR op_notIn_seq (pe_ix ix_tup (pv 0) pe_int (fun _ _ => rfl)) (pe_tup (pa_cons pe_int (pa_cons pe_int pa_nil))) rfl)))) (pss_one ps_never) pss_nil))), ?_⟩
    refine q_when (b := false) ?_ (fun q => nomatch q) (fun _ H1 e1 => s_when (b := false) ?_ (fun q => nomatch q) (fun _ H2 e2 => h _ (Ex.trans e1 e2)))
    · refine et_is (a := !true || (!decide (V.int 3 = V.int 3) || (!isKey k || !isKey hf))) ?_ (by rw [c1, c2]; rfl)
      refine et_or0 (et_not (et_B (ev_isBtt (ev_var rfl) ha))) (et_or0 (et_test (ev_op (ev_lenT (ev_var rfl) ha) ev_c (rv_ne rfl))) (et_or0 (et_not (et_B ?_)) (et_not (et_B ?_))))
      · exact ev_call (ea_cons (ev_ixT (ev_var rfl) ha ev_c rfl) ea_nil) (spv1 trivial)
      · exact ev_call (ea_cons (ev_ixT (ev_var rfl) ha ev_c rfl) ea_nil) (spv1 trivial)
    · have ha1 := e1 _ _ ha
      refine et_is (a := !true || !inV (.int b) [.int 0, .int 1]) ?_ (by rcases c3 with rfl | rfl <;> decide)
      refine et_or0 (et_not (et_B (ev_call (ea_cons (ev_ixT (ev_var rfl) ha1 ev_c rfl) ea_nil) (spv1 trivial)))) (et_test (ev_niU (ev_ixT (ev_var rfl) ha1 ev_c rfl) (eu_tup (ea_cons ev_c (ea_cons ev_c ea_nil)) (by decide)) rfl rfl))
end
end Kx
set_option Elab.async false
set_option linter.all false
set_option maxRecDepth 100000
set_option maxHeartbeats 2000000
namespace Kx
open PySem PySem.Spec PyProof.Rows L2 Evl
open He (ga ma)
section
variable {P : Program} {w : World} {K : PySem.W.Frag} {mg : Str → Option Value} {base : Heap}
def isNum (i : Int) : Bool := decide (0 ≤ i) && decide (i < 281474976710656)
theorem isNum_iff {i : Int} : isNum i = true ↔ 0 ≤ i ∧ i < 281474976710656 := by
  unfold isNum
  rw [Bool.and_eq_true, decide_eq_true_eq, decide_eq_true_eq]
def N_s2_is_number : List Str := ["value"]
theorem sc_s2_is_number : FnScope N_s2_is_number ["value"] (defScope s_s2_is_number) := ⟨rfl, rfl, rfl, by decide +kernel, rfl, by decide +kernel, by decide +kernel⟩
theorem h_s2_is_number (T : Tx K mg) : Has P w K mg base CX0 "s2_is_number" 2 ["value"] (sp1 (fun _ => True) fun i => .bl (isNum i)) :=
  have h_is_integer := h_is_integer (P := P) (w := w) (base := base) T
  T.has 57 40 rfl rfl rfl sc_s2_is_number sp1_len rfl (fun | _, _, _, _, _, _, [_], _ => rfl) fun cdv A outer s H vs Q E hr h => by
    obtain ⟨i, rfl, _, h⟩ := h
    refine ⟨_, (pss_one (ps_ret (pe_and (pe_h h_is_integer (hr.mono (by decide)) pass0 (pa_cons (pv 0) pa_nil)) (pe_one (pe_rng (lo := 0) (hi := 281474976710656) pe_int (pv 0) (pe_num T 8 rfl)))))), ?_⟩
    refine s_retE ?_ h
    (apply ev_is; (focus ((repeat' first
  | with_reducible exact ev_c | ((with_reducible apply ev_var) <;> exact rfl) | with_reducible exact rv_I0 | with_reducible exact rv_mask | with_reducible exact rv_divK | with_reducible exact rv_modK | with_reducible exact rv_shrK | with_reducible exact rv_mulK | with_reducible exact rv_mulL | with_reducible exact ea_nil
  | with_reducible apply ev_isB | (exact fun _ _ => isB_ii) | (exact fun _ _ => isB_ib) | (exact fun _ _ => isB_it) | (exact fun _ _ => isB_ss)
  | with_reducible apply ev_rng | with_reducible apply ev_chain | with_reducible apply ev_bits | with_reducible apply ev_ifI | with_reducible apply ev_op | with_reducible apply ev_un | with_reducible apply ev_and0 | with_reducible apply ev_or0 | with_reducible apply ev_notV
  | with_reducible apply et_B | with_reducible apply et_test | with_reducible apply et_and0 | with_reducible apply et_or0 | with_reducible apply et_not | with_reducible apply ea_cons | with_reducible apply ev_call
  | with_reducible exact rv_eq rfl | with_reducible exact rv_ne rfl | (refine spv1 ?_ <;> first | trivial | assumption) | (refine spv2 ?_ <;> first | trivial | assumption) | (refine spv3 ?_ <;> first | trivial | assumption)))); (focus rfl))
def N_s2_need_start : List Str := ["start"]
theorem sc_s2_need_start : FnScope N_s2_need_start ["start"] (defScope s_s2_need_start) := ⟨rfl, rfl, rfl, by decide +kernel, rfl, by decide +kernel, by decide +kernel⟩
theorem h_s2_need_start (T : Tx K mg) : Has P w K mg base CX0 "s2_need_start" 3 ["start"] (sp1 (fun i => isNum i = true) fun _ => .non) :=
  have h_s2_is_number := h_s2_is_number (P := P) (w := w) (base := base) T
  T.has 58 41 rfl rfl rfl sc_s2_need_start sp1_len rfl (fun | _, _, _, _, _, _, [_], _ => rfl) fun cdv A outer s H vs Q E hr h => by
    obtain ⟨i, rfl, c, h⟩ := h
    refine ⟨_, (pss_one (ps_if (pt_not (pt_val (pe_h h_s2_is_number (hr.mono (by decide)) pass0 (pa_cons (pv 0) pa_nil)))) (pss_one ps_never) pss_nil)), ?_⟩
    refine s_when (b := false) ?_ (fun q => nomatch q) (fun _ H1 e1 => h _ e1)
    apply et_is
    · (repeat' first
  | with_reducible exact ev_c | ((with_reducible apply ev_var) <;> exact rfl) | with_reducible exact rv_I0 | with_reducible exact rv_mask | with_reducible exact rv_divK | with_reducible exact rv_modK | with_reducible exact rv_shrK | with_reducible exact rv_mulK | with_reducible exact rv_mulL | with_reducible exact ea_nil
  | with_reducible apply ev_isB | (exact fun _ _ => isB_ii) | (exact fun _ _ => isB_ib) | (exact fun _ _ => isB_it) | (exact fun _ _ => isB_ss)
  | with_reducible apply ev_rng | with_reducible apply ev_chain | with_reducible apply ev_bits | with_reducible apply ev_ifI | with_reducible apply ev_op | with_reducible apply ev_un | with_reducible apply ev_and0 | with_reducible apply ev_or0 | with_reducible apply ev_notV
  | with_reducible apply et_B | with_reducible apply et_test | with_reducible apply et_and0 | with_reducible apply et_or0 | with_reducible apply et_not | with_reducible apply ea_cons | with_reducible apply ev_call
  | with_reducible exact rv_eq rfl | with_reducible exact rv_ne rfl | (refine spv1 ?_ <;> first | trivial | assumption) | (refine spv2 ?_ <;> first | trivial | assumption) | (refine spv3 ?_ <;> first | trivial | assumption))
    · rw [c]; rfl
def N_s2_need_state : List Str := ["state"]
theorem sc_s2_need_state : FnScope N_s2_need_state ["state"] (defScope s_s2_need_state) := ⟨rfl, rfl, rfl, by decide +kernel, rfl, by decide +kernel, by decide +kernel⟩
def sp_s2_need_state : Sp := fun vs H Q _ => ∃ a x, vs = [.ref a] ∧ H a = some (.tup [.int x]) ∧ isNum x = true ∧ RetV .non H Q
theorem h_s2_need_state (T : Tx K mg) : Has P w K mg base CX0 "s2_need_state" 3 ["state"] sp_s2_need_state :=
  have h_s2_is_number := h_s2_is_number (P := P) (w := w) (base := base) T
  T.has 59 42 rfl rfl rfl sc_s2_need_state (fun vs H Q E h => by obtain ⟨a, x, rfl, _⟩ := h; rfl) rfl (fun | _, _, _, _, _, _, [_], _ => rfl) fun cdv A outer s H vs Q E hr h => by
    obtain ⟨a, x, rfl, ha, c, h⟩ := h
    refine ⟨_, (pss_one (ps_if (PW.pt (pw_or (pt_not (pt_val (pe_isB T 4 rfl boot_tupleT (pv 0)))) (pw_or (pt_cmpR op_ne (pe_callB call_len (by rfl) (T.fre 1 _ rfl) PySem.boot_len (pa_cons (pv 0) pa_nil)) pe_int (nomark _)) (pw_or1 (pt_not (pt_val (pe_h h_s2_is_number (hr.mono (by decide)) pass0 (pa_cons (pe_ix ix_tup (pv 0) pe_int (fun _ _ => rfl)) pa_nil)))))))) (pss_one ps_never) pss_nil)), ?_⟩
    refine s_when (b := false) ?_ (fun q => nomatch q) (fun _ H1 e1 => h _ e1)
    refine et_is (a := !true || (!decide (V.int 1 = V.int 1) || !isNum x)) ?_ (by rw [c]; rfl)
    refine et_or0 (et_not (et_B (ev_isBtt (ev_var rfl) ha))) (et_or0 (et_test (ev_op (ev_lenT (ev_var rfl) ha) ev_c (rv_ne rfl))) (et_not (et_B ?_)))
    exact ev_call (ea_cons (ev_ixT (ev_var rfl) ha ev_c rfl) ea_nil) (spv1 trivial)
def OkPr (a : Int × Int) : Prop := (0 ≤ a.1 ∧ a.1 < 281474976710656) ∧ 0 ≤ a.2 ∧ a.2 < 281474976710656
def jn (a b : Int × Int) : Int × Int := (a.1 * b.1 % 281474976710656, (a.2 * b.1 + b.2) % 281474976710656)
theorem jn_ok (a b : Int × Int) : OkPr (jn a b) := by
  unfold OkPr jn
  dsimp only
  omega
def N_s2_joined : List Str := ["one", "other"]
theorem sc_s2_joined : FnScope N_s2_joined ["one", "other"] (defScope s_s2_joined) := ⟨rfl, rfl, rfl, by decide +kernel, rfl, by decide +kernel, by decide +kernel⟩
def sp_s2_joined : Sp := fun vs H Q _ => ∃ a b x y, vs = [.ref a, .ref b] ∧ H a = some (.tup [.int x.1, .int x.2]) ∧ H b = some (.tup [.int y.1, .int y.2]) ∧ OkPr x ∧ OkPr y ∧ RetU [.int (jn x y).1, .int (jn x y).2] H Q
theorem cm {i j : Int} (h1 : 0 ≤ j) (h2 : j < 281474976710656) : CMul i j := .inr ⟨by omega, by omega⟩
theorem h_s2_joined (T : Tx K mg) : Has P w K mg base CX0 "s2_joined" 1 ["one", "other"] sp_s2_joined :=
  T.has 60 43 rfl rfl rfl sc_s2_joined (fun vs H Q E h => by obtain ⟨a, b, x, y, rfl, _⟩ := h; rfl) rfl (fun | _, _, _, _, _, _, [_, _], _ => rfl) fun cdv A outer s H vs Q E hr h => by
    obtain ⟨a, b, x, y, rfl, ha, hb, ⟨⟨x1, x2⟩, x3, x4⟩, ⟨⟨y1, y2⟩, y3, y4⟩, h⟩ := h
    refine ⟨_, (pss_one (ps_ret (pe_tup (pa_cons (pe_op (op_mask (c := (281474976710656 - 1)) (m := 281474976710656) 48 (by decide) (by decide)) (pe_op op_mul (pe_ix ix_tup (pv 0) pe_int (fun _ _ => rfl)) (pe_ix ix_tup (pv 1) pe_int (fun _ _ => rfl))) (pe_op op_sub (pe_num T 8 rfl) pe_int)) (pa_cons (pe_op (op_mask (c := (281474976710656 - 1)) (m := 281474976710656) 48 (by decide) (by decide)) (pe_op op_add (pe_op op_mul (pe_ix ix_tup (pv 0) pe_int (fun _ _ => rfl)) (pe_ix ix_tup (pv 1) pe_int (fun _ _ => rfl))) (pe_ix ix_tup (pv 1) pe_int (fun _ _ => rfl))) (pe_op op_sub (pe_num T 8 rfl) pe_int)) pa_nil))))), ?_⟩
    refine s_retUE (eu_tup (ea_cons ?_ (ea_cons ?_ ea_nil)) (Nat.le_of_ble_eq_true rfl)) h
    · exact ev_op (ev_op (ev_ixT (ev_var rfl) ha ev_c rfl) (ev_ixT (ev_var rfl) hb ev_c rfl) (rv_I (cm y1 y2))) (ev_op ev_c ev_c rv_I0) rv_mask
    · exact ev_op (ev_op (ev_op (ev_ixT (ev_var rfl) ha ev_c rfl) (ev_ixT (ev_var rfl) hb ev_c rfl) (rv_I (cm y1 y2))) (ev_ixT (ev_var rfl) hb ev_c rfl) rv_I0) (ev_op ev_c ev_c rv_I0) rv_mask
def lmap : Nat → Int × Int → Int × Int → Int → Int × Int
  | 0, f, _, _ => f
  | n + 1, f, p, s => if 0 < s then lmap n (if s % 2 = 1 then jn f p else f) (jn p p) (s / 2) else f
theorem lmap_s {n : Nat} {f p : Int × Int} {s : Int} : lmap (n + 1) f p s = if 0 < s then lmap n (if s % 2 = 1 then jn f p else f) (jn p p) (s / 2) else f := rfl
theorem ok_one : OkPr (1, 0) := ⟨by decide, by decide⟩
theorem ok_mul : OkPr (205891132094649, 11) := ⟨by decide, by decide⟩
theorem lmap_0 {n : Nat} {f p : Int × Int} {s : Int} (h : ¬ 0 < s) : lmap n f p s = f := by
  cases n with
  | zero => rfl
  | succ n =>
    unfold lmap
    rw [if_neg h]
theorem lmap_ok : ∀ (n : Nat) (f p : Int × Int) (s : Int), OkPr f → OkPr (lmap n f p s)
  | 0, _, _, _, h => h
  | n + 1, f, p, s, h => by
    unfold lmap
    by_cases c : 0 < s
    · rw [if_pos c]
      refine lmap_ok n _ _ _ ?_
      by_cases d : s % 2 = 1
      · rw [if_pos d]; exact jn_ok _ _
      · rw [if_neg d]; exact h
    · rw [if_neg c]; exact h
def stepMap (steps : Int) : Int × Int := lmap 48 (1, 0) (205891132094649, 11) (steps % 281474976710656)
theorem stepMap_ok (s : Int) : OkPr (stepMap s) := lmap_ok _ _ _ _ ok_one
def N_s2_step_map : List Str := ["steps", "found", "power"]
theorem sc_s2_step_map : FnScope N_s2_step_map ["steps"] (defScope s_s2_step_map) := ⟨rfl, rfl, rfl, by decide +kernel, rfl, by decide +kernel, by decide +kernel⟩
def sp_s2_step_map : Sp := fun vs H Q _ => ∃ s, vs = [.int s] ∧ RetU [.int (stepMap s).1, .int (stepMap s).2] H Q
theorem h_s2_step_map (T : Tx K mg) : Has P w K mg base CX0 "s2_step_map" 2 ["steps"] sp_s2_step_map :=
  have h_s2_joined := h_s2_joined (P := P) (w := w) (base := base) T
  T.has 61 44 rfl rfl rfl sc_s2_step_map (fun vs H Q E h => by obtain ⟨x, rfl, _⟩ := h; rfl) rfl (fun | _, _, _, _, _, _, [_], _ => rfl) fun cdv A outer s H vs Q E hr h => by
    obtain ⟨x, rfl, h⟩ := h
    refine ⟨_, (pss_cons (ps_par (i := 1) (j := 2) (by rfl) sc_s2_step_map.nd rfl rfl (by decide) rfl rfl (pa_cons (pe_tup (pa_cons pe_int (pa_cons pe_int pa_nil))) (pa_cons (pe_tup (pa_cons (pe_num T 9 rfl) (pa_cons (pe_num T 10 rfl) pa_nil))) pa_nil)) (by rfl)) (pss_cons (ps_set (i := 0) sc_s2_step_map.nd rfl (Or.inl rfl) (pe_op (op_mask (c := (281474976710656 - 1)) (m := 281474976710656) 48 (by decide) (by decide)) (pv 0) (pe_op op_sub (pe_num T 8 rfl) pe_int))) (pss_cons (ps_while PassesOwn.never (pt_cmpR op_gt (pv 0) pe_int (nomark _)) (pss_cons (ps_if (pt_cmpR op_eq (pe_op (op_mask (c := 1) (m := 2) 1 (by decide) (by decide)) (pv 0) pe_int) pe_int (nomark _)) (pss_one (ps_set (i := 1) sc_s2_step_map.nd rfl (Or.inl rfl) (pe_h h_s2_joined (hr.mono (by decide)) pass0 (pa_cons (pv 1) (pa_cons (pv 2) pa_nil))))) pss_nil) (pss_cons (ps_set (i := 2) sc_s2_step_map.nd rfl (Or.inl rfl) (pe_h h_s2_joined (hr.mono (by decide)) pass0 (pa_cons (pv 2) (pa_cons (pv 2) pa_nil)))) (pss_one (ps_set (i := 0) sc_s2_step_map.nd rfl (Or.inl rfl) (pe_op (op_fdivK (m := 2) (by decide) (by decide)) (pv 0) pe_int)))))) (pss_one (ps_ret (pv 1)))))), ?_⟩
    refine q_parWW (ew_tup (ea_cons ev_c (ea_cons ev_c ea_nil)) (by decide)) (ew_tup (ea_cons ev_c (ea_cons ev_c ea_nil)) (by decide)) fun p q H1 e1 hp hq => ?_
    refine q_asg (v := .int (x % 281474976710656)) ?_ fun H2 e2 => ?_
    · (apply ev_is; (focus ((repeat' first
  | with_reducible exact ev_c | ((with_reducible apply ev_var) <;> exact rfl) | with_reducible exact rv_I0 | with_reducible exact rv_mask | with_reducible exact rv_divK | with_reducible exact rv_modK | with_reducible exact rv_shrK | with_reducible exact rv_mulK | with_reducible exact rv_mulL | with_reducible exact ea_nil
  | with_reducible apply ev_isB | (exact fun _ _ => isB_ii) | (exact fun _ _ => isB_ib) | (exact fun _ _ => isB_it) | (exact fun _ _ => isB_ss)
  | with_reducible apply ev_rng | with_reducible apply ev_chain | with_reducible apply ev_bits | with_reducible apply ev_ifI | with_reducible apply ev_op | with_reducible apply ev_un | with_reducible apply ev_and0 | with_reducible apply ev_or0 | with_reducible apply ev_notV
  | with_reducible apply et_B | with_reducible apply et_test | with_reducible apply et_and0 | with_reducible apply et_or0 | with_reducible apply et_not | with_reducible apply ea_cons | with_reducible apply ev_call
  | with_reducible exact rv_eq rfl | with_reducible exact rv_ne rfl | (refine spv1 ?_ <;> first | trivial | assumption) | (refine spv2 ?_ <;> first | trivial | assumption) | (refine spv3 ?_ <;> first | trivial | assumption)))); (focus rfl))
    refine q_while (fun m σ' H' => Ex H H' ∧ ∃ f g y a b, σ' = [some (.int y), some (.ref a), some (.ref b)] ∧ H' a = some (.tup [.int f.1, .int f.2]) ∧ H' b = some (.tup [.int g.1, .int g.2]) ∧ OkPr f ∧ OkPr g ∧ (0 ≤ y ∧ y < 2 ^ m) ∧ lmap m f g y = stepMap x) 48
      ⟨e1.trans e2, (1, 0), (205891132094649, 11), _, p, q, rfl, e2 _ _ hp, e2 _ _ hq, ok_one, ok_mul, by omega, rfl⟩ (fun m σ' H3 W => ?_)
    obtain ⟨e3, f, g, y, a, b, rfl, ha, hb, of, og, ⟨y0, ym⟩, hl⟩ := W
    refine ⟨decide (0 < y), ?_, fun k H4 e4 => ?_, fun k H4 e4 => ?_⟩
    · exact et_test (ev_op (ev_var rfl) ev_c rv_I0)
    · have yp : 0 < y := of_decide_eq_true k
      cases m with
      | zero => exact absurd ym (by omega)
      | succ n =>
        refine ⟨_, fun σ2 H2 W => ⟨n, Nat.lt_succ_self n, W⟩, ?_⟩
        have go : ∀ (f' : Int × Int) (a' : Addr) (H5 : Hp), Ex H4 H5 → OkPr f' → H5 a' = some (.tup [.int f'.1, .int f'.2]) → f' = (if y % 2 = 1 then jn f g else f) → ∀ D : Ends,
            (∀ c H6, Ex H5 H6 → H6 c = some (.tup [.int (jn g g).1, .int (jn g g).2]) → D.nx [some (.int (y / 2)), some (.ref a'), some (.ref c)] H6) → tSeq (tAsg (tCall sp_s2_joined [] E0 (tCons (tVar 2) (tCons (tVar 2) tNil))) (gName 2)) (tAsg (tOp (rDivK 2) (tVar 0) (tC (.int 2))) (gName 0)) D [some (.int y), some (.ref a'), some (.ref b)] H5 := by
          intro f' a' H5 e5 of' ha' hf D c
          have hb' := e5 _ _ (e4 _ _ hb)
          refine q_asgW (ew_call (ea_cons (ev_var rfl) (ea_cons (ev_var rfl) ea_nil)) (fun H6 e6 Q' k' E' => ⟨b, b, g, g, rfl, e6 _ _ hb', e6 _ _ hb', og, og, k'⟩)) fun p6 H6 e6 h6 => ?_
          exact s_asg (ev_op (ev_var rfl) ev_c rv_divK) fun H7 e7 => c p6 H7 (e6.trans e7) (e7 _ _ h6)
        have nxt : ∀ (f' : Int × Int), f' = (if y % 2 = 1 then jn f g else f) → lmap n f' (jn g g) (y / 2) = stepMap x := by
          intro f' hf
          rw [← hl, hf, lmap_s, if_pos yp]
        have half : 0 ≤ y / 2 ∧ y / 2 < 2 ^ n := by
          rw [Int.pow_succ] at ym
          omega
        have ha4 := e4 _ _ ha
        have hb4 := e4 _ _ hb
        refine q_when (b := decide (V.int (y % 2) = V.int 1)) (et_test (ev_op (ev_op (ev_var rfl) ev_c rv_mask) ev_c (rv_eq rfl))) (fun k2 H5 e5 => ?_) (fun k2 H5 e5 => ?_)
        · have y2 : y % 2 = 1 := V.int.inj (of_decide_eq_true k2)
          refine s_asgW (ew_call (ea_cons (ev_var rfl) (ea_cons (ev_var rfl) ea_nil)) (fun H6 e6 Q' k' E' => ⟨a, b, f, g, rfl, e6 _ _ (e5 _ _ ha4), e6 _ _ (e5 _ _ hb4), of, og, k'⟩)) fun p6 H6 e6 h6 => ?_
          exact go (jn f g) p6 H6 (e5.trans e6) (jn_ok _ _) h6 (by rw [if_pos y2]) _ fun c H7 e7 hc => ⟨((e3.trans e4).trans (e5.trans e6)).trans e7, jn f g, jn g g, y / 2, p6, c, rfl, e7 _ _ h6, hc, jn_ok _ _, jn_ok _ _, half, nxt _ (by rw [if_pos y2])⟩
        · have y2 : ¬ y % 2 = 1 := fun z => (of_decide_eq_false k2) (by rw [z])
          exact go f a H5 e5 of (e5 _ _ ha4) (by rw [if_neg y2]) _ fun c H7 e7 hc => ⟨((e3.trans e4).trans e5).trans e7, f, jn g g, y / 2, a, c, rfl, e7 _ _ (e5 _ _ ha4), hc, of, jn_ok _ _, half, nxt _ (by rw [if_neg y2])⟩
    · have yn : ¬ 0 < y := of_decide_eq_false k
      rw [lmap_0 yn] at hl
      subst hl
      exact s_ret (ev_var rfl) fun H5 e5 => h a H5 (Ex.trans (Ex.trans e3 e4) e5) (e5 _ _ (e4 _ _ ha))
def N_s2_mapped : List Str := ["one", "start"]
theorem sc_s2_mapped : FnScope N_s2_mapped ["one", "start"] (defScope s_s2_mapped) := ⟨rfl, rfl, rfl, by decide +kernel, rfl, by decide +kernel, by decide +kernel⟩
def sp_s2_mapped : Sp := fun vs H Q _ => ∃ a x s, vs = [.ref a, .int s] ∧ H a = some (.tup [.int x.1, .int x.2]) ∧ OkPr x ∧ RetV (.int ((x.1 * s + x.2) % 281474976710656)) H Q
theorem h_s2_mapped (T : Tx K mg) : Has P w K mg base CX0 "s2_mapped" 1 ["one", "start"] sp_s2_mapped :=
  T.has 62 45 rfl rfl rfl sc_s2_mapped (fun vs H Q E h => by obtain ⟨a, x, s, rfl, _⟩ := h; rfl) rfl (fun | _, _, _, _, _, _, [_, _], _ => rfl) fun cdv A outer s H vs Q E hr h => by
    obtain ⟨a, x, st, rfl, ha, ⟨⟨x1, x2⟩, x3, x4⟩, h⟩ := h
    refine ⟨_, (pss_one (ps_ret (pe_op (op_mask (c := (281474976710656 - 1)) (m := 281474976710656) 48 (by decide) (by decide)) (pe_op op_add (pe_op op_mul (pe_ix ix_tup (pv 0) pe_int (fun _ _ => rfl)) (pv 1)) (pe_ix ix_tup (pv 0) pe_int (fun _ _ => rfl))) (pe_op op_sub (pe_num T 8 rfl) pe_int)))), ?_⟩
    refine s_retE (ev_op (ev_op (ev_op (ev_ixT (ev_var rfl) ha ev_c rfl) (ev_var rfl) (rv_I (.inl ⟨by omega, by omega⟩))) (ev_ixT (ev_var rfl) ha ev_c rfl) rv_I0) (ev_op ev_c ev_c rv_I0) rv_mask) h
def moved2 (start steps : Int) : Int := ((stepMap steps).1 * start + (stepMap steps).2) % 281474976710656
theorem moved2_ok (x s : Int) : isNum (moved2 x s) = true := by
  rw [isNum_iff]
  unfold moved2
  omega
def N_s2_moved : List Str := ["start", "steps"]
theorem sc_s2_moved : FnScope N_s2_moved ["start", "steps"] (defScope s_s2_moved) := ⟨rfl, rfl, rfl, by decide +kernel, rfl, by decide +kernel, by decide +kernel⟩
theorem h_s2_moved (T : Tx K mg) : Has P w K mg base CX0 "s2_moved" 3 ["start", "steps"] (sp2 (fun _ _ => True) fun x s => .int (moved2 x s)) :=
  have h_s2_step_map := h_s2_step_map (P := P) (w := w) (base := base) T
  have h_s2_mapped := h_s2_mapped (P := P) (w := w) (base := base) T
  T.has 63 46 rfl rfl rfl sc_s2_moved sp2_len rfl (fun | _, _, _, _, _, _, [_, _], _ => rfl) fun cdv A outer s H vs Q E hr h => by
    obtain ⟨x, st, rfl, _, h⟩ := h
    refine ⟨_, (pss_one (ps_ret (pe_h h_s2_mapped (hr.mono (by decide)) pass0 (pa_cons (pe_h h_s2_step_map (hr.mono (by decide)) pass0 (pa_cons (pv 1) pa_nil)) (pa_cons (pv 0) pa_nil))))), ?_⟩
    refine s_retE ?_ h
    exact ev_callWV (ew_call (ea_cons (ev_var rfl) ea_nil) (fun H6 e6 Q' k' E' => ⟨_, rfl, k'⟩)) (ev_var rfl) fun p H1 e1 hp H2 e2 Q' k' E' => ⟨p, stepMap st, x, rfl, e2 _ _ hp, stepMap_ok st, k'⟩
end
end Kx
set_option Elab.async false
set_option linter.all false
set_option maxRecDepth 100000
set_option maxHeartbeats 2000000
namespace Kx
open PySem PySem.Spec PyProof.Rows L2 Evl
open He (ga ma)
section
variable {P : Program} {w : World} {K : PySem.W.Frag} {mg : Str → Option Value} {base : Heap}
def N_s3_is_whole : List Str := ["value", "least", "most"]
theorem sc_s3_is_whole : FnScope N_s3_is_whole ["value", "least", "most"] (defScope s_s3_is_whole) := ⟨rfl, rfl, rfl, by decide +kernel, rfl, by decide +kernel, by decide +kernel⟩
theorem h_s3_is_whole (T : Tx K mg) : Has P w K mg base CX0 "s3_is_whole" 2 ["value", "least", "most"] (sp3 (fun _ _ _ => True) fun i l m => .bl (decide (l ≤ i) && decide (i ≤ m))) :=
  have h_is_integer := h_is_integer (P := P) (w := w) (base := base) T
  T.has 73 48 rfl rfl rfl sc_s3_is_whole sp3_len rfl (fun | _, _, _, _, _, _, [_, _, _], _ => rfl) fun cdv A outer s H vs Q E hr h => by
    obtain ⟨i, l, m, rfl, _, h⟩ := h
    refine ⟨_, (pss_one (ps_ret (pe_and (pe_h h_is_integer (hr.mono (by decide)) pass0 (pa_cons (pv 0) pa_nil)) (pe_one (pe_chain op_le op_le (pv 1) (pv 0) (pv 2)))))), ?_⟩
    refine s_retE ?_ h
    (apply ev_is; (focus ((repeat' first
  | with_reducible exact ev_c | ((with_reducible apply ev_var) <;> exact rfl) | with_reducible exact rv_I0 | with_reducible exact rv_mask | with_reducible exact rv_divK | with_reducible exact rv_modK | with_reducible exact rv_shrK | with_reducible exact rv_mulK | with_reducible exact rv_mulL | with_reducible exact ea_nil
  | with_reducible apply ev_isB | (exact fun _ _ => isB_ii) | (exact fun _ _ => isB_ib) | (exact fun _ _ => isB_it) | (exact fun _ _ => isB_ss)
  | with_reducible apply ev_rng | with_reducible apply ev_chain | with_reducible apply ev_bits | with_reducible apply ev_ifI | with_reducible apply ev_op | with_reducible apply ev_un | with_reducible apply ev_and0 | with_reducible apply ev_or0 | with_reducible apply ev_notV
  | with_reducible apply et_B | with_reducible apply et_test | with_reducible apply et_and0 | with_reducible apply et_or0 | with_reducible apply et_not | with_reducible apply ea_cons | with_reducible apply ev_call
  | with_reducible exact rv_eq rfl | with_reducible exact rv_ne rfl | (refine spv1 ?_ <;> first | trivial | assumption) | (refine spv2 ?_ <;> first | trivial | assumption) | (refine spv3 ?_ <;> first | trivial | assumption)))); (focus rfl))
def polyTop : Int := 1 * 2 ^ (512 : Int).toNat - 1
def isPoly (i : Int) : Bool := decide (0 ≤ i) && decide (i ≤ polyTop)
theorem cpow {i j : Int} (h1 : 0 ≤ j) (h2 : j ≤ 1000000) (h3 : i.natAbs < 2 ^ 64) : CPow i j := ⟨h1, h2, h3⟩
def N_is_polynomial : List Str := ["value"]
theorem sc_is_polynomial : FnScope N_is_polynomial ["value"] (defScope s_is_polynomial) := ⟨rfl, rfl, rfl, by decide +kernel, rfl, by decide +kernel, by decide +kernel⟩
theorem h_is_polynomial (T : Tx K mg) : Has P w K mg base CX0 "is_polynomial" 3 ["value"] (sp1 (fun _ => True) fun i => .bl (isPoly i)) :=
  have h_s3_is_whole := h_s3_is_whole (P := P) (w := w) (base := base) T
  T.has 74 49 rfl rfl rfl sc_is_polynomial sp1_len rfl (fun | _, _, _, _, _, _, [_], _ => rfl) fun cdv A outer s H vs Q E hr h => by
    obtain ⟨i, rfl, _, h⟩ := h
    refine ⟨_, (pss_one (ps_ret (pe_h h_s3_is_whole (hr.mono (by decide)) pass0 (pa_cons (pv 0) (pa_cons pe_int (pa_cons (pe_op op_sub (pe_op op_shl pe_int (pe_num T 12 rfl)) pe_int) pa_nil)))))), ?_⟩
    refine s_retE ?_ h
    exact ev_call (ea_cons (ev_var rfl) (ea_cons ev_c (ea_cons (ev_op (ev_op ev_c ev_c (rv_I (cpow (by decide) (by decide) (by decide)))) ev_c rv_I0) ea_nil))) (spv3 trivial)
def N_s3_need : List Str := ["values", "value"]
theorem sc_s3_need : FnScope N_s3_need ["values"] (defScope s_s3_need) := ⟨rfl, rfl, rfl, by decide +kernel, rfl, by decide +kernel, by decide +kernel⟩
def sp_s3_needT : Sp := fun vs H Q _ => ∃ a i, vs = [.ref a] ∧ H a = some (.tup [.int i]) ∧ isPoly i = true ∧ RetV .non H Q
theorem h_s3_need (T : Tx K mg) : HasR P w K mg base CX0 "s3_need" 4 (sp1 (fun i => isPoly i = true) fun _ => .non) :=
  have h_is_polynomial := h_is_polynomial (P := P) (w := w) (base := base) T
  HasR.imp (sp := fun vs H Q E => vs.length ≤ sizeLine ∧ ∀ p, H p = none → sp_s3_needT [.ref p] (upd H p (.tup vs)) Q E) (h := by
  refine T.hasR 75 50 rfl rfl rfl sc_s3_need rfl (fun _ _ _ _ _ _ rest => by cases rest <;> rfl) fun cdv A outer s H vs Q E hr h => by
    obtain ⟨a, i, rfl, ha, c, h⟩ := h
    refine ⟨_, (pss_one (ps_for PassesOwn.never rfl (pi_tup (pv 0)) (pg_name (i := 1) sc_s3_need.nd rfl (Or.inl rfl)) (pss_one (ps_if (pt_not (pt_val (pe_h h_is_polynomial (hr.mono (by decide)) pass0 (pa_cons (pv 1) pa_nil)))) (pss_one ps_never) pss_nil)))), ?_⟩
    refine s_forT (ev_var rfl) (SqT.of ha) (fun n σ' H' => Ex H H' ∧ ∃ x, σ' = [some (.ref a), x]) (fun H1 e1 => ⟨e1, none, rfl⟩) (fun n σ' H' _ p => SqT.of (p.1 _ _ ha)) (fun n x σ' H' hx p => ?_) (fun σ' H' p => h _ p.1)
    obtain ⟨e1, y, rfl⟩ := p
    have hx' : x = .int i := by
      cases n with
      | zero => exact (Option.some.inj hx).symm
      | succ n => cases hx
    subst hx'
    refine s_when (b := false) ?_ (fun q => nomatch q) (fun _ H1 e2 => ⟨e1.trans e2, _, rfl⟩)
    exact et_is (et_not (et_B (ev_call (ea_cons (ev_var rfl) ea_nil) (spv1 trivial)))) (by rw [c]; rfl)) (i := fun vs H Q E h => by
    obtain ⟨i, rfl, c, h⟩ := h
    exact ⟨sz_of (Nat.le_of_ble_eq_true rfl), fun p hp => ⟨p, i, rfl, upd_same, c, ra h (Ex.new hp)⟩⟩)
def N_s3_need_modulus : List Str := ["value"]
theorem sc_s3_need_modulus : FnScope N_s3_need_modulus ["value"] (defScope s_s3_need_modulus) := ⟨rfl, rfl, rfl, by decide +kernel, rfl, by decide +kernel, by decide +kernel⟩
theorem h_s3_need_modulus (T : Tx K mg) : Has P w K mg base CX0 "s3_need_modulus" 4 ["value"] (sp1 (fun i => isPoly i = true ∧ i ≠ 0) fun _ => .non) :=
  have h_is_polynomial := h_is_polynomial (P := P) (w := w) (base := base) T
  T.has 76 51 rfl rfl rfl sc_s3_need_modulus sp1_len rfl (fun | _, _, _, _, _, _, [_], _ => rfl) fun cdv A outer s H vs Q E hr h => by
    obtain ⟨i, rfl, ⟨c, c2⟩, h⟩ := h
    refine ⟨_, (pss_one (ps_if (PW.pt (pw_or (pt_not (pt_val (pe_h h_is_polynomial (hr.mono (by decide)) pass0 (pa_cons (pv 0) pa_nil)))) (pw_or1 (pt_cmpR op_eq (pv 0) pe_int (nomark _))))) (pss_one ps_never) pss_nil)), ?_⟩
    refine s_when (b := false) ?_ (fun q => nomatch q) (fun _ H1 e1 => h _ e1)
    apply et_is
    · (repeat' first
  | with_reducible exact ev_c | ((with_reducible apply ev_var) <;> exact rfl) | with_reducible exact rv_I0 | with_reducible exact rv_mask | with_reducible exact rv_divK | with_reducible exact rv_modK | with_reducible exact rv_shrK | with_reducible exact rv_mulK | with_reducible exact rv_mulL | with_reducible exact ea_nil
  | with_reducible apply ev_isB | (exact fun _ _ => isB_ii) | (exact fun _ _ => isB_ib) | (exact fun _ _ => isB_it) | (exact fun _ _ => isB_ss)
  | with_reducible apply ev_rng | with_reducible apply ev_chain | with_reducible apply ev_bits | with_reducible apply ev_ifI | with_reducible apply ev_op | with_reducible apply ev_un | with_reducible apply ev_and0 | with_reducible apply ev_or0 | with_reducible apply ev_notV
  | with_reducible apply et_B | with_reducible apply et_test | with_reducible apply et_and0 | with_reducible apply et_or0 | with_reducible apply et_not | with_reducible apply ea_cons | with_reducible apply ev_call
  | with_reducible exact rv_eq rfl | with_reducible exact rv_ne rfl | (refine spv1 ?_ <;> first | trivial | assumption) | (refine spv2 ?_ <;> first | trivial | assumption) | (refine spv3 ?_ <;> first | trivial | assumption))
    · rw [c, decide_eq_false (fun z => c2 (V.int.inj z))]; rfl
def prl : Nat → Nat → Nat → Int → Nat
  | 0, f, _, _ => f
  | n + 1, f, s, r => if 0 < r then prl n (if r % 2 = 1 then f ^^^ s else f) (s * 2) (r / 2) else f
theorem prl_s {n f s : Nat} {r : Int} : prl (n + 1) f s r = if 0 < r then prl n (if r % 2 = 1 then f ^^^ s else f) (s * 2) (r / 2) else f := rfl
theorem prl_0 {n f s : Nat} {r : Int} (h : ¬ 0 < r) : prl n f s r = f := by
  cases n with
  | zero => rfl
  | succ n => rw [prl_s, if_neg h]
theorem prl_lt : ∀ (n f s : Nat) (r : Int), f < 2 ^ 100 → s * 2 ^ n < 2 ^ 100 → prl n f s r < 2 ^ 100
  | 0, _, _, _, h, _ => h
  | n + 1, f, s, r, h, h2 => by
    rw [prl_s]
    by_cases c : 0 < r
    · rw [if_pos c]
      rw [Nat.pow_succ] at h2
      have h3 : s * 2 * 2 ^ n < 2 ^ 100 := by
        have e : s * (2 ^ n * 2) = s * 2 * 2 ^ n := by rw [Nat.mul_comm (2 ^ n) 2, Nat.mul_assoc]
        omega
      refine prl_lt n _ _ _ ?_ h3
      by_cases d : r % 2 = 1
      · rw [if_pos d]
        refine Nat.xor_lt_two_pow h ?_
        have : 1 ≤ 2 ^ n := Nat.one_le_two_pow
        calc s ≤ s * 2 * 2 ^ n := by rw [Nat.mul_assoc]; exact Nat.le_mul_of_pos_right _ (by omega)
          _ < 2 ^ 100 := h3
      · rw [if_neg d]; exact h
    · rw [if_neg c]; exact h
def prod (a b : Nat) : Nat := prl 40 0 a b
theorem xor_nat (a b : Nat) : Builtin.bitXor (a : Int) (b : Int) = ((a ^^^ b : Nat) : Int) := by
  rw [Bits.bitXor_pp (by omega) (by omega)]
  rfl
def N_s3_product : List Str := ["first", "second", "found", "shifted", "rest"]
theorem sc_s3_product : FnScope N_s3_product ["first", "second"] (defScope s_s3_product) := ⟨rfl, rfl, rfl, by decide +kernel, rfl, by decide +kernel, by decide +kernel⟩
theorem h_s3_product (T : Tx K mg) : Has P w K mg base CX0 "s3_product" 1 ["first", "second"] (fun vs H Q _ => ∃ a b : Nat, vs = [.int a, .int b] ∧ a < 2 ^ 40 ∧ b < 2 ^ 40 ∧ RetV (.int (prod a b : Nat)) H Q) :=
  T.has 77 52 rfl rfl rfl sc_s3_product (fun vs H Q E h => by obtain ⟨a, b, rfl, _⟩ := h; rfl) rfl (fun | _, _, _, _, _, _, [_, _], _ => rfl) fun cdv A outer s H vs Q E hr h => by
    obtain ⟨a, b, rfl, ha, hb, h⟩ := h
    refine ⟨_, (pss_cons (ps_set (i := 2) sc_s3_product.nd rfl (Or.inl rfl) pe_int) (pss_cons (ps_set (i := 3) sc_s3_product.nd rfl (Or.inl rfl) (pv 0)) (pss_cons (ps_set (i := 4) sc_s3_product.nd rfl (Or.inl rfl) (pv 1)) (pss_cons (ps_while PassesOwn.never (pt_cmpR op_gt (pv 4) pe_int (nomark _)) (pss_cons (ps_if (pt_cmpR op_eq (pe_op (op_mask (c := 1) (m := 2) 1 (by decide) (by decide)) (pv 4) pe_int) pe_int (nomark _)) (pss_one (ps_set (i := 2) sc_s3_product.nd rfl (Or.inl rfl) (pe_op op_xor (pv 2) (pv 3)))) pss_nil) (pss_cons (ps_set (i := 3) sc_s3_product.nd rfl (Or.inl rfl) (pe_op op_shlN (pv 3) pe_int)) (pss_one (ps_set (i := 4) sc_s3_product.nd rfl (Or.inl rfl) (pe_op (op_shrK (c := 1) 1 (by decide)) (pv 4) pe_int)))))) (pss_one (ps_ret (pv 2))))))), ?_⟩
    refine q_asg (v := .int 0) ev_c fun H1 e1 => q_asg (v := .int a) (ev_var rfl) fun H2 e2 => q_asg (v := .int b) (ev_var rfl) fun H3 e3 => ?_
    refine q_while (fun m σ' H' => Ex H H' ∧ ∃ (f s : Nat) (r : Int), σ' = [some (.int a), some (.int b), some (.int f), some (.int s), some (.int r)] ∧ f < 2 ^ 100 ∧ s * 2 ^ m < 2 ^ 100 ∧ (0 ≤ r ∧ r < 2 ^ m) ∧ prl m f s r = prod a b) 40
      ⟨(e1.trans e2).trans e3, 0, a, b, rfl, by decide, by omega, by omega, rfl⟩ (fun m σ' H4 W => ?_)
    obtain ⟨e4, f, s, r, rfl, hf, hs, ⟨r0, rm⟩, hl⟩ := W
    refine ⟨decide (0 < r), et_test (ev_op (ev_var rfl) ev_c rv_I0), fun k H5 e5 => ?_, fun k H5 e5 => ?_⟩
    · have yp : 0 < r := of_decide_eq_true k
      cases m with
      | zero => exact absurd rm (by omega)
      | succ n =>
        refine ⟨_, fun σ2 H2 W => ⟨n, Nat.lt_succ_self n, W⟩, ?_⟩
        have ss : s * 2 * 2 ^ n < 2 ^ 100 := by
          rw [Nat.pow_succ] at hs
          have e : s * (2 ^ n * 2) = s * 2 * 2 ^ n := by rw [Nat.mul_comm (2 ^ n) 2, Nat.mul_assoc]
          omega
        have s100 : s < 2 ^ 100 := by
          have : 1 ≤ 2 ^ n := Nat.one_le_two_pow
          calc s ≤ s * 2 * 2 ^ n := by rw [Nat.mul_assoc]; exact Nat.le_mul_of_pos_right _ (by omega)
            _ < 2 ^ 100 := ss
        have half : 0 ≤ r / 2 ∧ r / 2 < 2 ^ n := by
          rw [Int.pow_succ] at rm
          omega
        have shl : ∀ H6, RV (fun x y H Q => ∃ (i : Int) (k : Nat), x = .int i ∧ y = .int (k : Int) ∧ CShl i (k : Int) ∧ Q (.int (i * 2 ^ k)) H) (.int (s : Int)) (.int 1) H6 (.int ((s * 2 : Nat) : Int)) := fun H6 => rv_val fun H' _ Q q => ⟨(s : Int), 1, rfl, rfl, shl_ok (n := 100) (by omega) (by omega), by
          have e : ((s * 2 : Nat) : Int) = (s : Int) * 2 ^ 1 := by omega
          rw [e] at q
          exact q⟩
        refine q_ifAsg (v := .int ((if r % 2 = 1 then f ^^^ s else f : Nat) : Int)) (et_test (ev_op (ev_op (ev_var rfl) ev_c rv_mask) ev_c (rv_eq rfl))) (fun k2 => ?_) (fun k2 => ?_) fun H6 e6 => ?_
        · have y2 : r % 2 = 1 := V.int.inj (of_decide_eq_true k2)
          rw [if_pos y2, ← xor_nat]
          exact ev_op (ev_var rfl) (ev_var rfl) rv_I0
        · have y2 : ¬ r % 2 = 1 := fun z => (of_decide_eq_false k2) (by rw [z])
          rw [if_neg y2]
          rfl
        refine q_asg (ev_op (ev_var rfl) ev_c (shl H6)) fun H7 e7 => s_asg (ev_op (ev_var rfl) ev_c rv_shrK) fun H8 e8 => ?_
        refine ⟨Ex.trans (Ex.trans (Ex.trans e4 e5) (Ex.trans e6 e7)) e8, _, s * 2, r / 2, rfl, ?_, ss, half, ?_⟩
        · by_cases y2 : r % 2 = 1
          · rw [if_pos y2]; exact Nat.xor_lt_two_pow hf s100
          · rw [if_neg y2]; exact hf
        · rw [prl_s, if_pos yp] at hl
          exact hl
    · have yn : ¬ 0 < r := of_decide_eq_false k
      rw [prl_0 yn] at hl
      subst hl
      exact s_ret (ev_var rfl) fun H6 e6 => h H6 (Ex.trans (Ex.trans e4 e5) e6)
def bl (n : Nat) : Nat := if n = 0 then 0 else n.log2 + 1
theorem bits_nat (n : Nat) : Builtin.Int.intBits (n : Int) = bl n := by
  unfold Builtin.Int.intBits bl
  by_cases h : n = 0
  · subst h; rfl
  · have h2 : ((n : Int) == 0) = false := by
      cases hh : ((n : Int) == 0) with
      | false => rfl
      | true => exact absurd (by have := eq_of_beq hh; omega) h
    rw [if_neg h, h2]
    rfl
theorem lt_bl (n : Nat) : n < 2 ^ bl n := by
  unfold bl
  by_cases h : n = 0
  · rw [if_pos h, h]; decide
  · rw [if_neg h]; exact Nat.lt_log2_self
theorem bl_le {n k : Nat} (h : n < 2 ^ k) : bl n ≤ k := by
  unfold bl
  by_cases c : n = 0
  · rw [if_pos c]; omega
  · rw [if_neg c]; exact (Nat.log2_lt c).mpr h
theorem top_bl {n : Nat} (h : 0 < bl n) : 2 ^ (bl n - 1) ≤ n := by
  unfold bl at *
  by_cases c : n = 0
  · rw [if_pos c] at h; omega
  · rw [if_neg c]; exact Nat.log2_self_le c
theorem cut_top {a b k : Nat} (a1 : 2 ^ k ≤ a) (a2 : a < 2 ^ (k + 1)) (b1 : 2 ^ k ≤ b) (b2 : b < 2 ^ (k + 1)) : a ^^^ b < 2 ^ k := by
  have ha : a = 2 ^ k + a % 2 ^ k := by
    have h1 : a / 2 ^ k = 1 := by
      refine Nat.div_eq_of_lt_le (by omega) (by rw [Nat.pow_succ] at a2; omega)
    have := Nat.div_add_mod a (2 ^ k)
    rw [h1] at this
    omega
  have hb : b = 2 ^ k + b % 2 ^ k := by
    have h1 : b / 2 ^ k = 1 := by
      refine Nat.div_eq_of_lt_le (by omega) (by rw [Nat.pow_succ] at b2; omega)
    have := Nat.div_add_mod b (2 ^ k)
    rw [h1] at this
    omega
  refine Nat.lt_pow_two_of_testBit _ fun i hi => ?_
  rw [Nat.testBit_xor]
  by_cases e : i = k
  · subst e
    have t1 : a.testBit i = true := by rw [ha]; exact (Nat.testBit_two_pow_add_eq _ _).trans (by rw [Nat.testBit_lt_two_pow (Nat.mod_lt _ (Nat.two_pow_pos _))]; rfl)
    have t2 : b.testBit i = true := by rw [hb]; exact (Nat.testBit_two_pow_add_eq _ _).trans (by rw [Nat.testBit_lt_two_pow (Nat.mod_lt _ (Nat.two_pow_pos _))]; rfl)
    rw [t1, t2]
    rfl
  · have le : 2 ^ (k + 1) ≤ 2 ^ i := Nat.pow_le_pow_right (by decide) (by omega)
    rw [Nat.testBit_lt_two_pow (Nat.lt_of_lt_of_le a2 le), Nat.testBit_lt_two_pow (Nat.lt_of_lt_of_le b2 le)]
    rfl
def ruleAt (r : Nat) : Nat := 2147483657 * 2 ^ (bl r - 32)
theorem bl_down {r : Nat} (h : 32 ≤ bl r) : bl (r ^^^ ruleAt r) ≤ bl r - 1 := by
  refine bl_le (cut_top (top_bl (by omega)) ?_ ?_ ?_)
  · have := lt_bl r
    rw [show bl r - 1 + 1 = bl r by omega]
    exact this
  · unfold ruleAt
    rw [show bl r - 1 = 31 + (bl r - 32) by omega, Nat.pow_add]
    exact Nat.mul_le_mul_right _ (by decide)
  · unfold ruleAt
    rw [show bl r - 1 + 1 = 32 + (bl r - 32) by omega, Nat.pow_add]
    exact Nat.mul_lt_mul_of_pos_right (by decide) (Nat.two_pow_pos _)
def pts : Nat → Int → Nat → Int × Nat
  | 0, q, r => (q, r)
  | n + 1, q, r => if 32 ≤ bl r then pts n (Builtin.bitOr q (1 * 2 ^ ((bl r : Int) - 32).toNat)) (r ^^^ ruleAt r) else (q, r)
theorem pts_s {n : Nat} {q : Int} {r : Nat} : pts (n + 1) q r = if 32 ≤ bl r then pts n (Builtin.bitOr q (1 * 2 ^ ((bl r : Int) - 32).toNat)) (r ^^^ ruleAt r) else (q, r) := rfl
theorem pts_0 {n : Nat} {q : Int} {r : Nat} (h : ¬ 32 ≤ bl r) : pts n q r = (q, r) := by
  cases n with
  | zero => rfl
  | succ n => rw [pts_s, if_neg h]
theorem pts_lt : ∀ (n : Nat) (q : Int) (r : Nat), bl r ≤ 31 + n → (pts n q r).2 < 2 ^ 31
  | 0, q, r, h => Nat.lt_of_lt_of_le (lt_bl r) (Nat.pow_le_pow_right (by decide) h)
  | n + 1, q, r, h => by
    rw [pts_s]
    by_cases c : 32 ≤ bl r
    · rw [if_pos c]
      exact pts_lt n _ _ (by have := bl_down c; omega)
    · rw [if_neg c]
      exact Nat.lt_of_lt_of_le (lt_bl r) (Nat.pow_le_pow_right (by decide) (by omega))
def red (r : Nat) : Nat := (pts 70 0 r).2
theorem red_lt {r : Nat} (h : r < 2 ^ 100) : red r < 2 ^ 31 := pts_lt 70 0 r (by have := bl_le h; omega)
def N_s3_parts : List Str := ["number", "modulus", "quotient", "rest", "width", "shift"]
theorem sc_s3_parts : FnScope N_s3_parts ["number", "modulus"] (defScope s_s3_parts) := ⟨rfl, rfl, rfl, by decide +kernel, rfl, by decide +kernel, by decide +kernel⟩
def sp_s3_parts : Sp := fun vs H Q _ => ∃ r : Nat, vs = [.int r, .int 2147483657] ∧ r < 2 ^ 100 ∧ RetU [.int (pts 70 0 r).1, .int (red r : Nat)] H Q
theorem h_s3_parts (T : Tx K mg) : Has P w K mg base CX0 "s3_parts" 1 ["number", "modulus"] sp_s3_parts :=
  T.has 78 53 rfl rfl rfl sc_s3_parts (fun vs H Q E h => by obtain ⟨a, rfl, _⟩ := h; rfl) rfl (fun | _, _, _, _, _, _, [_, _], _ => rfl) fun cdv A outer s H vs Q E hr h => by
    obtain ⟨r, rfl, hr1, h⟩ := h
    refine ⟨_, (pss_cons (ps_set (i := 2) sc_s3_parts.nd rfl (Or.inl rfl) pe_int) (pss_cons (ps_set (i := 3) sc_s3_parts.nd rfl (Or.inl rfl) (pv 0)) (pss_cons (ps_set (i := 4) sc_s3_parts.nd rfl (Or.inl rfl) (pe_bits (pv 1))) (pss_cons (ps_while PassesOwn.never (pt_cmpR op_ge (pe_bits (pv 3)) (pv 4) (nomark _)) (pss_cons (ps_set (i := 5) sc_s3_parts.nd rfl (Or.inl rfl) (pe_op op_sub (pe_bits (pv 3)) (pv 4))) (pss_cons (ps_set (i := 2) sc_s3_parts.nd rfl (Or.inl rfl) (pe_op op_or (pv 2) (pe_op op_shl pe_int (pv 5)))) (pss_one (ps_set (i := 3) sc_s3_parts.nd rfl (Or.inl rfl) (pe_op op_xor (pv 3) (pe_op op_shlN (pv 1) (pv 5)))))))) (pss_one (ps_ret (pe_tup (pa_cons (pv 2) (pa_cons (pv 3) pa_nil))))))))), ?_⟩
    refine q_asg (v := .int 0) ev_c fun H1 e1 => q_asg (v := .int (r : Nat)) (ev_var rfl) fun H2 e2 => q_asg (v := .int 32) (ev_is (ev_bits (ev_var rfl)) (by decide +kernel)) fun H3 e3 => ?_
    refine q_while (fun m σ' H' => Ex H H' ∧ ∃ (q : Int) (y : Nat) (x : Option V), σ' = [some (.int r), some (.int 2147483657), some (.int q), some (.int y), some (.int 32), x] ∧ bl y ≤ 31 + m ∧ y < 2 ^ 101 ∧ pts m q y = pts 70 0 r) 70
      ⟨(e1.trans e2).trans e3, 0, r, none, rfl, by have := bl_le hr1; omega, by omega, rfl⟩ (fun m σ' H4 W => ?_)
    obtain ⟨e4, q, y, x, rfl, hm, hy, hl⟩ := W
    refine ⟨decide ((32 : Int) ≤ (bl y : Int)), et_test (ev_is (ev_op (ev_bits (ev_var rfl)) (ev_var rfl) rv_I0) (by rw [bits_nat])), fun k H5 e5 => ?_, fun k H5 e5 => ?_⟩
    · have yp : (32 : Int) ≤ (bl y : Int) := of_decide_eq_true k
      have yn : 32 ≤ bl y := by omega
      cases m with
      | zero => exact absurd hm (by omega)
      | succ n =>
        refine ⟨_, fun σ2 H2 W => ⟨n, Nat.lt_succ_self n, W⟩, ?_⟩
        have b101 : bl y ≤ 101 := bl_le hy
        have cast : ((bl y - 32 : Nat) : Int) = (bl y : Int) - 32 := by omega
        refine q_asg (v := .int ((bl y : Int) - 32)) (ev_is (ev_op (ev_bits (ev_var rfl)) (ev_var rfl) rv_I0) (by rw [bits_nat])) fun H6 e6 => ?_
        refine q_asg (v := .int (Builtin.bitOr q (1 * 2 ^ ((bl y : Int) - 32).toNat))) (ev_op (ev_var rfl) (ev_op ev_c (ev_var rfl) (rv_I (cpow (by omega) (by omega) (by decide)))) rv_I0) fun H7 e7 => ?_
        refine s_asg (v := .int (((y ^^^ ruleAt y : Nat)) : Int)) ?_ fun H8 e8 => ⟨Ex.trans (Ex.trans (Ex.trans e4 e5) (Ex.trans e6 e7)) e8, _, _, _, rfl, ?_, ?_, ?_⟩
        · rw [← xor_nat]
          refine ev_op (ev_var rfl) (ev_op (ev_var rfl) (ev_var rfl) (rv_val (z := .int ((ruleAt y : Nat) : Int)) fun H' _ Q q => ?_)) rv_I0
          refine ⟨2147483657, bl y - 32, rfl, by rw [cast], shl_ok (n := 32) (by decide) (by omega), ?_⟩
          have e : ((ruleAt y : Nat) : Int) = 2147483657 * 2 ^ (bl y - 32) := by
            unfold ruleAt
            rw [Int.natCast_mul, Int.natCast_pow]
            rfl
          rw [e] at q
          exact q
        · have := bl_down yn; omega
        · have h1 := bl_down yn
          refine Nat.lt_of_lt_of_le (lt_bl _) (Nat.pow_le_pow_right (by decide) (by omega))
        · rw [pts_s, if_pos yn] at hl
          exact hl
    · have yp : ¬ (32 : Int) ≤ (bl y : Int) := of_decide_eq_false k
      have yn : ¬ 32 ≤ bl y := by omega
      rw [pts_0 yn] at hl
      refine s_retW (ew_is (ew_tup (ea_cons (ev_var rfl) (ea_cons (ev_var rfl) ea_nil)) (Nat.le_of_ble_eq_true rfl)) ?_) (rau h (Ex.trans e4 e5))
      unfold red
      rw [← hl]
end
end Kx
set_option Elab.async false
set_option linter.all false
set_option maxRecDepth 100000
set_option maxHeartbeats 2000000
namespace Kx
open PySem PySem.Spec PyProof.Rows L2 Evl
open He (ga ma)
section
variable {P : Program} {w : World} {K : PySem.W.Frag} {mg : Str → Option Value} {base : Heap}
def pmul (a b : Nat) : Nat := red (prod a b)
theorem prod_lt {a b : Nat} (ha : a < 2 ^ 40) : prod a b < 2 ^ 100 := prl_lt 40 0 a b (by decide) (by omega)
theorem pmul_lt {a b : Nat} (ha : a < 2 ^ 31) : pmul a b < 2 ^ 31 := red_lt (prod_lt (by omega))
def pwl : Nat → Nat → Nat → Int → Nat
  | 0, f, _, _ => f
  | n + 1, f, s, l => if 0 < l then pwl n (if l % 2 = 1 then pmul f s else f) (pmul s s) (l / 2) else f
theorem pwl_s {n f s : Nat} {l : Int} : pwl (n + 1) f s l = if 0 < l then pwl n (if l % 2 = 1 then pmul f s else f) (pmul s s) (l / 2) else f := rfl
theorem pwl_0 {n f s : Nat} {l : Int} (h : ¬ 0 < l) : pwl n f s l = f := by
  cases n with
  | zero => rfl
  | succ n => rw [pwl_s, if_neg h]
theorem pwl_lt : ∀ (n f s : Nat) (l : Int), f < 2 ^ 31 → s < 2 ^ 31 → pwl n f s l < 2 ^ 31
  | 0, _, _, _, h, _ => h
  | n + 1, f, s, l, h, h2 => by
    rw [pwl_s]
    by_cases c : 0 < l
    · rw [if_pos c]
      refine pwl_lt n _ _ _ ?_ (pmul_lt h2)
      by_cases d : l % 2 = 1
      · rw [if_pos d]; exact pmul_lt h
      · rw [if_neg d]; exact h
    · rw [if_neg c]; exact h
def xpow (e : Int) : Nat := pwl 31 (red 1) (red 2) e
theorem xpow_lt (e : Int) : xpow e < 2 ^ 31 := pwl_lt _ _ _ _ (red_lt (by decide)) (red_lt (by decide))
def N_s3_power : List Str := ["number", "steps", "modulus", "found", "square", "left"]
theorem sc_s3_power : FnScope N_s3_power ["number", "steps", "modulus"] (defScope s_s3_power) := ⟨rfl, rfl, rfl, by decide +kernel, rfl, by decide +kernel, by decide +kernel⟩
theorem h_s3_power (T : Tx K mg) : Has P w K mg base CX0 "s3_power" 2 ["number", "steps", "modulus"] (fun vs H Q _ => ∃ e : Int, vs = [.int 2, .int e, .int 2147483657] ∧ (0 ≤ e ∧ e < 2147483648) ∧ RetV (.int (xpow e : Nat)) H Q) :=
  have h_s3_parts := h_s3_parts (P := P) (w := w) (base := base) T
  have h_s3_product := h_s3_product (P := P) (w := w) (base := base) T
  T.has 79 54 rfl rfl rfl sc_s3_power (fun vs H Q E h => by obtain ⟨a, rfl, _⟩ := h; rfl) rfl (fun | _, _, _, _, _, _, [_, _, _], _ => rfl) fun cdv A outer s H vs Q E hr h => by
    obtain ⟨e, rfl, ⟨c0, c1⟩, h⟩ := h
    refine ⟨_, (pss_cons (ps_set (i := 3) sc_s3_power.nd rfl (Or.inl rfl) (pe_ix ix_tup (pe_h h_s3_parts (hr.mono (by decide)) pass0 (pa_cons pe_int (pa_cons (pv 2) pa_nil))) pe_int (fun _ _ => rfl))) (pss_cons (ps_set (i := 4) sc_s3_power.nd rfl (Or.inl rfl) (pe_ix ix_tup (pe_h h_s3_parts (hr.mono (by decide)) pass0 (pa_cons (pv 0) (pa_cons (pv 2) pa_nil))) pe_int (fun _ _ => rfl))) (pss_cons (ps_set (i := 5) sc_s3_power.nd rfl (Or.inl rfl) (pv 1)) (pss_cons (ps_while PassesOwn.never (pt_cmpR op_gt (pv 5) pe_int (nomark _)) (pss_cons (ps_if (pt_cmpR op_eq (pe_op (op_mask (c := 1) (m := 2) 1 (by decide) (by decide)) (pv 5) pe_int) pe_int (nomark _)) (pss_one (ps_set (i := 3) sc_s3_power.nd rfl (Or.inl rfl) (pe_ix ix_tup (pe_h h_s3_parts (hr.mono (by decide)) pass0 (pa_cons (pe_h h_s3_product (hr.mono (by decide)) pass0 (pa_cons (pv 3) (pa_cons (pv 4) pa_nil))) (pa_cons (pv 2) pa_nil))) pe_int (fun _ _ => rfl)))) pss_nil) (pss_cons (ps_set (i := 4) sc_s3_power.nd rfl (Or.inl rfl) (pe_ix ix_tup (pe_h h_s3_parts (hr.mono (by decide)) pass0 (pa_cons (pe_h h_s3_product (hr.mono (by decide)) pass0 (pa_cons (pv 4) (pa_cons (pv 4) pa_nil))) (pa_cons (pv 2) pa_nil))) pe_int (fun _ _ => rfl))) (pss_one (ps_set (i := 5) sc_s3_power.nd rfl (Or.inl rfl) (pe_op (op_shrK (c := 1) 1 (by decide)) (pv 5) pe_int)))))) (pss_one (ps_ret (pv 3))))))), ?_⟩
    have parts : ∀ {te tm ti : TE} {σ : L2.St} {H' : Hp} (r : Nat), r < 2 ^ 100 → Ev te σ H' (.int (r : Nat)) → Ev tm σ H' (.int 2147483657) → Ev ti σ H' (.int 1) → Ev (tOp (rIxT K) (tCall sp_s3_parts [] E0 (tCons te (tCons tm tNil))) ti) σ H' (.int (red r : Nat)) :=
      fun r hr he hm hi => ev_ixW (ew_call (ea_cons he (ea_cons hm ea_nil)) (fun H6 e6 Q' k' E' => ⟨r, rfl, hr, k'⟩)) hi rfl
    refine q_asg (v := .int (red 1 : Nat)) (parts 1 (by decide) ev_c (ev_var rfl) ev_c) fun H1 e1 => q_asg (v := .int (red 2 : Nat)) (parts 2 (by decide) (ev_var rfl) (ev_var rfl) ev_c) fun H2 e2 => q_asg (v := .int e) (ev_var rfl) fun H3 e3 => ?_
    refine q_while (fun m σ' H' => Ex H H' ∧ ∃ (f s : Nat) (l : Int), σ' = [some (.int 2), some (.int e), some (.int 2147483657), some (.int f), some (.int s), some (.int l)] ∧ f < 2 ^ 31 ∧ s < 2 ^ 31 ∧ (0 ≤ l ∧ l < 2 ^ m) ∧ pwl m f s l = xpow e) 31
      ⟨(e1.trans e2).trans e3, red 1, red 2, e, rfl, red_lt (by decide), red_lt (by decide), by omega, rfl⟩ (fun m σ' H4 W => ?_)
    obtain ⟨e4, f, s, l, rfl, hf, hs, ⟨l0, lm⟩, hl⟩ := W
    refine ⟨decide (0 < l), et_test (ev_op (ev_var rfl) ev_c rv_I0), fun k H5 e5 => ?_, fun k H5 e5 => ?_⟩
    · have yp : 0 < l := of_decide_eq_true k
      cases m with
      | zero => exact absurd lm (by omega)
      | succ n =>
        refine ⟨_, fun σ2 H2 W => ⟨n, Nat.lt_succ_self n, W⟩, ?_⟩
        have half : 0 ≤ l / 2 ∧ l / 2 < 2 ^ n := by
          rw [Int.pow_succ] at lm
          omega
        have pm : ∀ {ta tb tm ti : TE} {σ : L2.St} {H' : Hp} (a b : Nat), a < 2 ^ 31 → b < 2 ^ 31 → Ev ta σ H' (.int (a : Nat)) → Ev tb σ H' (.int (b : Nat)) → Ev tm σ H' (.int 2147483657) → Ev ti σ H' (.int 1) →
            Ev (tOp (rIxT K) (tCall sp_s3_parts [] E0 (tCons (tCall (fun vs H Q _ => ∃ a b : Nat, vs = [.int a, .int b] ∧ a < 2 ^ 40 ∧ b < 2 ^ 40 ∧ RetV (.int (prod a b : Nat)) H Q) [] E0 (tCons ta (tCons tb tNil))) (tCons tm tNil))) ti) σ H' (.int (pmul a b : Nat)) :=
          fun a b h1 h2 g1 g2 g3 g4 => parts (prod a b) (prod_lt (by omega)) (ev_call (ea_cons g1 (ea_cons g2 ea_nil)) (fun H6 e6 Q' k' E' => ⟨a, b, rfl, by omega, by omega, k'⟩)) g3 g4
        refine q_ifAsg (v := .int ((if l % 2 = 1 then pmul f s else f : Nat) : Int)) (et_test (ev_op (ev_op (ev_var rfl) ev_c rv_mask) ev_c (rv_eq rfl))) (fun k2 => ?_) (fun k2 => ?_) fun H6 e6 => ?_
        · have y2 : l % 2 = 1 := V.int.inj (of_decide_eq_true k2)
          rw [if_pos y2]
          exact pm f s hf hs (ev_var rfl) (ev_var rfl) (ev_var rfl) ev_c
        · have y2 : ¬ l % 2 = 1 := fun z => (of_decide_eq_false k2) (by rw [z])
          rw [if_neg y2]
          rfl
        refine q_asg (pm s s hs hs (ev_var rfl) (ev_var rfl) (ev_var rfl) ev_c) fun H7 e7 => s_asg (ev_op (ev_var rfl) ev_c rv_shrK) fun H8 e8 => ?_
        refine ⟨Ex.trans (Ex.trans (Ex.trans e4 e5) (Ex.trans e6 e7)) e8, _, pmul s s, l / 2, rfl, ?_, pmul_lt hs, half, ?_⟩
        · by_cases y2 : l % 2 = 1
          · rw [if_pos y2]; exact pmul_lt hf
          · rw [if_neg y2]; exact hf
        · rw [pwl_s, if_pos yp] at hl
          exact hl
    · have yn : ¬ 0 < l := of_decide_eq_false k
      rw [pwl_0 yn] at hl
      subst hl
      exact s_ret (ev_var rfl) fun H6 e6 => h H6 (Ex.trans (Ex.trans e4 e5) e6)
def N_power_of : List Str := ["number", "steps", "modulus"]
theorem sc_power_of : FnScope N_power_of ["number", "steps", "modulus"] (defScope s_power_of) := ⟨rfl, rfl, rfl, by decide +kernel, rfl, by decide +kernel, by decide +kernel⟩
theorem h_power_of (T : Tx K mg) : Has P w K mg base CX0 "power_of" 5 ["number", "steps", "modulus"] (fun vs H Q _ => ∃ e : Int, vs = [.int 2, .int e, .int 2147483657] ∧ (0 ≤ e ∧ e < 2147483648) ∧ RetV (.int (xpow e : Nat)) H Q) :=
  have h_s3_need := h_s3_need (P := P) (w := w) (base := base) T
  have h_s3_is_whole := h_s3_is_whole (P := P) (w := w) (base := base) T
  have h_s3_need_modulus := h_s3_need_modulus (P := P) (w := w) (base := base) T
  have h_s3_power := h_s3_power (P := P) (w := w) (base := base) T
  T.has 80 55 rfl rfl rfl sc_power_of (fun vs H Q E h => by obtain ⟨a, rfl, _⟩ := h; rfl) rfl (fun | _, _, _, _, _, _, [_, _, _], _ => rfl) fun cdv A outer s H vs Q E hr h => by
    obtain ⟨e, rfl, ⟨c0, c1⟩, h⟩ := h
    refine ⟨_, (pss_cons (ps_expr (pe_hR h_s3_need (hr.mono (by decide)) pass0 (pa_cons (pv 0) pa_nil))) (pss_cons (ps_if (pt_not (pt_val (pe_h h_s3_is_whole (hr.mono (by decide)) pass0 (pa_cons (pv 1) (pa_cons pe_int (pa_cons (pe_op op_shl pe_int pe_int) pa_nil)))))) (pss_one ps_never) pss_nil) (pss_cons (ps_expr (pe_h h_s3_need_modulus (hr.mono (by decide)) pass0 (pa_cons (pv 2) pa_nil))) (pss_one (ps_ret (pe_h h_s3_power (hr.mono (by decide)) pass0 (pa_cons (pv 0) (pa_cons (pv 1) (pa_cons (pv 2) pa_nil))))))))), ?_⟩
    have pk : ∀ i : Int, 0 ≤ i → i < 2 ^ 40 → isPoly i = true := by
      intro i h1 h2
      unfold isPoly
      rw [decide_eq_true h1, decide_eq_true (Int.le_trans (Int.le_of_lt h2) (by decide +kernel))]
      rfl
    refine q_drop (v := .non) (ev_call (ea_cons (ev_var rfl) ea_nil) (spv1 (pk 2 (by decide) (by decide)))) fun H1 e1 => ?_
    refine q_when (b := false) ?_ (fun q => nomatch q) (fun _ H2 e2 => ?_)
    · refine et_is (et_not (et_B (ev_call (ea_cons (ev_var rfl) (ea_cons ev_c (ea_cons (ev_op ev_c ev_c (rv_I (cpow (by decide) (by decide) (by decide)))) ea_nil))) (spv3 trivial)))) ?_
      rw [decide_eq_true c0, decide_eq_true (Int.le_trans (Int.le_of_lt c1) (by decide +kernel))]
      rfl
    · refine q_drop (v := .non) (ev_call (ea_cons (ev_var rfl) ea_nil) (spv1 ⟨pk _ (by decide) (by decide), by decide⟩)) fun H3 e3 => s_retE (ev_call (ea_cons (ev_var rfl) (ea_cons (ev_var rfl) (ea_cons (ev_var rfl) ea_nil))) (fun H6 e6 Q' k' E' => ⟨e, rfl, ⟨c0, c1⟩, k'⟩)) (ra h (Ex.trans (Ex.trans e1 e2) e3))
end
end Kx
set_option Elab.async false
set_option linter.all false
set_option maxRecDepth 100000
set_option maxHeartbeats 2000000
namespace Kx
open PySem PySem.Spec PyProof.Rows L2 Evl
open He (ga ma)
section
variable {P : Program} {w : World} {K : PySem.W.Frag} {mg : Str → Option Value} {base : Heap}
abbrev nV (ws : List Nat) : List V := ws.map fun (n : Nat) => V.int (n : Int)
theorem nV_len {ws : List Nat} : (nV ws).length = ws.length := by simp [nV]
theorem nV_get {ws : List Nat} {i : Nat} (h : i < ws.length) : (nV ws)[i]? = some (.int ((ws.getD i 0 : Nat) : Int)) := by
  rw [List.getElem?_map, List.getElem?_eq_getElem h, List.getD_eq_getElem?_getD, List.getElem?_eq_getElem h]
  rfl
def OkNat (ws : List Nat) : Prop := ∀ n, n ∈ ws → n < 4294967296
theorem isWord_nat {n : Nat} (h : n < 4294967296) : isWord (n : Int) = true := by
  unfold isWord
  rw [decide_eq_true (by omega), decide_eq_true (by omega)]
  rfl
theorem mem_nV {ws : List Nat} {x : V} (h : x ∈ nV ws) : ∃ n, n ∈ ws ∧ x = .int (n : Int) := by
  obtain ⟨i, h1, h2⟩ := List.mem_map.mp h
  exact ⟨i, h1, h2.symm⟩
theorem nV_words {ws : List Nat} (h : OkNat ws) : (nV ws).all vWord = true := by
  refine List.all_eq_true.mpr fun x m => ?_
  obtain ⟨i, hi, rfl⟩ := mem_nV m
  exact isWord_nat (h i hi)
def NotZ (ws : List Nat) : Prop := ∃ n, n ∈ ws ∧ n ≠ 0
def OkRow (ws : List Nat) : Prop := ws.length = 31 ∧ OkNat ws ∧ NotZ ws
theorem row_nz {ws : List Nat} (h : NotZ ws) : (nV ws).all (fun x => decide (x = V.int 0)) = false := by
  obtain ⟨n, m, z⟩ := h
  refine List.all_eq_false.mpr ⟨.int n, List.mem_map.mpr ⟨n, m, rfl⟩, fun e => z ?_⟩
  have := V.int.inj (of_decide_eq_true e)
  omega
def N_s3_need_row : List Str := ["row", "word"]
theorem sc_s3_need_row : FnScope N_s3_need_row ["row"] (defScope s_s3_need_row) := ⟨rfl, rfl, rfl, by decide +kernel, rfl, by decide +kernel, by decide +kernel⟩
def sp_s3_need_row : Sp := fun vs H Q _ => ∃ a ws, vs = [.ref a] ∧ H a = some (.tup (nV ws)) ∧ OkRow ws ∧ RetV .non H Q
theorem h_s3_need_row (T : Tx K mg) : Has P w K mg base CX0 "s3_need_row" 3 ["row"] sp_s3_need_row :=
  have h_is_word := h_is_word (P := P) (w := w) (base := base) T
  T.has 81 56 rfl rfl rfl sc_s3_need_row (fun vs H Q E h => by obtain ⟨a, ws, rfl, _⟩ := h; rfl) rfl (fun | _, _, _, _, _, _, [_], _ => rfl) fun cdv A outer s H vs Q E hr h => by
    obtain ⟨a, ws, rfl, ha, ⟨c1, c2, c3⟩, h⟩ := h
    refine ⟨_, (pss_cons (ps_if (PW.pt (pw_or (pt_not (pt_val (pe_isB T 4 rfl boot_tupleT (pv 0)))) (pw_or (pt_cmpR op_ne (pe_callB call_len (by rfl) (T.fre 1 _ rfl) PySem.boot_len (pa_cons (pv 0) pa_nil)) (pe_num T 13 rfl) (nomark _)) (pw_or1 (pt_not (pt_val (pe_callB (cr_all rfl) (by rfl) (T.fre 2 _ rfl) boot_allB (pa_cons (pe_lc (own := [("word", 1)]) (g := gName 1) (tt := tYes) rfl sc_s3_need_row.nd (pi_tup (pv 0)) (blkOk_by (own := [("word", 1)]) (N := N_s3_need_row) (sc := defScope s_s3_need_row) (by decide +kernel)) (fun _ _ _ _ _ => pg_name (i := 1) sc_s3_need_row.nd rfl (Or.inl rfl)) (fun _ _ _ _ _ => pts_nil) (fun _ _ _ _ _ => (pe_h h_is_word (hr.mono (by decide)) pass0 (pa_cons (pv 1) pa_nil)))) pa_nil)))))))) (pss_one ps_never) pss_nil) (pss_one (ps_if (pt_val (pe_callB (cr_all rfl) (by rfl) (T.fre 2 _ rfl) boot_allB (pa_cons (pe_lc (own := [("word", 1)]) (g := gName 1) (tt := tYes) rfl sc_s3_need_row.nd (pi_tup (pv 0)) (blkOk_by (own := [("word", 1)]) (N := N_s3_need_row) (sc := defScope s_s3_need_row) (by decide +kernel)) (fun _ _ _ _ _ => pg_name (i := 1) sc_s3_need_row.nd rfl (Or.inl rfl)) (fun _ _ _ _ _ => pts_nil) (fun _ _ _ _ _ => (pe_cmpR op_eq (pv 1) pe_int (nomark _)))) pa_nil))) (pss_one ps_never) pss_nil))), ?_⟩
    refine q_when (b := false) ?_ (fun q => nomatch q) (fun _ H1 e1 => s_when (b := false) ?_ (fun q => nomatch q) (fun _ H2 e2 => h _ (Ex.trans e1 e2)))
    · refine et_is (a := !true || (!decide (V.int ((nV ws).length : Nat) = V.int 31) || !(nV ws).all vWord)) ?_ (by rw [nV_words c2, nV_len, c1]; rfl)
      refine et_or0 (et_not (et_B (ev_isBtt (ev_var rfl) ha))) (et_or0 (et_test (ev_op (ev_lenT (ev_var rfl) ha) ev_c (rv_ne rfl))) (et_not (et_B ?_)))
      refine ev_allT vWord (ev_var rfl) ha (by rw [nV_len]; omega) (fun x => rfl) (fun x m H1 e => ?_)
      obtain ⟨i, hi, rfl⟩ := mem_nV m
      exact ev_call (ea_cons (ev_var rfl) ea_nil) (spv1 trivial)
    · refine et_is (et_B ?_) (row_nz c3)
      refine ev_allT _ (ev_var rfl) (e1 _ _ ha) (by rw [nV_len]; omega) (fun x => rfl) (fun x m H1 e => ?_)
      obtain ⟨i, hi, rfl⟩ := mem_nV m
      exact ev_op (ev_var rfl) ev_c (rv_eq rfl)
def extIt (row : List Nat) : Nat → List Nat
  | 0 => row
  | i + 1 => extIt row i ++ [(extIt row i).getD i 0 ^^^ (extIt row i).getD (i + 3) 0]
theorem extIt_len {row : List Nat} (h : row.length = 31) : ∀ i, (extIt row i).length = 31 + i
  | 0 => h
  | i + 1 => by
    show (extIt row i ++ [_]).length = _
    rw [List.length_append, extIt_len h i]
    rfl
theorem nVa (xs : List Nat) (n : Nat) : nV xs ++ [.int (n : Int)] = nV (xs ++ [n]) := by simp [nV]
def placesOf (x : Nat) : List Nat := (List.range 31).filter fun p => decide (V.int ((x : Int) / 2 ^ p % 2) = V.int 1)
def movW (ext places : List Nat) (b : Nat) : Nat := places.foldl (fun w p => w ^^^ ext.getD (b + p) 0) 0
def movedBy (row : List Nat) (x : Nat) : List Nat := (List.range 31).map (movW (extIt row 30) (placesOf x))
def movedRow (row : List Nat) (steps : Int) : List Nat := movedBy row (xpow (steps % 2147483647))
def N_s3_moved : List Str := ["state", "steps", "power", "row", "at", "places", "place", "found", "begin", "word"]
theorem sc_s3_moved : FnScope N_s3_moved ["state", "steps"] (defScope s_s3_moved) := ⟨rfl, rfl, rfl, by decide +kernel, rfl, by decide +kernel, by decide +kernel⟩
def sp_s3_moved : Sp := fun vs H Q _ => ∃ a ws st, vs = [.ref a, .int st] ∧ H a = some (.tup (nV ws)) ∧ ws.length = 31 ∧ RetU (nV (movedRow ws st)) H Q
theorem foldl_take {α β : Type} (f : β → α → β) (b : β) {xs : List α} {i : Nat} {x : α} (h : xs[i]? = some x) : (xs.take (i + 1)).foldl f b = f ((xs.take i).foldl f b) x := by
  rw [List.take_add_one, h, Option.toList_some, List.foldl_append]
  rfl
theorem h_s3_moved (T : Tx K mg) : Has P w K mg base CX0 "s3_moved" 6 ["state", "steps"] sp_s3_moved :=
  have h_power_of := h_power_of (P := P) (w := w) (base := base) T
  T.has 82 57 rfl rfl rfl sc_s3_moved (fun vs H Q E h => by obtain ⟨a, ws, st, rfl, _⟩ := h; rfl) rfl (fun | _, _, _, _, _, _, [_, _], _ => rfl) fun cdv A outer s H vs Q E hr h => by
    obtain ⟨a, row, st, rfl, ha, hlen, h⟩ := h
    refine ⟨_, (pss_cons (ps_set (i := 2) sc_s3_moved.nd rfl (Or.inr rfl) (pe_h h_power_of (hr.mono (by decide)) pass0 (pa_cons pe_int (pa_cons (pe_op (op_modK (m := 2147483647) (by decide)) (pv 1) (pe_num T 16 rfl)) (pa_cons (pe_num T 15 rfl) pa_nil))))) (pss_cons (ps_set (i := 3) sc_s3_moved.nd rfl (Or.inl rfl) (pe_callTy call_list_of (by rfl) (T.fre 5 _ rfl) boot_listT (pa_cons (pv 0) pa_nil))) (pss_cons (ps_for PassesOwn.never rfl (pi_range1 (by rfl) (T.fre 3 _ rfl) (pa_cons (pe_op op_sub (pe_num T 13 rfl) pe_int) pa_nil)) (pg_name (i := 4) sc_s3_moved.nd rfl (Or.inl rfl)) (pss_one (ps_expr (pe_bm PySem.F.plainAttrs_list PySem.F.slot_list_append PySem.F.type_list_append mt_append (pv 3) (pa_cons (pe_op op_xor (pe_ix ix_list (pv 3) (pv 4) (fun _ _ => rfl)) (pe_ix ix_list (pv 3) (pe_op op_add (pv 4) (pe_num T 14 rfl)) (fun _ _ => rfl))) pa_nil))))) (pss_cons (ps_setLc (i := 5) (own := [("place", 6)]) (g := gName 6) rfl sc_s3_moved.nd rfl rfl (sw_true rfl rfl rfl (by decide +kernel)) (pi_range1 (by rfl) (T.fre 3 _ rfl) (pa_cons (pe_num T 13 rfl) pa_nil)) (blkOk_by (own := [("place", 6)]) (N := N_s3_moved) (sc := defScope s_s3_moved) (by decide +kernel)) (fun _ _ _ _ _ => pg_name (i := 6) sc_s3_moved.nd rfl (Or.inl rfl)) (fun _ _ _ _ _ => pts_one (pt_cmpR op_eq (pe_op (op_mask (c := 1) (m := 2) 1 (by decide) (by decide)) (pe_op op_shr (pv 2) (pv 6)) pe_int) pe_int (nomark _))) (fun _ _ _ _ _ => (pv 6))) (pss_cons (ps_set (i := 7) sc_s3_moved.nd rfl (Or.inl rfl) (pe_lst pa_nil)) (pss_cons (ps_for PassesOwn.never rfl (pi_range1 (by rfl) (T.fre 3 _ rfl) (pa_cons (pe_num T 13 rfl) pa_nil)) (pg_name (i := 8) sc_s3_moved.nd rfl (Or.inl rfl)) (pss_cons (ps_set (i := 9) sc_s3_moved.nd rfl (Or.inl rfl) pe_int) (pss_cons (ps_for PassesOwn.never rfl (pi_list (pv 5)) (pg_name (i := 6) sc_s3_moved.nd rfl (Or.inl rfl)) (pss_one (ps_set (i := 9) sc_s3_moved.nd rfl (Or.inl rfl) (pe_op op_xor (pv 9) (pe_ix ix_list (pv 3) (pe_op op_add (pv 8) (pv 6)) (fun _ _ => rfl)))))) (pss_one (ps_expr (pe_bm PySem.F.plainAttrs_list PySem.F.slot_list_append PySem.F.type_list_append mt_append (pv 7) (pa_cons (pv 9) pa_nil))))))) (pss_one (ps_ret (pe_callTy call_tuple_of (by rfl) (T.fre 4 _ rfl) boot_tupleT (pa_cons (pv 7) pa_nil)))))))))), ?_⟩
    refine q_asg (v := .int (xpow (st % 2147483647) : Nat)) (ev_call (ea_cons ev_c (ea_cons (ev_op (ev_var rfl) ev_c rv_modK) (ea_cons ev_c ea_nil))) (fun H6 e6 Q' k' E' => ⟨st % 2147483647, rfl, by omega, k'⟩)) fun H1 e1 => ?_
    refine q_asgL (el_listT (ev_var rfl) (e1 _ _ ha)) fun p H2 hp e2 h2 => ?_
    refine q_forR1 (n := 31 - 1) (ea_cons (ev_op ev_c ev_c rv_I0) ea_nil) (by decide) (fun i σ' H' => Ex H1 H' ∧ H' p = some (.lst (nV (extIt row i))) ∧ ∃ x : Option V, σ' = [some (.ref a), some (.int st), some (.int (xpow (st % 2147483647) : Nat)), some (.ref p), x, none, none, none, none, none]) (fun H3 e3 => ⟨e2.trans e3, e3 _ _ h2, none, rfl⟩) (fun i σ' H3 hi W => ?_) (fun σ' H3 W => ?_)
    · obtain ⟨e3, hl, x, rfl⟩ := W
      have len := extIt_len hlen i
      have hi' : i < 30 := by omega
      refine s_app (v := .int (((extIt row i).getD i 0 ^^^ (extIt row i).getD (i + 3) 0 : Nat) : Int)) hl (ev_var rfl) ?_ (by rw [nV_len, len]; omega) fun H4 e4 => ⟨Ex.mut (e3.trans e4) hp, ?_, _, rfl⟩
      · rw [← xor_nat]
        exact ev_op (ev_ixL (ev_var rfl) hl (ev_var rfl) (atI_nat (nV_get (by omega)))) (ev_ixL (ev_var rfl) hl (ev_is (ev_op (ev_var rfl) ev_c rv_I0) (by rw [Int.natCast_add]; rfl)) (atI_nat (nV_get (i := i + 3) (by omega)))) rv_I0
      · rw [upd_same, nVa]
        rfl
    obtain ⟨e3, hl, x, rfl⟩ := W
    have len := extIt_len hlen 30
    have hl : H3 p = some (.lst (nV (extIt row 30))) := hl
    refine q_asgL (xs := nV (placesOf (xpow (st % 2147483647)))) (el_is (lc_r (n := 31) (fun q => decide (V.int ((xpow (st % 2147483647) : Int) / 2 ^ q % 2) = V.int 1)) (fun q => .int (q : Int)) (ea_cons ev_c ea_nil) (by decide) (fun x => rfl) (fun q hq H4 e4 => ?_) (fun q hq H4 e4 _ => ev_var rfl)) rfl) fun c H4 hc e4 h4 => ?_
    · exact et_test (ev_op (ev_op (ev_op (ev_var rfl) (ev_var rfl) (rv_I (by omega))) ev_c rv_mask) ev_c (rv_eq rfl))
    refine q_asgL (xs := []) (el_lst ea_nil (by decide)) fun f H5 hf e5 h5 => ?_
    have hl5 := e5 _ _ (e4 _ _ hl)
    have hc5 := e5 _ _ h4
    have pl : ∀ n q, (placesOf (xpow (st % 2147483647)))[n]? = some q → q < 31 := fun n q hq => List.mem_range.mp (List.mem_filter.mp (List.mem_of_getElem? hq)).1
    refine q_forR1 (n := 31) (ea_cons ev_c ea_nil) (by decide) (fun i σ' H' => Ex H4 H' ∧ H' f = some (.lst (nV ((List.range i).map (movW (extIt row 30) (placesOf (xpow (st % 2147483647))))))) ∧
      ∃ y b z : Option V, σ' = [some (.ref a), some (.int st), some (.int (xpow (st % 2147483647) : Nat)), some (.ref p), x, some (.ref c), y, some (.ref f), b, z]) (fun H6 e6 => ⟨e5.trans e6, e6 _ _ h5, none, none, none, rfl⟩) (fun i σ' H6 hi W => ?_) (fun σ' H6 W => ?_)
    · obtain ⟨e6, h6, y, b, z, rfl⟩ := W
      have hi' : i < 31 := by omega
      have hc6 := e6 _ _ h4
      have hl6 := e6 _ _ (e4 _ _ hl)
      refine q_asg (v := .int ((0 : Nat) : Int)) ev_c fun H7 e7 => ?_
      refine q_forLn (xs := nV (placesOf (xpow (st % 2147483647)))) (ev_var rfl) (SqL.of (e7 _ _ hc6)) (fun n σ' H' => Ex H7 H' ∧ ∃ y : Option V, σ' = [some (.ref a), some (.int st), some (.int (xpow (st % 2147483647) : Nat)), some (.ref p), x, some (.ref c), y, some (.ref f), some (.int i), some (.int ((((placesOf (xpow (st % 2147483647))).take n).foldl (fun w p => w ^^^ (extIt row 30).getD (i + p) 0) 0 : Nat) : Int))])
        (fun H8 e8 => ⟨e8, y, rfl⟩) (fun n σ' H8 _ W => SqL.of (W.1 _ _ (e7 _ _ hc6))) (fun n q σ' H8 hq W => ?_) (fun σ' H8 W => ?_)
      · obtain ⟨e8, y, rfl⟩ := W
        obtain ⟨q', hq', rfl⟩ : ∃ q' : Nat, (placesOf (xpow (st % 2147483647)))[n]? = some q' ∧ q = .int (q' : Int) := by
          rw [List.getElem?_map] at hq
          cases k : (placesOf (xpow (st % 2147483647)))[n]? with
          | none => rw [k] at hq; cases hq
          | some q' => rw [k] at hq; exact ⟨q', rfl, (Option.some.inj hq).symm⟩
        have q31 := pl n q' hq'
        refine s_asg (v := .int ((((placesOf (xpow (st % 2147483647))).take (n + 1)).foldl (fun w p => w ^^^ (extIt row 30).getD (i + p) 0) 0 : Nat) : Int)) ?_ fun H9 e9 => ⟨e8.trans e9, _, rfl⟩
        rw [foldl_take _ _ hq', ← xor_nat]
        exact ev_op (ev_var rfl) (ev_ixL (ev_var rfl) (e8 _ _ (e7 _ _ hl6)) (ev_is (ev_op (ev_var rfl) (ev_var rfl) rv_I0) (by rw [← Int.natCast_add])) (atI_nat (nV_get (i := i + q') (by omega)))) rv_I0
      · obtain ⟨e8, y, rfl⟩ := W
        refine s_app (e8 _ _ (e7 _ _ h6)) (ev_var rfl) (ev_var rfl) (by rw [nV_len, List.length_map, List.length_range]; omega) fun H9 e9 => ⟨Ex.mut (((e6.trans e7).trans e8).trans e9) hf, ?_, _, _, _, rfl⟩
        rw [upd_same, nVa, nV_len, List.take_length, List.range_succ, List.map_append]
        rfl
    obtain ⟨e6, h6, y, b, z, rfl⟩ := W
    exact s_retUE (eu_tuple (ev_var rfl) h6) (rau h (Ex.trans (Ex.trans e1 e3) (Ex.trans e4 e6)))
end
end Kx
set_option Elab.async false
set_option linter.all false
set_option maxRecDepth 100000
set_option maxHeartbeats 2000000
namespace Kx
open PySem PySem.Spec PyProof.Rows L2 Evl
open He (ga ma)
/-! ### what stays -/
/-- all but what stands at the places L is as it was; tuples stay -/
structure Only (L : List Addr) (H H' : Hp) : Prop where
  keep : ∀ a o, H a = some o → a ∉ L → H' a = some o
  tups : ∀ a xs, H a = some (.tup xs) → H' a = some (.tup xs)
theorem Only.ex {H H' : Hp} {L : List Addr} (e : Ex H H') : Only L H H' := ⟨fun a o h _ => e a o h, fun a xs h => e a _ h⟩
theorem Only.toEx {H H' : Hp} (o : Only [] H H') : Ex H H' := fun a u h => o.keep a u h (by simp)
theorem Only.refl {H : Hp} {L : List Addr} : Only L H H := Only.ex (Ex.refl _)
theorem Only.trans {L : List Addr} {H H1 H2 : Hp} (a : Only L H H1) (b : Only L H1 H2) : Only L H H2 := ⟨fun x o h n => b.keep x o (a.keep x o h n) n, fun x xs h => b.tups x xs (a.tups x xs h)⟩
theorem Only.mono {L L' : List Addr} {H H' : Hp} (a : Only L H H') (h : ∀ x, x ∈ L → x ∈ L') : Only L' H H' := ⟨fun x o hx n => a.keep x o hx fun m => n (h x m), a.tups⟩
theorem Only.upd {H : Hp} {p : Addr} {o : HO} (h : ∀ xs, H p ≠ some (.tup xs)) : Only [p] H (upd H p o) :=
  ⟨fun a u ha n => by rw [upd_ne (fun e => n (by rw [e]; exact List.mem_singleton.mpr rfl))]; exact ha, fun a xs ha => by rw [upd_ne (fun e => h xs (by rw [← e]; exact ha))]; exact ha⟩
theorem not_tup {H : Hp} {p : Addr} {o : HO} (h : H p = some o) (d : ∀ xs, o ≠ .tup xs) : ∀ xs, H p ≠ some (.tup xs) := fun xs e => d xs (Option.some.inj (h.symm.trans e))
theorem Only.ins {H : Hp} {p C dx : Addr} {fs : List (Str × V)} {o : HO} (h : H p = some (.ins C dx fs)) : Only [p] H (L2.upd H p o) := Only.upd (not_tup h fun _ e => by cases e)
theorem Only.lst {H : Hp} {p : Addr} {xs : List V} {o : HO} (h : H p = some (.lst xs)) : Only [p] H (L2.upd H p o) := Only.upd (not_tup h fun _ e => by cases e)
/-- what changes new places alone changes nothing -/
theorem Only.new {L : List Addr} {H H' : Hp} (a : Only L H H') (h : ∀ x, x ∈ L → H x = none) : Ex H H' := fun x o hx => a.keep x o hx fun m => by rw [h x m] at hx; cases hx
/-! ### fields -/
section
variable {K : PySem.W.Frag} {σ : L2.St} {H H1 H' : Hp} {ta tv : TE} {a C dx : Addr} {fs : List (Str × V)} {f : Str} {y : V} {D : Ends} {tz : TS}
theorem s_fld (h : Ev tv σ H y) (ho : Ev ta σ H (.ref a)) (k : H a = some (.ins C dx fs)) (c : Cls K C) (n : NoAttr K C f) (l : fs.length < 1000) (q : ∀ H1, Ex H H1 → D.nx σ (upd H1 a (.ins C dx (putF f y fs)))) : sFld K ta tv f D σ H :=
  h H (Ex.refl _) _ fun H1 e1 => ho H1 e1 _ fun H2 e2 => ⟨a, C, dx, fs, rfl, (e1.trans e2) _ _ k, c, n, l, q H2 (e1.trans e2)⟩
theorem q_fld (h : Ev tv σ H y) (ho : Ev ta σ H (.ref a)) (k : H a = some (.ins C dx fs)) (c : Cls K C) (n : NoAttr K C f) (l : fs.length < 1000) (q : ∀ H1, Ex H H1 → tz D σ (upd H1 a (.ins C dx (putF f y fs)))) : tSeq (sFld K ta tv f) tz D σ H :=
  s_fld (D := { D with nx := tz D }) h ho k c n l q
theorem s_fldW {xs : List V} (h : EvW tv σ H xs) (ho : Ev ta σ H (.ref a)) (k : H a = some (.ins C dx fs)) (c : Cls K C) (n : NoAttr K C f) (l : fs.length < 1000) (q : ∀ t H1, Ex H H1 → H1 t = some (.tup xs) → D.nx σ (upd H1 a (.ins C dx (putF f (.ref t) fs)))) : sFld K ta tv f D σ H :=
  h H (Ex.refl _) _ fun t H1 e1 ht => ho H1 e1 _ fun H2 e2 => ⟨a, C, dx, fs, rfl, (e1.trans e2) _ _ k, c, n, l, q t H2 (e1.trans e2) (e2 _ _ ht)⟩
theorem q_fldW {xs : List V} (h : EvW tv σ H xs) (ho : Ev ta σ H (.ref a)) (k : H a = some (.ins C dx fs)) (c : Cls K C) (n : NoAttr K C f) (l : fs.length < 1000) (q : ∀ t H1, Ex H H1 → H1 t = some (.tup xs) → tz D σ (upd H1 a (.ins C dx (putF f (.ref t) fs)))) : tSeq (sFld K ta tv f) tz D σ H :=
  s_fldW (D := { D with nx := tz D }) h ho k c n l q
theorem s_fldO (h : Ev tv σ H y) (ho : Ev ta σ H (.ref a)) (k : H a = some (.ins C dx fs)) (c : Cls K C) (n : NoAttr K C f) (l : fs.length < 1000) (q : ∀ H1, Only [a] H H1 → H1 a = some (.ins C dx (putF f y fs)) → D.nx σ H1) : sFld K ta tv f D σ H :=
  s_fld h ho k c n l fun H1 e1 => q _ ((Only.ex e1).trans (Only.ins (e1 _ _ k))) upd_same
theorem q_fldO (h : Ev tv σ H y) (ho : Ev ta σ H (.ref a)) (k : H a = some (.ins C dx fs)) (c : Cls K C) (n : NoAttr K C f) (l : fs.length < 1000) (q : ∀ H1, Only [a] H H1 → H1 a = some (.ins C dx (putF f y fs)) → tz D σ H1) : tSeq (sFld K ta tv f) tz D σ H :=
  s_fldO (D := { D with nx := tz D }) h ho k c n l q
theorem s_fldWO {xs : List V} (h : EvW tv σ H xs) (ho : Ev ta σ H (.ref a)) (k : H a = some (.ins C dx fs)) (c : Cls K C) (n : NoAttr K C f) (l : fs.length < 1000) (q : ∀ t H1, Only [a] H H1 → H1 t = some (.tup xs) → H1 a = some (.ins C dx (putF f (.ref t) fs)) → D.nx σ H1) : sFld K ta tv f D σ H :=
  s_fldW h ho k c n l fun t H1 e1 ht => q t _ ((Only.ex e1).trans (Only.ins (e1 _ _ k))) ((Only.ins (e1 _ _ k)).tups _ _ ht) upd_same
theorem q_fldWO {xs : List V} (h : EvW tv σ H xs) (ho : Ev ta σ H (.ref a)) (k : H a = some (.ins C dx fs)) (c : Cls K C) (n : NoAttr K C f) (l : fs.length < 1000) (q : ∀ t H1, Only [a] H H1 → H1 t = some (.tup xs) → H1 a = some (.ins C dx (putF f (.ref t) fs)) → tz D σ H1) : tSeq (sFld K ta tv f) tz D σ H :=
  s_fldWO (D := { D with nx := tz D }) h ho k c n l q
theorem s_fldL {xs : List V} (h : EvL tv σ H xs) (ho : Ev ta σ H (.ref a)) (k : H a = some (.ins C dx fs)) (c : Cls K C) (n : NoAttr K C f) (l : fs.length < 1000) (q : ∀ b H1, H b = none → Only [a] H H1 → H1 b = some (.lst xs) → H1 a = some (.ins C dx (putF f (.ref b) fs)) → D.nx σ H1) : sFld K ta tv f D σ H :=
  h H (Ex.refl _) _ fun b H1 hb e1 hb1 => ho H1 e1 _ fun H2 e2 => ⟨a, C, dx, fs, rfl, (e1.trans e2) _ _ k, c, n, l, q b _ hb ((Only.ex (e1.trans e2)).trans (Only.ins ((e1.trans e2) _ _ k))) (by
    rw [upd_ne (fun z => by rw [z, k] at hb; cases hb)]
    exact e2 _ _ hb1) upd_same⟩
theorem q_fldL {xs : List V} (h : EvL tv σ H xs) (ho : Ev ta σ H (.ref a)) (k : H a = some (.ins C dx fs)) (c : Cls K C) (n : NoAttr K C f) (l : fs.length < 1000) (q : ∀ b H1, H b = none → Only [a] H H1 → H1 b = some (.lst xs) → H1 a = some (.ins C dx (putF f (.ref b) fs)) → tz D σ H1) : tSeq (sFld K ta tv f) tz D σ H :=
  s_fldL (D := { D with nx := tz D }) h ho k c n l q
end
/-! ### o.f, .. = : a field among the targets of a tuple -/
section
variable {X : Cx} {o : Expr} {f : Str} {pos' : Pos} {ta : TE}
def gFld (K : PySem.W.Frag) (ta : TE) (f : Str) : TG := fun y σ H Q => ta σ H fun x H2 => ∃ a C dx fs, x = .ref a ∧ H2 a = some (.ins C dx fs) ∧ Cls K C ∧ NoAttr K C f ∧ fs.length < 1000 ∧ Q σ (upd H2 a (.ins C dx (putF f y fs)))
theorem pg_fld (ho : PE X o ta) : PG X (.Attribute o f pos') (gFld X.K ta f) := ⟨fun pins s σ H v u Q I r h => PySem.W.kas_attr (thn (ho.run pins s σ H _ I h) fun ov s1 z => by
  obtain ⟨x, H1, I1, rx, a, C, dx, fs, rfl, ea, c, n, l, q⟩ := z
  cases rx
  exact setattr_ok I1 ea c n l r fun s2 I2 => ⟨σ, _, I2, q⟩)⟩
theorem s_asgFF {K : PySem.W.Frag} {te tb : TE} {σ : L2.St} {H : Hp} {D : Ends} {v y : V} {a C dx : Addr} {fs : List (Str × V)} {f g : Str} (h : EvW te σ H [v, y]) (h1 : ∀ H', Ev ta σ H' (.ref a)) (h2 : ∀ H', Ev tb σ H' (.ref a)) (k : H a = some (.ins C dx fs)) (c : Cls K C) (n1 : NoAttr K C f) (n2 : NoAttr K C g) (l : fs.length < 999)
    (q : ∀ H1, Only [a] H H1 → H1 a = some (.ins C dx (putF g y (putF f v fs))) → D.nx σ H1) : tAsg te (gTup K 2 (gCons (gFld K ta f) (gCons (gFld K tb g) gNil))) D σ H :=
  h H (Ex.refl _) _ fun t H1 e1 ht => ⟨t, [v, y], rfl, SqT.of ht, rfl, v, [y], rfl, h1 H1 H1 (Ex.refl _) _ fun H2 e2 => ⟨a, C, dx, fs, rfl, (e1.trans e2) _ _ k, c, n1, by omega, y, [], rfl, h2 _ _ (Ex.refl _) _ fun H3 e3 =>
    ⟨a, C, dx, _, rfl, e3 _ _ upd_same, c, n2, by have := length_putF f v fs; omega, rfl, q _ ((((Only.ex (e1.trans e2)).trans (Only.ins ((e1.trans e2) _ _ k))).trans (Only.ex e3)).trans (Only.ins (e3 _ _ upd_same))) upd_same⟩⟩⟩
end
/-! ### instances -/
theorem Tx.instO {K : PySem.W.Frag} {mg : Str → Option Value} (T : Tx K mg) (i j : Nat) {c : Str} {H : Hp} {a dx : Addr} {fs : List (Str × V)} (hj : facs[j]? = some (fIns c)) (hi : clss[i]? = some c) (e : H a = some (.ins (ga K c) dx fs)) : TyX K H (.ref a) (.ref (ga K c)) := by
  have h := T.fac j _ hj
  obtain ⟨h1, h⟩ := He.ba h
  obtain ⟨h2, h⟩ := He.ba h
  obtain ⟨h3, h4⟩ := He.ba h
  exact .base (.ins e (T.cls i c hi) (He.eqO_ok h1) (He.eqO_ok h2) (of_decide_eq_true h3) (of_decide_eq_true h4))
theorem Tx.kit {K : PySem.W.Frag} {mg : Str → Option Value} (T : Tx K mg) (j : Nat) {c d : Str} {b : Bool} (hj : facs[j]? = some (fKit c d b)) : PySem.W.kitOne K (.ref (ga K c)) (.ref (ga K d)) = some b := of_decide_eq_true (T.fac j _ hj)
theorem Tx.con {K : PySem.W.Frag} {mg : Str → Option Value} (T : Tx K mg) (j : Nat) {c f v : Str} (hj : facs[j]? = some (fCon c f v)) (hc : PySem.W.copiedNames.contains f = false := by decide) : ∃ u, Con K (ga K c) f (.str v) u := He.conB_ok (v := .str v) (T.fac j _ hj) hc
section
variable {K : PySem.W.Frag} {σ : L2.St} {H : Hp} {te : TE} {x : V}
theorem ev_isO {t : Value} {D : Addr} {b : Bool} (h : Ev te σ H x) (ty : ∀ H1, Ex H H1 → TyX K H1 x t) (k : PySem.W.kitOne K t (.ref D) = some b) : Ev (tCB (rIsi K) (tCons te (tCons (tC (.ref D)) tNil))) σ H (.bl b) :=
  fun H1 e Q q => h H1 e _ fun H2 e2 => ⟨x, .ref D, t, .ref D, b, rfl, .own D, ty H2 (e.trans e2), k, q H2 e2⟩
theorem ev_con {a C dx : Addr} {fs : List (Str × V)} {f : Str} {v : V} (h : Ev te σ H (.ref a)) (k : H a = some (.ins C dx fs)) (c : Cls K C) (n : ∃ u, Con K C f v u) (l : fs.lookup f = none) : Ev (tCon K te f) σ H v := by
  obtain ⟨u, n⟩ := n
  exact fun H1 e Q q => h H1 e _ fun H2 e2 => ⟨a, C, dx, fs, v, u, rfl, (e.trans e2) _ _ k, c, n, l, q H2 e2⟩
end
theorem pe_isC {X : Cx} {e : Expr} {te : TE} {pos p p2 : Pos} {y : Str} (T : Tx X.K X.mg) (j : Nat) (hj : glos[j]? = some y) (he : PE X e te) (hg : Gl X "isinstance" := by rfl) (hg2 : Gl X y := by rfl) (hdb : (y == ("__debug__" : Str)) = false := by decide)
    (hst : starEach (e :: [.Name y p2]) X.env = (false, eval e X.env) :: starEach [.Name y p2] X.env := by rfl) (hpl : (backTo pos (starEach [.Name y p2] X.env)).any (·.1) = false := by rfl) (hst2 : starEach [.Name y p2] X.env = (false, eval (.Name y p2) X.env) :: starEach [] X.env := by rfl) :
    PE X (.Call (.Name "isinstance" p) [e, .Name y p2] [] pos) (tCB (rIsi X.K) (tCons te (tCons (tC (.ref (ga X.K y))) tNil))) :=
  pe_callB call_isi hg (T.fre 0 _ rfl) boot_isi (pa_cons he (pa_cons (pe_glo T j hj hg2 hdb) pa_nil hst2) hst) (by decide) (by decide) hst hpl
/-! ### making instances -/
structure HasI (P : Program) (w : World) (K : PySem.W.Frag) (mg : Str → Option Value) (base : Heap) (CX : CXT) (C : Addr) (k : Nat) (ps : List Str) (sp : Sp) : Prop where
  ex : ∃ f fd, FnOk P w K mg base CX k f fd ps sp ∧ Mk K C f ∧ Binds K fd ps []
section
variable {P : Program} {w : World} {K : PySem.W.Frag} {mg : Str → Option Value} {base : Heap}
theorem Tx.hasI (T : Tx K mg) (i j : Nat) {d : He5.DefA} {c : Str} {N ps : List Str} {k : Nat} {sp : Sp} (hd : fns[i]? = some d) (hj : facs[j]? = some (fMkr c)) (hx : d.at_ = fun K => ma K (ga K c) "__init__") (S : FnScope N ps d.scope) (len : ∀ vs H Q E, sp vs H Q E → vs.length = ps.length) (hdf : d.dfl = [])
    (hb : ∀ (kV doc pm : Value) (an : Option Addr) (cdv ct : Value) (us : List Value), us.length = ps.length → bindArgs (PySem.W.fnOf d.name d.qual d.params d.body d.scope .none kV doc pm an cdv ct) ⟨us, []⟩ = pure (ps.zip us))
    (hbody : ∀ (cdv : Value) (A : Around) (outer : List Env) (s : Shared) (H : Hp) (vs : List V) (Q : VK) (E : XK), Room k (A.deeper (envOfC d.qual d.scope s.heap.objs.size (ma K (ga K c) "__init__") cdv)) → sp vs H Q E →
      ∃ t, PSs (cxOf CX0 P w K mg base N d.qual d.scope (ma K (ga K c) "__init__") cdv A outer s H E).nox d.body t ∧ t { nx := fun _ H' => Q .non H', rt := Q } (start N vs) H) : HasI P w K mg base CX0 (ga K c) (k + 1) ps sp := by
  obtain ⟨fd, F⟩ := T.fn i d hd
  have e : d.at_ K = ma K (ga K c) "__init__" := by rw [hx]
  rw [e] at F
  have e2 : d.dvs K = [] := by unfold He5.DefA.dvs; rw [hdf]; rfl
  rw [e2] at F
  exact ⟨_, fd, FunD.ok0 F S len hbody, He.mkr_ok (T.fac j _ hj), F.bindsN hb⟩
end
section
variable {X : Cx} {CX : CXT} {k i : Nat} {C : Addr} {ps : List Str} {sp : Sp} {E : XK} {x : Str} {p pos : Pos} {e : Expr} {es : List Expr} {t : TA}
/-- C(e, ..), C a class of the module -/
theorem pe_hi (h : HasI X.prog X.w X.K X.mg X.base CX C k ps sp) (hr : Room (k + 1) X.A) (hm : X.mg x = some (.ref C)) (hx : Passes CX X E) (ha : PA X (e :: es) t) (hg : Gl X x := by rfl) (hdb : (x == ("__debug__" : Str)) = false := by decide)
    (he : starEach (e :: es) X.env = (false, eval e X.env) :: starEach es X.env := by rfl) (hpl : (backTo pos (starEach es X.env)).any (·.1) = false := by rfl) : PE X (.Call (.Name x p) (e :: es) [] pos) (tMake C sp [] E t) := by
  obtain ⟨f, fd, F, M, hb⟩ := h.ex
  exact pe_make M F hr hg hm hb .nil hx ha hdb he hpl
/-- c(e, ..), c a local name that holds the class -/
theorem pe_hv (h : HasI X.prog X.w X.K X.mg X.base CX C k ps sp) (hr : Room (k + 1) X.A) (hx : Passes CX X E) (hN : X.N[i]? = some x) (hv : Vis X.env.scope x) (ha : PA X (e :: es) t) (hd : (x == ("__debug__" : Str)) = false := by decide) (hcd : (x == ("__classdict__" : Str)) = false := by decide)
    (he : starEach (e :: es) X.env = (false, eval e X.env) :: starEach es X.env := by rfl) (hpl : (backTo pos (starEach es X.env)).any (·.1) = false := by rfl) : PE X (.Call (.Name x p) (e :: es) [] pos) (fun σ H Q => σ[i]? = some (some (.ref C)) ∧ tMake C sp [] E t σ H Q) := by
  obtain ⟨f, fd, F, M, hb⟩ := h.ex
  refine ⟨fun pins s σ H Q I h => ?_⟩
  obtain ⟨hs, h⟩ := h
  have nm := (pe_var (pos := p) (i := i) hN hv hd hcd).run pins s σ H (fun v H1 => v = .ref C ∧ H1 = H) I ⟨.ref C, hs, rfl, rfl⟩
  refine wpAny_Call_Name_kw (thn nm fun u s1 z => ?_)
  obtain ⟨v, H1, I1, r1, rfl, rfl⟩ := z
  cases r1
  exact PySem.W.callWith_K (h₀ := X.base) I.ok.mod.kin M.kp (thn (ha.run pos pins s1 σ H1 _ I1 h) fun us s2 z => by
    obtain ⟨vs, H2, I2, r, q⟩ := z
    exact ⟨I2.kIn, run_make M F hr hb .nil hx I2 r q⟩) he hpl
end
end Kx
namespace Kx
open PySem PySem.Spec PyProof.Rows L2 Evl
open He (ga ma)
/-! ### sources -/
inductive Src where
  | lin (x : Int)
  | cnt (k p : Int)
  | twi (row : List Nat)
  | scr (ws : List Int) (pl : Nat)
def Src.cls : Src → Str
  | .lin _ => "Linear"
  | .cnt _ _ => "Counter"
  | .twi _ => "Twisted"
  | .scr _ _ => "Scripted"
def Src.kind : Src → Str
  | .lin _ => "linear"
  | .cnt _ _ => "counter"
  | .twi _ => "twisted"
  | .scr _ _ => "script"
def SrcAt (K : PySem.W.Frag) (H : Hp) (p : Addr) : Src → Prop
  | .lin x => ∃ dx, H p = some (.ins (ga K "Linear") dx [("s2_x", .int x)])
  | .cnt k q => ∃ dx, H p = some (.ins (ga K "Counter") dx [("s4_key", .int k), ("s4_position", .int q)])
  | .twi row => ∃ dx a, H p = some (.ins (ga K "Twisted") dx [("s3_state", .ref a)]) ∧ H a = some (.tup (nV row))
  | .scr ws pl => ∃ dx a, H p = some (.ins (ga K "Scripted") dx [("s1_script", .ref a), ("s1_place", .int pl)]) ∧ H a = some (.tup (iV ws))
theorem SrcAt.ins {K : PySem.W.Frag} {H : Hp} {p : Addr} {S : Src} (h : SrcAt K H p S) : ∃ dx fs, H p = some (.ins (ga K S.cls) dx fs) := by
  cases S with
  | lin x => obtain ⟨dx, h⟩ := h; exact ⟨dx, _, h⟩
  | cnt k q => obtain ⟨dx, h⟩ := h; exact ⟨dx, _, h⟩
  | twi r => obtain ⟨dx, a, h, _⟩ := h; exact ⟨dx, _, h⟩
  | scr ws pl => obtain ⟨dx, a, h, _⟩ := h; exact ⟨dx, _, h⟩
theorem SrcAt.keep {K : PySem.W.Frag} {H H' : Hp} {p : Addr} {S : Src} {L : List Addr} (h : SrcAt K H p S) (o : Only L H H') (n : p ∉ L) : SrcAt K H' p S := by
  cases S with
  | lin x => obtain ⟨dx, h⟩ := h; exact ⟨dx, o.keep _ _ h n⟩
  | cnt k q => obtain ⟨dx, h⟩ := h; exact ⟨dx, o.keep _ _ h n⟩
  | twi r => obtain ⟨dx, a, h, h2⟩ := h; exact ⟨dx, a, o.keep _ _ h n, o.tups _ _ h2⟩
  | scr ws pl => obtain ⟨dx, a, h, h2⟩ := h; exact ⟨dx, a, o.keep _ _ h n, o.tups _ _ h2⟩
theorem SrcAt.ex {K : PySem.W.Frag} {H H' : Hp} {p : Addr} {S : Src} (h : SrcAt K H p S) (e : Ex H H') : SrcAt K H' p S := h.keep (Only.ex (L := []) e) (by simp)
/-- the steps of the law -/
def LawSteps (s : Int) : Prop := s = 0 ∨ s = 1 ∨ s = 2 ∨ s = 5 ∨ s = 1000003 ∨ s = 18446744073709551616
theorem LawSteps.ok {s : Int} (h : LawSteps s) : okSteps s := by
  unfold LawSteps at h
  unfold okSteps
  omega
def Src.Valid : Src → Prop
  | .lin x => isNum x = true
  | .cnt k q => isKey k = true ∧ 0 ≤ q ∧ q < 36893488147419103232
  | .twi row => OkRow row
  | .scr ws pl => OkScr ws ∧ pl ≤ ws.length
inductive Res (α : Type) where
  | ok (a : α) (S : Src)
  | exh (m : Int)
  | bad (g : Int)
def blkWord (k p : Int) : Int := if p % 2 = 1 then (blkIt k (p / 2) 4).2 else (blkIt k (p / 2) 4).1
def linStep (x : Int) : Int := (205891132094649 * x + 11) % 281474976710656
def twiWord (row : List Nat) : Nat := row.getD 0 0 ^^^ row.getD 3 0
def Src.next : Src → Res Int
  | .lin x => .ok (linStep x / 65536) (.lin (linStep x))
  | .cnt k p => .ok (blkWord k p) (.cnt k (posOf (p + 1)))
  | .twi row => .ok (ownTempered (twiWord row : Nat)) (.twi (row.drop 1 ++ [twiWord row]))
  | .scr ws pl => if pl < ws.length then .ok (ws.getD pl 0) (.scr ws (pl + 1)) else .exh ((pl : Int) + 1 - ws.length)
def Src.jump (s : Int) : Src → Res Unit
  | .lin x => .ok () (.lin (moved2 x s))
  | .cnt k p => .ok () (.cnt k (posOf (p + s)))
  | .twi row => .ok () (.twi (movedRow row s))
  | .scr ws pl => if (pl : Int) + s ≤ ws.length then .ok () (.scr ws ((pl : Int) + s).toNat) else .exh ((pl : Int) + s - ws.length)
def Src.back (s : Int) : Src → Res Unit
  | .lin x => .ok () (.lin (moved2 x (0 - s)))
  | .cnt k p => .ok () (.cnt k (posOf (p - s)))
  | .twi row => .ok () (.twi (movedRow row (2147483647 - s % 2147483647)))
  | .scr ws pl => if s ≤ pl then .ok () (.scr ws ((pl : Int) - s).toNat) else .bad s
/-- what a call on the source at p tells, leaves -/
def RetS {α : Type} (K : PySem.W.Frag) (p : Addr) (H : Hp) (r : Res α) (v : α → V) (Q : VK) (E : XK) : Prop := match r with
  | .ok a S' => ∀ H', Only [p] H H' → SrcAt K H' p S' → Q (v a) H'
  | .exh m => ∀ d H', Ex H H' → H' d = some (.xd [("missing", .int m)]) → E (.ref (ga K "Exhausted")) (some d) H'
  | .bad g => ∀ d H', Ex H H' → H' d = some (.xd [("given", .int g)]) → E (.ref (ga K "BadSteps")) (some d) H'
theorem RetS.back {α : Type} {K : PySem.W.Frag} {p : Addr} {H H1 : Hp} {r : Res α} {v : α → V} {Q : VK} {E : XK} (h : RetS K p H r v Q E) (e : Ex H H1) : RetS K p H1 r v Q E := by
  cases r with
  | ok a S => exact fun H' o => h H' ((Only.ex e).trans o)
  | exh m => exact fun d H' e2 => h d H' (e.trans e2)
  | bad g => exact fun d H' e2 => h d H' (e.trans e2)
/-- the promises, for the sources of the class c -/
def spNext (K : PySem.W.Frag) (c : Str) : Sp := fun vs H Q E => ∃ p S, vs = [.ref p] ∧ SrcAt K H p S ∧ S.Valid ∧ S.cls = c ∧ RetS K p H S.next V.int Q E
def spJump (K : PySem.W.Frag) (c : Str) : Sp := fun vs H Q E => ∃ p S s, vs = [.ref p, .int s] ∧ SrcAt K H p S ∧ S.Valid ∧ S.cls = c ∧ LawSteps s ∧ RetS K p H (S.jump s) (fun _ => V.non) Q E
def spBack (K : PySem.W.Frag) (c : Str) : Sp := fun vs H Q E => ∃ p S s, vs = [.ref p, .int s] ∧ SrcAt K H p S ∧ S.Valid ∧ S.cls = c ∧ LawSteps s ∧ RetS K p H (S.back s) (fun _ => V.non) Q E
/-- a new source -/
def RetN (K : PySem.W.Frag) (S : Src) (H : Hp) (Q : VK) : Prop := ∀ x H', H x = none → Ex H H' → SrcAt K H' x S → Q (.ref x) H'
theorem RetN.back {K : PySem.W.Frag} {S : Src} {H H1 : Hp} {Q : VK} (h : RetN K S H Q) (e : Ex H H1) : RetN K S H1 Q := fun x H' n e2 => h x H' (fresh_back e n) (e.trans e2)
def spCopy (K : PySem.W.Frag) (c : Str) : Sp := fun vs H Q _ => ∃ p S, vs = [.ref p] ∧ SrcAt K H p S ∧ S.Valid ∧ S.cls = c ∧ RetN K S H Q
/-- v is the state of S, as data -/
def StAt (H : Hp) (v : V) : Src → Prop
  | .lin x => ∃ a, v = .ref a ∧ H a = some (.tup [.int x])
  | .cnt k q => ∃ a, v = .ref a ∧ H a = some (.tup [.int k, .int (q / 2), .int (q % 2)])
  | .twi row => ∃ a, v = .ref a ∧ H a = some (.tup (nV row))
  | .scr ws pl => ∃ a b, v = .ref a ∧ H a = some (.tup [.ref b, .int pl]) ∧ H b = some (.tup (iV ws))
theorem StAt.keep {H H' : Hp} {v : V} {S : Src} {L : List Addr} (h : StAt H v S) (o : Only L H H') : StAt H' v S := by
  cases S with
  | lin x => obtain ⟨a, h, h1⟩ := h; exact ⟨a, h, o.tups _ _ h1⟩
  | cnt k q => obtain ⟨a, h, h1⟩ := h; exact ⟨a, h, o.tups _ _ h1⟩
  | twi r => obtain ⟨a, h, h1⟩ := h; exact ⟨a, h, o.tups _ _ h1⟩
  | scr ws pl => obtain ⟨a, b, h, h1, h2⟩ := h; exact ⟨a, b, h, o.tups _ _ h1, o.tups _ _ h2⟩
theorem StAt.ex {H H' : Hp} {v : V} {S : Src} (h : StAt H v S) (e : Ex H H') : StAt H' v S := h.keep (Only.ex (L := []) e)
/-- a state is told -/
def RetT (S : Src) (H : Hp) (Q : VK) : Prop := ∀ v H', Ex H H' → StAt H' v S → Q v H'
theorem RetT.back {S : Src} {H H1 : Hp} {Q : VK} (h : RetT S H Q) (e : Ex H H1) : RetT S H1 Q := fun v H' e2 => h v H' (e.trans e2)
def spState (K : PySem.W.Frag) (c : Str) : Sp := fun vs H Q _ => ∃ p S, vs = [.ref p] ∧ SrcAt K H p S ∧ S.Valid ∧ S.cls = c ∧ RetT S H Q
/-- a state is set: the source at p becomes S -/
def RetP (K : PySem.W.Frag) (p : Addr) (S : Src) (H : Hp) (Q : VK) : Prop := ∀ H', Only [p] H H' → SrcAt K H' p S → Q .non H'
theorem RetP.back {K : PySem.W.Frag} {p : Addr} {S : Src} {H H1 : Hp} {Q : VK} (h : RetP K p S H Q) (e : Ex H H1) : RetP K p S H1 Q := fun H' o => h H' ((Only.ex e).trans o)
def spSet (K : PySem.W.Frag) (c : Str) : Sp := fun vs H Q _ => ∃ p v S0 S, vs = [.ref p, v] ∧ SrcAt K H p S0 ∧ S0.cls = c ∧ StAt H v S ∧ S.Valid ∧ S.cls = c ∧ RetP K p S H Q
/-- .. with a source in the same state -/
def spSame (K : PySem.W.Frag) (c : Str) : Sp := fun vs H Q _ => ∃ p q S, vs = [.ref p, .ref q] ∧ SrcAt K H p S ∧ SrcAt K H q S ∧ S.cls = c ∧ S.Valid ∧ RetV (.bl true) H Q
/-- the making: no fields yet at x -/
def spInit (K : PySem.W.Frag) (c : Str) (arg : List V → Hp → Src → Prop) : Sp := fun vs H Q _ => ∃ x dx as S, vs = .ref x :: as ∧ H x = some (.ins (ga K c) dx []) ∧ arg as H S ∧ S.Valid ∧ S.cls = c ∧ RetP K x S H Q
/-- a new one comes from an init -/
theorem made {K : PySem.W.Frag} {c : Str} {arg : List V → Hp → Src → Prop} {E : XK} {S : Src} {H : Hp} {Q : VK} {vs : List V} (ha : ∀ H', Ex H H' → arg vs H' S) (hv : S.Valid) (hc : S.cls = c) (k : RetN K S H Q) :
    ∀ x dx, H x = none → H dx = none → dx ≠ x → spInit K c arg (.ref x :: (vs ++ [])) (upd (upd H dx (.own x)) x (.ins (ga K c) dx [])) (fun v H2 => v = .non ∧ Q (.ref x) H2) E := by
  intro x dx hx hdx ne
  have e : Ex H (upd (upd H dx (.own x)) x (.ins (ga K c) dx [])) := Ex.mut (Ex.new hdx) hx
  refine ⟨x, dx, vs ++ [], S, rfl, upd_same, ?_, hv, hc, fun H' o hs => ⟨rfl, k x H' hx ?_ hs⟩⟩
  · rw [List.append_nil]; exact ha _ e
  · exact ((Only.ex e).trans o).new fun y m => by rw [List.mem_singleton.mp m]; exact hx
theorem s_retMake {C : Addr} {sp : Sp} {E : XK} {t : TA} {vs : List V} {D : Ends} {σ : L2.St} {H : Hp} (h : EvA t σ H vs) (k : ∀ H1, Ex H H1 → ∀ x dx, H1 x = none → H1 dx = none → dx ≠ x → sp (.ref x :: (vs ++ [])) (upd (upd H1 dx (.own x)) x (.ins C dx [])) (fun v H2 => v = .non ∧ D.rt (.ref x) H2) E) :
    tRet (tMake C sp [] E t) D σ H := h H (Ex.refl _) _ k
theorem s_retMakeV {i : Nat} {C : Addr} {sp : Sp} {E : XK} {t : TA} {vs : List V} {D : Ends} {σ : L2.St} {H : Hp} (hs : σ[i]? = some (some (.ref C))) (h : EvA t σ H vs) (k : ∀ H1, Ex H H1 → ∀ x dx, H1 x = none → H1 dx = none → dx ≠ x → sp (.ref x :: (vs ++ [])) (upd (upd H1 dx (.own x)) x (.ins C dx [])) (fun v H2 => v = .non ∧ D.rt (.ref x) H2) E) :
    tRet (fun σ H Q => σ[i]? = some (some (.ref C)) ∧ tMake C sp [] E t σ H Q) D σ H := ⟨hs, h H (Ex.refl _) _ k⟩
/-! ### class methods -/
structure HasC (P : Program) (w : World) (K : PySem.W.Frag) (mg : Str → Option Value) (base : Heap) (CX : CXT) (C : Addr) (m : Str) (k : Nat) (sp : Sp) : Prop where
  ex : ∃ p g, FnR P w K mg base CX k g sp ∧ ClX.CMet K C (.type "type") m p g ∧ ClX.CRead K C (.type "type")
theorem Tx.hasC {P : Program} {w : World} {K : PySem.W.Frag} {mg : Str → Option Value} {base : Heap} (T : Tx K mg) (i j l : Nat) {d : He5.DefA} {c m : Str} {N ps : List Str} {k : Nat} {sp : Sp} (hd : fns[i]? = some d) (hj : facs[j]? = some (fCmet c m)) (hl : facs[l]? = some (fRead c)) (hx : d.at_ = fun K => He5.wf K (ga K c) "classmethod" m)
    (S : FnScope N ps d.scope) (len : ∀ vs H Q E, sp vs H Q E → vs.length = ps.length) (hdf : d.dfl = [])
    (hb : ∀ (kV doc pm : Value) (an : Option Addr) (cdv ct : Value) (us : List Value), us.length = ps.length → bindArgs (PySem.W.fnOf d.name d.qual d.params d.body d.scope .none kV doc pm an cdv ct) ⟨us, []⟩ = pure (ps.zip us))
    (hbody : ∀ (cdv : Value) (A : Around) (outer : List Env) (s : Shared) (H : Hp) (vs : List V) (Q : VK) (E : XK), Room k (A.deeper (envOfC d.qual d.scope s.heap.objs.size (He5.wf K (ga K c) "classmethod" m) cdv)) → sp vs H Q E →
      ∃ t, PSs (cxOf CX0 P w K mg base N d.qual d.scope (He5.wf K (ga K c) "classmethod" m) cdv A outer s H E).nox d.body t ∧ t { nx := fun _ H' => Q .non H', rt := Q } (start N vs) H) : HasC P w K mg base CX0 (ga K c) m (k + 1) sp := by
  obtain ⟨fd, F⟩ := T.fn i d hd
  have e : d.at_ K = He5.wf K (ga K c) "classmethod" m := by rw [hx]
  rw [e] at F
  have e2 : d.dvs K = [] := by unfold He5.DefA.dvs; rw [hdf]; rfl
  rw [e2] at F
  have G := (FunD.ok0 (P := P) (w := w) (mg := mg) (base := base) (sp := sp) F S len hbody).raw (ds := []) (dvs := []) (F.bindsN hb) .nil
  obtain ⟨c1, c2⟩ := He.ba (T.fac j _ hj)
  obtain ⟨r1, r2⟩ := He.ba (T.fac l _ hl)
  exact ⟨_, _, G.imp (fun vs H Q E h => by rw [List.append_nil]; exact h), He5.cmet_of c1 c2, r1, He.eqO_ok r2⟩
section
variable {X : Cx} {CX : CXT} {k : Nat} {sp : Sp} {E : XK} {m : Str} {pos apos : Pos} {e o : Expr} {es : List Expr} {ta : TE} {t : TA} {C : Addr} {pl : Sem Bool}
theorem pe_hc (h : HasC X.prog X.w X.K X.mg X.base CX C m k sp) (hr : Room k X.A) (hx : Passes CX X E) (he : PE X o ta) (ha : PA X (e :: es) t)
    (hst : starEach (e :: es) X.env = (false, eval e X.env) :: starEach es X.env := by rfl) (hpl : (backTo pos (starEach es X.env)).any (·.1) = false := by rfl)
    (ht : eval (.Call (.Attribute o m apos) (e :: es) [] pos) X.env = (do
      let ov ← eval o X.env
      standAt apos.atName
      let (f, first) ← holding [ov] (getMethod ov m pl)
      callWith pos f first (backTo pos (starEach (e :: es) X.env)) (backToKw pos (keywordEach [] X.env))) := by rfl) : PE X (.Call (.Attribute o m apos) (e :: es) [] pos) (ClX.tCMeth C sp E ta t) := by
  obtain ⟨p, g, F, c, r⟩ := h.ex
  exact ClX.pe_cmeth he r c F hr hx ha hst hpl ht
end
/-! ### data, compared deeply -/
def Dn (n : Nat) (d : PyData) : Prop := d.canLay0 = true ∧ d.depth ≤ n
theorem Dn.shaped {n : Nat} {d : PyData} (h : Dn n d) (hn : n ≤ 64) : SeqAt.shaped d = true := by
  unfold SeqAt.shaped
  rw [h.1, decide_eq_true (Nat.le_trans h.2 hn)]
  rfl
theorem dn_int {i : Int} : Dn 0 (.int i) := ⟨by simp [PyData.canLay0], by simp [PyData.depth]⟩
theorem dn_all {n : Nat} : ∀ {ds : List PyData}, (∀ d, d ∈ ds → Dn n d) → PyData.canLayAll0 ds = true ∧ PyData.depthAll ds ≤ n
  | [], _ => ⟨by simp [PyData.canLayAll0], by simp [PyData.depthAll]⟩
  | d :: ds, h => by
    obtain ⟨h1, h2⟩ := dn_all (n := n) (ds := ds) fun e m => h e (List.mem_cons_of_mem _ m)
    obtain ⟨g1, g2⟩ := h d (List.mem_cons_self ..)
    refine ⟨?_, ?_⟩
    · rw [PyData.canLayAll0, g1, h1]; rfl
    · rw [PyData.depthAll]; exact Nat.max_le.mpr ⟨g2, h2⟩
theorem dn_tup {n : Nat} {ds : List PyData} (h : ∀ d, d ∈ ds → Dn n d) : Dn (n + 1) (.tuple ds) := by
  obtain ⟨h1, h2⟩ := dn_all h
  exact ⟨by rw [PyData.canLay0]; exact h1, by rw [PyData.depth]; omega⟩
theorem dn_lst {n : Nat} {ds : List PyData} (h : ∀ d, d ∈ ds → Dn n d) : Dn (n + 1) (.list ds) := by
  obtain ⟨h1, h2⟩ := dn_all h
  exact ⟨by rw [PyData.canLay0]; exact h1, by rw [PyData.depth]; omega⟩
theorem Dn.up {n m : Nat} {d : PyData} (h : Dn n d) (le : n ≤ m) : Dn m d := ⟨h.1, Nat.le_trans h.2 le⟩
section
variable {K : PySem.W.Frag} {σ : L2.St} {H : Hp} {ta tb : TE} {x y : V} {d e : PyData} {n : Nat}
theorem ev_eqD (hx : Ev ta σ H x) (hy : Ev tb σ H y) (dx : ∀ H1, Ex H H1 → Dp K H1 x d) (dy : ∀ H1, Ex H H1 → Dp K H1 y d) (sh : Dn n d) (hn : n ≤ 64) : Ev (tOp (rEqD K) ta tb) σ H (.bl true) :=
  fun H1 e1 Q q => hx H1 e1 _ fun H2 e2 => hy H2 (e1.trans e2) _ fun H3 e3 => ⟨d, d, dx H3 ((e1.trans e2).trans e3), dy H3 ((e1.trans e2).trans e3), sh.shaped hn, sh.shaped hn, by rw [SeqAt.eqv_refl d sh.1]; exact q H3 (e2.trans e3)⟩
theorem dp_nV : ∀ {ws : List Nat}, DpAll K H (nV ws) (ws.map fun (n : Nat) => PyData.int (n : Int))
  | [] => .nil
  | _ :: ws => .cons (.int _) dp_nV
theorem dp_iV : ∀ {ws : List Int}, DpAll K H (iV ws) (ws.map PyData.int)
  | [] => .nil
  | _ :: ws => .cons (.int _) dp_iV
theorem dn_iV {ws : List Int} : Dn 1 (.tuple (ws.map PyData.int)) := dn_tup fun d m => by
  obtain ⟨i, _, rfl⟩ := List.mem_map.mp m
  exact dn_int
theorem dn_nV {ws : List Nat} : Dn 1 (.tuple (ws.map fun (n : Nat) => PyData.int (n : Int))) := dn_tup fun d m => by
  obtain ⟨i, _, rfl⟩ := List.mem_map.mp m
  exact dn_int
end
section
variable {K : PySem.W.Frag} {σ : L2.St} {H : Hp} {ta tb te : TE} {tl th : TO} {a : Addr} {xs ys : List V} {lo hi : Option Int}
theorem ew_slT (h : Ev te σ H (.ref a)) (k : H a = some (.tup xs)) (h1 : EvO tl σ H lo) (h2 : EvO th σ H hi) (n : ¬ (HT.sIx xs.length 0 lo = 0 ∧ HT.sIx xs.length xs.length hi = xs.length)) : EvW (tSl (rSlT K) te tl th) σ H (cutV xs lo hi) :=
  fun H1 e Q q => h H1 e _ fun H2 e2 => h1 H2 (e.trans e2) _ fun H3 e3 => h2 H3 ((e.trans e2).trans e3) _ fun H4 e4 =>
    ⟨a, xs, rfl, SqT.of ((((e.trans e2).trans e3).trans e4) _ _ k), n, fun p hp => q p _ (((e2.trans e3).trans e4).trans (Ex.new hp)) upd_same⟩
theorem ew_catT (h : EvW ta σ H xs) (h1 : EvW tb σ H ys) (nx : xs ≠ []) (ny : ys ≠ []) (l : xs.length + ys.length ≤ sizeLine) : EvW (tOp (rCatT K) ta tb) σ H (xs ++ ys) :=
  fun H1 e Q q => h H1 e _ fun p H2 e2 hp => h1 H2 (e.trans e2) _ fun r H3 e3 hr => ⟨p, r, xs, ys, rfl, rfl, SqT.of (e3 _ _ hp), SqT.of hr, nx, l, fun z => absurd z ny, fun _ u hu => q u _ ((e2.trans e3).trans (Ex.new hu)) upd_same⟩
end
end Kx
set_option Elab.async false
set_option linter.all false
set_option maxRecDepth 100000
set_option maxHeartbeats 2000000
namespace Kx
open PySem PySem.Spec PyProof.Rows L2 Evl
open He (ga ma)
section
variable {P : Program} {w : World} {K : PySem.W.Frag} {mg : Str → Option Value} {base : Heap}
/-! ### Linear -/
theorem lin_of {K : PySem.W.Frag} {H : Hp} {p : Addr} {S : Src} (h : SrcAt K H p S) (c : S.cls = "Linear") (v : S.Valid) : ∃ x dx, S = .lin x ∧ H p = some (.ins (ga K "Linear") dx [("s2_x", .int x)]) ∧ isNum x = true := by
  cases S with
  | lin x => obtain ⟨dx, h⟩ := h; exact ⟨x, dx, rfl, h, v⟩
  | cnt k q => cases c
  | twi r => cases c
  | scr ws pl => cases c
theorem fld_x (T : Tx K mg) {H : Hp} {p dx : Addr} {x : Int} {σ : L2.St} {te : TE} (hp : H p = some (.ins (ga K "Linear") dx [("s2_x", .int x)])) (h : Ev te σ H (.ref p)) : Ev (tFld K te "s2_x") σ H (.int x) :=
  ev_fld h hp (T.cls 2 _ rfl) (T.noat 4 _ rfl) rfl
def N_Linear_init : List Str := ["self", "start"]
theorem sc_Linear_init : FnScope N_Linear_init ["self", "start"] (defScope s_Linear_init) := ⟨rfl, rfl, rfl, by decide +kernel, rfl, by decide +kernel, by decide +kernel⟩
def argLin : List V → Hp → Src → Prop := fun as _ S => ∃ x, as = [.int x] ∧ S = .lin x
theorem h_Linear_init (T : Tx K mg) : HasI P w K mg base CX0 (ga K "Linear") 4 ["self", "start"] (spInit K "Linear" argLin) :=
  have h_s2_need_start := h_s2_need_start (P := P) (w := w) (base := base) T
  T.hasI 64 35 rfl rfl rfl sc_Linear_init (fun vs H Q E h => by obtain ⟨x, dx, as, S, rfl, _, ⟨y, rfl, _⟩, _⟩ := h; rfl) rfl (fun | _, _, _, _, _, _, [_, _], _ => rfl) fun cdv A outer s H vs Q E hr h => by
    obtain ⟨x, dx, as, S, rfl, hx, ⟨y, rfl, rfl⟩, hv, _, h⟩ := h
    refine ⟨_, (pss_cons (ps_expr (pe_h h_s2_need_start (hr.mono (by decide)) pass0 (pa_cons (pv 1) pa_nil))) (pss_one (ps_fld (pv 0) (pv 1) rfl))), ?_⟩
    refine q_drop (v := .non) (ev_call (ea_cons (ev_var rfl) ea_nil) (spv1 hv)) fun H1 e1 => ?_
    exact s_fld (ev_var rfl) (ev_var rfl) (e1 _ _ hx) (T.cls 2 _ rfl) (T.noat 4 _ rfl) (Nat.le_of_ble_eq_true rfl) fun H2 e2 => h _ ((Only.ex (Ex.trans e1 e2)).trans (Only.ins (e2 _ _ (e1 _ _ hx)))) ⟨dx, upd_same⟩
def N_Linear_next_word : List Str := ["self"]
theorem sc_Linear_next_word : FnScope N_Linear_next_word ["self"] (defScope s_Linear_next_word) := ⟨rfl, rfl, rfl, by decide +kernel, rfl, by decide +kernel, by decide +kernel⟩
theorem h_Linear_next_word (T : Tx K mg) : HasM P w K mg base CX0 (ga K "Linear") "next_word" 1 ["self"] (spNext K "Linear") :=
  T.hasM 65 12 rfl rfl rfl sc_Linear_next_word (fun vs H Q E h => by obtain ⟨x, S, rfl, _⟩ := h; rfl) rfl (fun | _, _, _, _, _, _, [_], _ => rfl) fun cdv A outer s H vs Q E hr h => by
    obtain ⟨p, S, rfl, hs, hv, hc, h⟩ := h
    obtain ⟨x, dx, rfl, hp, hx⟩ := lin_of hs hc hv
    refine ⟨_, (pss_cons (ps_fld (pv 0) (pe_op (op_mask (c := (281474976710656 - 1)) (m := 281474976710656) 48 (by decide) (by decide)) (pe_op op_add (pe_op (op_mulL (m := 205891132094649) (by decide) (by decide)) (pe_num T 9 rfl) (pe_fld (pv 0) rfl)) (pe_num T 10 rfl)) (pe_op op_sub (pe_num T 8 rfl) pe_int)) rfl) (pss_one (ps_ret (pe_op (op_fdivK (m := 65536) (by decide) (by decide)) (pe_fld (pv 0) rfl) (pe_num T 11 rfl))))), ?_⟩
    refine q_fld (ev_op (ev_op (ev_op ev_c (fld_x T hp (ev_var rfl)) rv_mulL) ev_c rv_I0) (ev_op ev_c ev_c rv_I0) rv_mask) (ev_var rfl) hp (T.cls 2 _ rfl) (T.noat 4 _ rfl) (Nat.le_of_ble_eq_true rfl) fun H1 e1 => ?_
    have hp1 : (upd H1 p (.ins (ga K "Linear") dx (putF "s2_x" (.int (linStep x)) [("s2_x", .int x)]))) p = some (.ins (ga K "Linear") dx [("s2_x", .int (linStep x))]) := upd_same
    have o1 : Only [p] H (upd H1 p (.ins (ga K "Linear") dx (putF "s2_x" (.int (linStep x)) [("s2_x", .int x)]))) := (Only.ex e1).trans (Only.ins (e1 _ _ hp))
    exact s_ret (ev_op (fld_x T hp1 (ev_var rfl)) ev_c rv_divK) fun H2 e2 => h H2 (o1.trans (Only.ex e2)) ⟨dx, e2 _ _ hp1⟩
def N_Linear_state : List Str := ["self"]
theorem sc_Linear_state : FnScope N_Linear_state ["self"] (defScope s_Linear_state) := ⟨rfl, rfl, rfl, by decide +kernel, rfl, by decide +kernel, by decide +kernel⟩
theorem h_Linear_state (T : Tx K mg) : HasP P w K mg base CX0 (ga K "Linear") "state" 1 (spState K "Linear") :=
  T.hasP 66 41 rfl rfl rfl sc_Linear_state (fun vs H Q E h => by obtain ⟨x, S, rfl, _⟩ := h; rfl) rfl (fun | _, _, _, _, _, _, [_], _ => rfl) fun cdv A outer s H vs Q E hr h => by
    obtain ⟨p, S, rfl, hs, hv, hc, h⟩ := h
    obtain ⟨x, dx, rfl, hp, hx⟩ := lin_of hs hc hv
    refine ⟨_, (pss_one (ps_ret (pe_tup (pa_cons (pe_fld (pv 0) rfl) pa_nil)))), ?_⟩
    exact s_retW (ew_tup (ea_cons (fld_x T hp (ev_var rfl)) ea_nil) (Nat.le_of_ble_eq_true rfl)) fun t H2 e2 ht => h _ H2 e2 ⟨t, rfl, ht⟩
def N_Linear_set_state : List Str := ["self", "state"]
theorem sc_Linear_set_state : FnScope N_Linear_set_state ["self", "state"] (defScope s_Linear_set_state) := ⟨rfl, rfl, rfl, by decide +kernel, rfl, by decide +kernel, by decide +kernel⟩
theorem h_Linear_set_state (T : Tx K mg) : HasM P w K mg base CX0 (ga K "Linear") "set_state" 4 ["self", "state"] (spSet K "Linear") :=
  have h_s2_need_state := h_s2_need_state (P := P) (w := w) (base := base) T
  T.hasM 67 13 rfl rfl rfl sc_Linear_set_state (fun vs H Q E h => by obtain ⟨x, v, S0, S, rfl, _⟩ := h; rfl) rfl (fun | _, _, _, _, _, _, [_, _], _ => rfl) fun cdv A outer s H vs Q E hr h => by
    obtain ⟨p, v, S0, S, rfl, hs0, hc0, hst, hv, hc, h⟩ := h
    obtain ⟨dx, fs, hp⟩ : ∃ dx x0, H p = some (.ins (ga K "Linear") dx [("s2_x", .int x0)]) := by
      cases S0 with
      | lin x => obtain ⟨dx, h⟩ := hs0; exact ⟨dx, x, h⟩
      | cnt k q => cases hc0
      | twi r => cases hc0
      | scr ws pl => cases hc0
    obtain ⟨y, rfl⟩ : ∃ y, S = .lin y := by cases S <;> first | exact ⟨_, rfl⟩ | cases hc
    obtain ⟨a, rfl, ha⟩ := hst
    refine ⟨_, (pss_cons (ps_expr (pe_h h_s2_need_state (hr.mono (by decide)) pass0 (pa_cons (pv 1) pa_nil))) (pss_one (ps_fld (pv 0) (pe_ix ix_tup (pv 1) pe_int (fun _ _ => rfl)) rfl))), ?_⟩
    refine q_drop (v := .non) (ev_call (ea_cons (ev_var rfl) ea_nil) (fun H6 e6 Q' k' E' => ⟨a, y, rfl, e6 _ _ ha, hv, k'⟩)) fun H1 e1 => ?_
    exact s_fld (ev_ixT (ev_var rfl) (e1 _ _ ha) ev_c rfl) (ev_var rfl) (e1 _ _ hp) (T.cls 2 _ rfl) (T.noat 4 _ rfl) (Nat.le_of_ble_eq_true rfl) fun H2 e2 => h _ ((Only.ex (Ex.trans e1 e2)).trans (Only.ins (e2 _ _ (e1 _ _ hp)))) ⟨dx, upd_same⟩
def N_Linear_jump : List Str := ["self", "steps"]
theorem sc_Linear_jump : FnScope N_Linear_jump ["self", "steps"] (defScope s_Linear_jump) := ⟨rfl, rfl, rfl, by decide +kernel, rfl, by decide +kernel, by decide +kernel⟩
theorem h_Linear_jump (T : Tx K mg) : HasM P w K mg base CX0 (ga K "Linear") "jump" 4 ["self", "steps"] (spJump K "Linear") :=
  have h_need_steps := h_need_steps (P := P) (w := w) (base := base) T
  have h_s2_moved := h_s2_moved (P := P) (w := w) (base := base) T
  T.hasM 68 14 rfl rfl rfl sc_Linear_jump (fun vs H Q E h => by obtain ⟨x, S, s, rfl, _⟩ := h; rfl) rfl (fun | _, _, _, _, _, _, [_, _], _ => rfl) fun cdv A outer s H vs Q E hr h => by
    obtain ⟨p, S, st, rfl, hs, hv, hc, hl, h⟩ := h
    obtain ⟨x, dx, rfl, hp, hx⟩ := lin_of hs hc hv
    refine ⟨_, (pss_cons (ps_expr (pe_h h_need_steps (hr.mono (by decide)) pass0 (pa_cons (pv 1) pa_nil))) (pss_one (ps_fld (pv 0) (pe_h h_s2_moved (hr.mono (by decide)) pass0 (pa_cons (pe_fld (pv 0) rfl) (pa_cons (pv 1) pa_nil))) rfl))), ?_⟩
    refine q_drop (v := .non) (ev_call (ea_cons (ev_var rfl) ea_nil) (spv1 hl.ok)) fun H1 e1 => ?_
    exact s_fld (ev_call (ea_cons (fld_x T (e1 _ _ hp) (ev_var rfl)) (ea_cons (ev_var rfl) ea_nil)) (spv2 trivial)) (ev_var rfl) (e1 _ _ hp) (T.cls 2 _ rfl) (T.noat 4 _ rfl) (Nat.le_of_ble_eq_true rfl) fun H2 e2 => h _ ((Only.ex (Ex.trans e1 e2)).trans (Only.ins (e2 _ _ (e1 _ _ hp)))) ⟨dx, upd_same⟩
def N_Linear_back : List Str := ["self", "steps"]
theorem sc_Linear_back : FnScope N_Linear_back ["self", "steps"] (defScope s_Linear_back) := ⟨rfl, rfl, rfl, by decide +kernel, rfl, by decide +kernel, by decide +kernel⟩
theorem h_Linear_back (T : Tx K mg) : HasM P w K mg base CX0 (ga K "Linear") "back" 4 ["self", "steps"] (spBack K "Linear") :=
  have h_need_steps := h_need_steps (P := P) (w := w) (base := base) T
  have h_s2_moved := h_s2_moved (P := P) (w := w) (base := base) T
  T.hasM 69 15 rfl rfl rfl sc_Linear_back (fun vs H Q E h => by obtain ⟨x, S, s, rfl, _⟩ := h; rfl) rfl (fun | _, _, _, _, _, _, [_, _], _ => rfl) fun cdv A outer s H vs Q E hr h => by
    obtain ⟨p, S, st, rfl, hs, hv, hc, hl, h⟩ := h
    obtain ⟨x, dx, rfl, hp, hx⟩ := lin_of hs hc hv
    refine ⟨_, (pss_cons (ps_expr (pe_h h_need_steps (hr.mono (by decide)) pass0 (pa_cons (pv 1) pa_nil))) (pss_one (ps_fld (pv 0) (pe_h h_s2_moved (hr.mono (by decide)) pass0 (pa_cons (pe_fld (pv 0) rfl) (pa_cons (pe_op op_sub pe_int (pv 1)) pa_nil))) rfl))), ?_⟩
    refine q_drop (v := .non) (ev_call (ea_cons (ev_var rfl) ea_nil) (spv1 hl.ok)) fun H1 e1 => ?_
    exact s_fld (ev_call (ea_cons (fld_x T (e1 _ _ hp) (ev_var rfl)) (ea_cons (ev_op ev_c (ev_var rfl) rv_I0) ea_nil)) (spv2 trivial)) (ev_var rfl) (e1 _ _ hp) (T.cls 2 _ rfl) (T.noat 4 _ rfl) (Nat.le_of_ble_eq_true rfl) fun H2 e2 => h _ ((Only.ex (Ex.trans e1 e2)).trans (Only.ins (e2 _ _ (e1 _ _ hp)))) ⟨dx, upd_same⟩
def N_Linear_copy : List Str := ["self"]
theorem sc_Linear_copy : FnScope N_Linear_copy ["self"] (defScope s_Linear_copy) := ⟨rfl, rfl, rfl, by decide +kernel, rfl, by decide +kernel, by decide +kernel⟩
theorem h_Linear_copy (T : Tx K mg) : HasM P w K mg base CX0 (ga K "Linear") "copy" 6 ["self"] (spCopy K "Linear") :=
  have h_Linear_init := h_Linear_init (P := P) (w := w) (base := base) T
  T.hasM 70 16 rfl rfl rfl sc_Linear_copy (fun vs H Q E h => by obtain ⟨x, S, rfl, _⟩ := h; rfl) rfl (fun | _, _, _, _, _, _, [_], _ => rfl) fun cdv A outer s H vs Q E hr h => by
    obtain ⟨p, S, rfl, hs, hv, hc, h⟩ := h
    obtain ⟨x, dx, rfl, hp, hx⟩ := lin_of hs hc hv
    refine ⟨_, (pss_one (ps_ret (pe_hi h_Linear_init (hr.mono (by decide)) (T.glo 47 _ rfl) pass0 (pa_cons (pe_fld (pv 0) rfl) pa_nil)))), ?_⟩
    exact s_retMake (ea_cons (fld_x T hp (ev_var rfl)) ea_nil) fun H1 e1 => made (fun _ _ => ⟨x, rfl, rfl⟩) hv rfl (h.back e1)
def N_Linear_same_state : List Str := ["self", "other"]
theorem sc_Linear_same_state : FnScope N_Linear_same_state ["self", "other"] (defScope s_Linear_same_state) := ⟨rfl, rfl, rfl, by decide +kernel, rfl, by decide +kernel, by decide +kernel⟩
theorem h_Linear_same_state (T : Tx K mg) : HasM P w K mg base CX0 (ga K "Linear") "same_state" 1 ["self", "other"] (spSame K "Linear") :=
  T.hasM 71 17 rfl rfl rfl sc_Linear_same_state (fun vs H Q E h => by obtain ⟨x, q, S, rfl, _⟩ := h; rfl) rfl (fun | _, _, _, _, _, _, [_, _], _ => rfl) fun cdv A outer s H vs Q E hr h => by
    obtain ⟨p, q, S, rfl, hs, hs', hc, hv, h⟩ := h
    obtain ⟨x, dx, rfl, hp, hx⟩ := lin_of hs hc hv
    obtain ⟨dy, hq⟩ := hs'
    refine ⟨_, (pss_one (ps_ret (pe_and (pe_isC T 47 rfl (pv 1)) (pe_one (pe_cmpR op_eq (pe_fld (pv 0) rfl) (pe_fld (pv 1) rfl) (nomark _)))))), ?_⟩
    refine s_retE (ev_is (ev_and0 (ev_isO (ev_var rfl) (fun H1 e => T.instO 2 74 rfl rfl (e _ _ hq)) (T.kit 91 rfl)) (ev_op (fld_x T hp (ev_var rfl)) (fld_x T hq (ev_var rfl)) (rv_eq rfl))) ?_) h
    rw [decide_eq_true rfl]
    rfl
def N_Linear_at_state : List Str := ["cls", "state"]
theorem sc_Linear_at_state : FnScope N_Linear_at_state ["cls", "state"] (defScope s_Linear_at_state) := ⟨rfl, rfl, rfl, by decide +kernel, rfl, by decide +kernel, by decide +kernel⟩
def spAt (K : PySem.W.Frag) (c : Str) : Sp := fun vs H Q _ => ∃ v S, vs = [.ref (ga K c), v] ∧ StAt H v S ∧ S.Valid ∧ S.cls = c ∧ RetN K S H Q
theorem h_Linear_at_state (T : Tx K mg) : HasC P w K mg base CX0 (ga K "Linear") "at_state" 6 (spAt K "Linear") :=
  have h_s2_need_state := h_s2_need_state (P := P) (w := w) (base := base) T
  have h_Linear_init := h_Linear_init (P := P) (w := w) (base := base) T
  T.hasC 72 61 53 rfl rfl rfl rfl sc_Linear_at_state (fun vs H Q E h => by obtain ⟨v, S, rfl, _⟩ := h; rfl) rfl (fun | _, _, _, _, _, _, [_, _], _ => rfl) fun cdv A outer s H vs Q E hr h => by
    obtain ⟨v, S, rfl, hst, hv, hc, h⟩ := h
    obtain ⟨y, rfl⟩ : ∃ y, S = .lin y := by cases S <;> first | exact ⟨_, rfl⟩ | cases hc
    obtain ⟨a, rfl, ha⟩ := hst
    refine ⟨_, (pss_cons (ps_expr (pe_h h_s2_need_state (hr.mono (by decide)) pass0 (pa_cons (pv 1) pa_nil))) (pss_one (ps_ret (pe_hv (i := 0) h_Linear_init (hr.mono (by decide)) pass0 rfl (Or.inl rfl) (pa_cons (pe_ix ix_tup (pv 1) pe_int (fun _ _ => rfl)) pa_nil))))), ?_⟩
    refine q_drop (v := .non) (ev_call (ea_cons (ev_var rfl) ea_nil) (fun H6 e6 Q' k' E' => ⟨a, y, rfl, e6 _ _ ha, hv, k'⟩)) fun H1 e1 => ?_
    exact s_retMakeV rfl (ea_cons (ev_ixT (ev_var rfl) (e1 _ _ ha) ev_c rfl) ea_nil) fun H2 e2 => made (fun _ _ => ⟨y, rfl, rfl⟩) hv rfl (h.back (Ex.trans e1 e2))
end
end Kx
set_option Elab.async false
set_option linter.all false
set_option maxRecDepth 100000
set_option maxHeartbeats 2000000
namespace Kx
open PySem PySem.Spec PyProof.Rows L2 Evl
open He (ga ma)
section
variable {P : Program} {w : World} {K : PySem.W.Frag} {mg : Str → Option Value} {base : Heap}
/-! ### Counter -/
theorem cnt_of {K : PySem.W.Frag} {H : Hp} {p : Addr} {S : Src} (h : SrcAt K H p S) (c : S.cls = "Counter") : ∃ k q dx, S = .cnt k q ∧ H p = some (.ins (ga K "Counter") dx [("s4_key", .int k), ("s4_position", .int q)]) := by
  cases S with
  | lin x => cases c
  | cnt k q => obtain ⟨dx, h⟩ := h; exact ⟨k, q, dx, rfl, h⟩
  | twi r => cases c
  | scr ws pl => cases c
theorem fld_k (T : Tx K mg) {H : Hp} {p dx : Addr} {k q : Int} {σ : L2.St} {te : TE} (hp : H p = some (.ins (ga K "Counter") dx [("s4_key", .int k), ("s4_position", .int q)])) (h : Ev te σ H (.ref p)) : Ev (tFld K te "s4_key") σ H (.int k) :=
  ev_fld h hp (T.cls 1 _ rfl) (T.noat 2 _ rfl) rfl
theorem fld_p (T : Tx K mg) {H : Hp} {p dx : Addr} {k q : Int} {σ : L2.St} {te : TE} (hp : H p = some (.ins (ga K "Counter") dx [("s4_key", .int k), ("s4_position", .int q)])) (h : Ev te σ H (.ref p)) : Ev (tFld K te "s4_position") σ H (.int q) :=
  ev_fld h hp (T.cls 1 _ rfl) (T.noat 3 _ rfl) rfl
theorem isKey_iff {i : Int} : isKey i = true ↔ 0 ≤ i ∧ i < 18446744073709551616 := by
  unfold isKey
  rw [Bool.and_eq_true, decide_eq_true_eq, decide_eq_true_eq]
theorem cnt_ok {k q : Int} (h : (Src.cnt k q).Valid) : OkCnt k (q / 2) (q % 2) := by
  obtain ⟨h1, h2, h3⟩ := h
  refine ⟨h1, isKey_iff.mpr ⟨by omega, by omega⟩, by omega⟩
theorem cnt_pos {q : Int} (h0 : 0 ≤ q) (h1 : q < 36893488147419103232) : posOf q = q := by
  unfold posOf
  omega
theorem dec_V {x y : Int} : decide (V.int x = V.int y) = decide (x = y) := by
  by_cases e : x = y
  · rw [decide_eq_true e, decide_eq_true (by rw [e])]
  · rw [decide_eq_false e, decide_eq_false (fun z => e (V.int.inj z))]
theorem half_join (q : Int) : 2 * (q / 2) + q % 2 = q := by omega
def N_Counter_init : List Str := ["self", "state"]
theorem sc_Counter_init : FnScope N_Counter_init ["self", "state"] (defScope s_Counter_init) := ⟨rfl, rfl, rfl, by decide +kernel, rfl, by decide +kernel, by decide +kernel⟩
def argCnt : List V → Hp → Src → Prop := fun as H S => ∃ v, as = [v] ∧ S.cls = "Counter" ∧ StAt H v S
theorem h_Counter_init (T : Tx K mg) : HasI P w K mg base CX0 (ga K "Counter") 4 ["self", "state"] (spInit K "Counter" argCnt) :=
  have h_s4_need_state := h_s4_need_state (P := P) (w := w) (base := base) T
  T.hasI 48 34 rfl rfl rfl sc_Counter_init (fun vs H Q E h => by obtain ⟨x, dx, as, S, rfl, _, ⟨y, rfl, _⟩, _⟩ := h; rfl) rfl (fun | _, _, _, _, _, _, [_, _], _ => rfl) fun cdv A outer s H vs Q E hr h => by
    obtain ⟨x, dx, as, S, rfl, hx, ⟨v, rfl, hc, hst⟩, hv, _, h⟩ := h
    obtain ⟨k, q, rfl⟩ : ∃ k q, S = .cnt k q := by cases S <;> first | exact ⟨_, _, rfl⟩ | cases hc
    obtain ⟨a, rfl, ha⟩ := hst
    refine ⟨_, (pss_cons (ps_expr (pe_h h_s4_need_state (hr.mono (by decide)) pass0 (pa_cons (pv 1) pa_nil))) (pss_cons (ps_fld (pv 0) (pe_ix ix_tup (pv 1) pe_int (fun _ _ => rfl)) rfl) (pss_one (ps_fld (pv 0) (pe_op op_add (pe_op (op_mulL (m := 2) (by decide) (by decide)) pe_int (pe_ix ix_tup (pv 1) pe_int (fun _ _ => rfl))) (pe_ix ix_tup (pv 1) pe_int (fun _ _ => rfl))) rfl)))), ?_⟩
    refine q_drop (v := .non) (ev_call (ea_cons (ev_var rfl) ea_nil) (fun H6 e6 Q' k' E' => ⟨a, k, q / 2, q % 2, rfl, e6 _ _ ha, cnt_ok hv, k'⟩)) fun H1 e1 => ?_
    refine q_fldO (ev_ixT (ev_var rfl) (e1 _ _ ha) ev_c rfl) (ev_var rfl) (e1 _ _ hx) (T.cls 1 _ rfl) (T.noat 2 _ rfl) (by decide) fun H2 o2 hx2 => ?_
    have ha2 := o2.tups _ _ (e1 _ _ ha)
    exact s_fldO (y := .int q) (ev_is (ev_op (ev_op ev_c (ev_ixT (ev_var rfl) ha2 ev_c rfl) rv_mulL) (ev_ixT (ev_var rfl) ha2 ev_c rfl) rv_I0) (by rw [half_join])) (ev_var rfl) hx2 (T.cls 1 _ rfl) (T.noat 3 _ rfl) (Nat.le_of_ble_eq_true rfl) fun H3 o3 hx3 => h _ (((Only.ex e1).trans o2).trans o3) ⟨dx, hx3⟩
def N_Counter_next_word : List Str := ["self", "words", "found"]
theorem sc_Counter_next_word : FnScope N_Counter_next_word ["self"] (defScope s_Counter_next_word) := ⟨rfl, rfl, rfl, by decide +kernel, rfl, by decide +kernel, by decide +kernel⟩
theorem h_Counter_next_word (T : Tx K mg) : HasM P w K mg base CX0 (ga K "Counter") "next_word" 3 ["self"] (spNext K "Counter") :=
  have h_s4_block := h_s4_block (P := P) (w := w) (base := base) T
  T.hasM 49 6 rfl rfl rfl sc_Counter_next_word (fun vs H Q E h => by obtain ⟨x, S, rfl, _⟩ := h; rfl) rfl (fun | _, _, _, _, _, _, [_], _ => rfl) fun cdv A outer s H vs Q E hr h => by
    obtain ⟨p, S, rfl, hs, hv, hc, h⟩ := h
    obtain ⟨k, q, dx, rfl, hp⟩ := cnt_of hs hc
    refine ⟨_, (pss_cons (ps_set (i := 1) sc_Counter_next_word.nd rfl (Or.inl rfl) (pe_h h_s4_block (hr.mono (by decide)) pass0 (pa_cons (pe_fld (pv 0) rfl) (pa_cons (pe_op (op_fdivK (m := 2) (by decide) (by decide)) (pe_fld (pv 0) rfl) pe_int) pa_nil)))) (pss_cons (ps_set (i := 2) sc_Counter_next_word.nd rfl (Or.inl rfl) (pe_ix ix_tup (pv 1) (pe_op (op_mask (c := 1) (m := 2) 1 (by decide) (by decide)) (pe_fld (pv 0) rfl) pe_int) (fun _ _ => rfl))) (pss_cons (ps_fld (pv 0) (pe_op (op_mask (c := (36893488147419103232 - 1)) (m := 36893488147419103232) 65 (by decide) (by decide)) (pe_op op_add (pe_fld (pv 0) rfl) pe_int) (pe_op op_sub (pe_num T 7 rfl) pe_int)) rfl) (pss_one (ps_ret (pv 2)))))), ?_⟩
    refine q_asgW (ew_call (ea_cons (fld_k T hp (ev_var rfl)) (ea_cons (ev_op (fld_p T hp (ev_var rfl)) ev_c rv_divK) ea_nil)) (fun H6 e6 Q' k' E' => ⟨k, q / 2, rfl, k'⟩)) fun t H1 e1 ht => ?_
    have hp1 := e1 _ _ hp
    refine q_asg (v := .int (blkWord k q)) (ev_ixT (ev_var rfl) ht (ev_op (fld_p T hp1 (ev_var rfl)) ev_c rv_mask) ?_) fun H2 e2 => ?_
    · unfold blkWord
      have h01 : q % 2 = 0 ∨ q % 2 = 1 := by omega
      rcases h01 with e | e
      · rw [e]; rfl
      · rw [e]; rfl
    have hp2 := e2 _ _ hp1
    refine q_fldO (y := .int (posOf (q + 1))) (ev_op (ev_op (fld_p T hp2 (ev_var rfl)) ev_c rv_I0) (ev_op ev_c ev_c rv_I0) rv_mask) (ev_var rfl) hp2 (T.cls 1 _ rfl) (T.noat 3 _ rfl) (Nat.le_of_ble_eq_true rfl) fun H3 o3 hp3 => ?_
    exact s_ret (ev_var rfl) fun H4 e4 => h H4 (((Only.ex (Ex.trans e1 e2)).trans o3).trans (Only.ex e4)) ⟨dx, e4 _ _ hp3⟩
def N_Counter_state : List Str := ["self"]
theorem sc_Counter_state : FnScope N_Counter_state ["self"] (defScope s_Counter_state) := ⟨rfl, rfl, rfl, by decide +kernel, rfl, by decide +kernel, by decide +kernel⟩
theorem h_Counter_state (T : Tx K mg) : HasP P w K mg base CX0 (ga K "Counter") "state" 2 (spState K "Counter") :=
  have h_s4_state_at := h_s4_state_at (P := P) (w := w) (base := base) T
  T.hasP 50 40 rfl rfl rfl sc_Counter_state (fun vs H Q E h => by obtain ⟨x, S, rfl, _⟩ := h; rfl) rfl (fun | _, _, _, _, _, _, [_], _ => rfl) fun cdv A outer s H vs Q E hr h => by
    obtain ⟨p, S, rfl, hs, hv, hc, h⟩ := h
    obtain ⟨k, q, dx, rfl, hp⟩ := cnt_of hs hc
    refine ⟨_, (pss_one (ps_ret (pe_h h_s4_state_at (hr.mono (by decide)) pass0 (pa_cons (pe_fld (pv 0) rfl) (pa_cons (pe_fld (pv 0) rfl) pa_nil))))), ?_⟩
    refine s_retW (ew_call (xs := [.int k, .int (q / 2), .int (q % 2)]) (ea_cons (fld_k T hp (ev_var rfl)) (ea_cons (fld_p T hp (ev_var rfl)) ea_nil)) (fun H6 e6 Q' k' E' => ⟨k, q, rfl, ?_⟩)) fun t H2 e2 ht => h _ H2 e2 ⟨t, rfl, ht⟩
    rw [cnt_pos hv.2.1 hv.2.2]
    exact k'
def N_Counter_set_state : List Str := ["self", "state"]
theorem sc_Counter_set_state : FnScope N_Counter_set_state ["self", "state"] (defScope s_Counter_set_state) := ⟨rfl, rfl, rfl, by decide +kernel, rfl, by decide +kernel, by decide +kernel⟩
theorem h_Counter_set_state (T : Tx K mg) : HasM P w K mg base CX0 (ga K "Counter") "set_state" 4 ["self", "state"] (spSet K "Counter") :=
  have h_s4_need_state := h_s4_need_state (P := P) (w := w) (base := base) T
  T.hasM 51 7 rfl rfl rfl sc_Counter_set_state (fun vs H Q E h => by obtain ⟨x, v, S0, S, rfl, _⟩ := h; rfl) rfl (fun | _, _, _, _, _, _, [_, _], _ => rfl) fun cdv A outer s H vs Q E hr h => by
    obtain ⟨p, v, S0, S, rfl, hs0, hc0, hst, hv, hc, h⟩ := h
    obtain ⟨k0, q0, dx, rfl, hp⟩ := cnt_of hs0 hc0
    obtain ⟨k, q, rfl⟩ : ∃ k q, S = .cnt k q := by cases S <;> first | exact ⟨_, _, rfl⟩ | cases hc
    obtain ⟨a, rfl, ha⟩ := hst
    refine ⟨_, (pss_cons (ps_expr (pe_h h_s4_need_state (hr.mono (by decide)) pass0 (pa_cons (pv 1) pa_nil))) (pss_one (ps_asg (pe_tup (pa_cons (pe_ix ix_tup (pv 1) pe_int (fun _ _ => rfl)) (pa_cons (pe_op op_add (pe_op (op_mulL (m := 2) (by decide) (by decide)) pe_int (pe_ix ix_tup (pv 1) pe_int (fun _ _ => rfl))) (pe_ix ix_tup (pv 1) pe_int (fun _ _ => rfl))) pa_nil))) (pg_tup rfl (pgs_cons (pg_fld (pv 0)) (pgs_cons (pg_fld (pv 0)) pgs_nil)))))), ?_⟩
    refine q_drop (v := .non) (ev_call (ea_cons (ev_var rfl) ea_nil) (fun H6 e6 Q' k' E' => ⟨a, k, q / 2, q % 2, rfl, e6 _ _ ha, cnt_ok hv, k'⟩)) fun H1 e1 => ?_
    have ha1 := e1 _ _ ha
    refine s_asgFF (v := .int k) (y := .int q) (ew_tup (ea_cons (ev_ixT (ev_var rfl) ha1 ev_c rfl) (ea_cons (ev_is (ev_op (ev_op ev_c (ev_ixT (ev_var rfl) ha1 ev_c rfl) rv_mulL) (ev_ixT (ev_var rfl) ha1 ev_c rfl) rv_I0) (by rw [half_join])) ea_nil)) (Nat.le_of_ble_eq_true rfl)) (fun _ => ev_var rfl) (fun _ => ev_var rfl) (e1 _ _ hp) (T.cls 1 _ rfl) (T.noat 2 _ rfl) (T.noat 3 _ rfl) (Nat.le_of_ble_eq_true rfl) fun H2 o2 hp2 => ?_
    exact h _ ((Only.ex e1).trans o2) ⟨dx, hp2⟩
def N_Counter_jump : List Str := ["self", "steps"]
theorem sc_Counter_jump : FnScope N_Counter_jump ["self", "steps"] (defScope s_Counter_jump) := ⟨rfl, rfl, rfl, by decide +kernel, rfl, by decide +kernel, by decide +kernel⟩
theorem h_Counter_jump (T : Tx K mg) : HasM P w K mg base CX0 (ga K "Counter") "jump" 3 ["self", "steps"] (spJump K "Counter") :=
  have h_need_steps := h_need_steps (P := P) (w := w) (base := base) T
  T.hasM 52 8 rfl rfl rfl sc_Counter_jump (fun vs H Q E h => by obtain ⟨x, S, s, rfl, _⟩ := h; rfl) rfl (fun | _, _, _, _, _, _, [_, _], _ => rfl) fun cdv A outer s H vs Q E hr h => by
    obtain ⟨p, S, st, rfl, hs, hv, hc, hl, h⟩ := h
    obtain ⟨k, q, dx, rfl, hp⟩ := cnt_of hs hc
    refine ⟨_, (pss_cons (ps_expr (pe_h h_need_steps (hr.mono (by decide)) pass0 (pa_cons (pv 1) pa_nil))) (pss_one (ps_fld (pv 0) (pe_op (op_mask (c := (36893488147419103232 - 1)) (m := 36893488147419103232) 65 (by decide) (by decide)) (pe_op op_add (pe_fld (pv 0) rfl) (pv 1)) (pe_op op_sub (pe_num T 7 rfl) pe_int)) rfl))), ?_⟩
    refine q_drop (v := .non) (ev_call (ea_cons (ev_var rfl) ea_nil) (spv1 hl.ok)) fun H1 e1 => ?_
    exact s_fldO (y := .int (posOf (q + st))) (ev_op (ev_op (fld_p T (e1 _ _ hp) (ev_var rfl)) (ev_var rfl) rv_I0) (ev_op ev_c ev_c rv_I0) rv_mask) (ev_var rfl) (e1 _ _ hp) (T.cls 1 _ rfl) (T.noat 3 _ rfl) (Nat.le_of_ble_eq_true rfl) fun H2 o2 hp2 => h _ ((Only.ex e1).trans o2) ⟨dx, hp2⟩
def N_Counter_back : List Str := ["self", "steps"]
theorem sc_Counter_back : FnScope N_Counter_back ["self", "steps"] (defScope s_Counter_back) := ⟨rfl, rfl, rfl, by decide +kernel, rfl, by decide +kernel, by decide +kernel⟩
theorem h_Counter_back (T : Tx K mg) : HasM P w K mg base CX0 (ga K "Counter") "back" 3 ["self", "steps"] (spBack K "Counter") :=
  have h_need_steps := h_need_steps (P := P) (w := w) (base := base) T
  T.hasM 53 9 rfl rfl rfl sc_Counter_back (fun vs H Q E h => by obtain ⟨x, S, s, rfl, _⟩ := h; rfl) rfl (fun | _, _, _, _, _, _, [_, _], _ => rfl) fun cdv A outer s H vs Q E hr h => by
    obtain ⟨p, S, st, rfl, hs, hv, hc, hl, h⟩ := h
    obtain ⟨k, q, dx, rfl, hp⟩ := cnt_of hs hc
    refine ⟨_, (pss_cons (ps_expr (pe_h h_need_steps (hr.mono (by decide)) pass0 (pa_cons (pv 1) pa_nil))) (pss_one (ps_fld (pv 0) (pe_op (op_mask (c := (36893488147419103232 - 1)) (m := 36893488147419103232) 65 (by decide) (by decide)) (pe_op op_sub (pe_fld (pv 0) rfl) (pv 1)) (pe_op op_sub (pe_num T 7 rfl) pe_int)) rfl))), ?_⟩
    refine q_drop (v := .non) (ev_call (ea_cons (ev_var rfl) ea_nil) (spv1 hl.ok)) fun H1 e1 => ?_
    exact s_fldO (y := .int (posOf (q - st))) (ev_op (ev_op (fld_p T (e1 _ _ hp) (ev_var rfl)) (ev_var rfl) rv_I0) (ev_op ev_c ev_c rv_I0) rv_mask) (ev_var rfl) (e1 _ _ hp) (T.cls 1 _ rfl) (T.noat 3 _ rfl) (Nat.le_of_ble_eq_true rfl) fun H2 o2 hp2 => h _ ((Only.ex e1).trans o2) ⟨dx, hp2⟩
def N_Counter_copy : List Str := ["self"]
theorem sc_Counter_copy : FnScope N_Counter_copy ["self"] (defScope s_Counter_copy) := ⟨rfl, rfl, rfl, by decide +kernel, rfl, by decide +kernel, by decide +kernel⟩
theorem h_Counter_copy (T : Tx K mg) : HasM P w K mg base CX0 (ga K "Counter") "copy" 6 ["self"] (spCopy K "Counter") :=
  have h_Counter_init := h_Counter_init (P := P) (w := w) (base := base) T
  have h_s4_state_at := h_s4_state_at (P := P) (w := w) (base := base) T
  T.hasM 54 10 rfl rfl rfl sc_Counter_copy (fun vs H Q E h => by obtain ⟨x, S, rfl, _⟩ := h; rfl) rfl (fun | _, _, _, _, _, _, [_], _ => rfl) fun cdv A outer s H vs Q E hr h => by
    obtain ⟨p, S, rfl, hs, hv, hc, h⟩ := h
    obtain ⟨k, q, dx, rfl, hp⟩ := cnt_of hs hc
    refine ⟨_, (pss_one (ps_ret (pe_hi h_Counter_init (hr.mono (by decide)) (T.glo 39 _ rfl) pass0 (pa_cons (pe_h h_s4_state_at (hr.mono (by decide)) pass0 (pa_cons (pe_fld (pv 0) rfl) (pa_cons (pe_fld (pv 0) rfl) pa_nil))) pa_nil)))), ?_⟩
    refine (ew_call (xs := [.int k, .int (q / 2), .int (q % 2)]) (ea_cons (fld_k T hp (ev_var rfl)) (ea_cons (fld_p T hp (ev_var rfl)) ea_nil)) (fun H6 e6 Q' k' E' => ⟨k, q, rfl, ?_⟩)) H (Ex.refl _) _ fun t H2 e2 ht => ?_
    · exact made (vs := [.ref t]) (S := .cnt k q) (fun H3 e3 => ⟨.ref t, rfl, rfl, t, rfl, e3 _ _ ht⟩) hv rfl (h.back e2)
    · rw [cnt_pos hv.2.1 hv.2.2]
      exact k'
def N_Counter_same_state : List Str := ["self", "other"]
theorem sc_Counter_same_state : FnScope N_Counter_same_state ["self", "other"] (defScope s_Counter_same_state) := ⟨rfl, rfl, rfl, by decide +kernel, rfl, by decide +kernel, by decide +kernel⟩
theorem h_Counter_same_state (T : Tx K mg) : HasM P w K mg base CX0 (ga K "Counter") "same_state" 1 ["self", "other"] (spSame K "Counter") :=
  T.hasM 55 11 rfl rfl rfl sc_Counter_same_state (fun vs H Q E h => by obtain ⟨x, q, S, rfl, _⟩ := h; rfl) rfl (fun | _, _, _, _, _, _, [_, _], _ => rfl) fun cdv A outer s H vs Q E hr h => by
    obtain ⟨p, q, S, rfl, hs, hs', hc, hv, h⟩ := h
    obtain ⟨k, x, dx, rfl, hp⟩ := cnt_of hs hc
    obtain ⟨dy, hq⟩ := hs'
    refine ⟨_, (pss_cons (ps_if (pt_not (pt_val (pe_isC T 39 rfl (pv 1)))) (pss_one (ps_ret pe_bl)) pss_nil) (pss_one (ps_ret (pe_and (pe_cmpR op_eq (pe_fld (pv 0) rfl) (pe_fld (pv 1) rfl) (nomark _)) (pe_one (pe_cmpR op_eq (pe_fld (pv 0) rfl) (pe_fld (pv 1) rfl) (nomark _))))))), ?_⟩
    refine q_when (b := false) (et_is (et_not (et_B (ev_isO (ev_var rfl) (fun H1 e => T.instO 1 73 rfl rfl (e _ _ hq)) (T.kit 90 rfl)))) rfl) (fun q => nomatch q) fun _ H1 e1 => ?_
    refine s_retE (ev_is (ev_and0 (ev_op (fld_k T (e1 _ _ hp) (ev_var rfl)) (fld_k T (e1 _ _ hq) (ev_var rfl)) (rv_eq rfl)) (ev_op (fld_p T (e1 _ _ hp) (ev_var rfl)) (fld_p T (e1 _ _ hq) (ev_var rfl)) (rv_eq rfl))) ?_) (ra h e1)
    rw [decide_eq_true rfl, decide_eq_true rfl]
    rfl
def N_Counter_at_state : List Str := ["cls", "state"]
theorem sc_Counter_at_state : FnScope N_Counter_at_state ["cls", "state"] (defScope s_Counter_at_state) := ⟨rfl, rfl, rfl, by decide +kernel, rfl, by decide +kernel, by decide +kernel⟩
theorem h_Counter_at_state (T : Tx K mg) : HasC P w K mg base CX0 (ga K "Counter") "at_state" 6 (spAt K "Counter") :=
  have h_Counter_init := h_Counter_init (P := P) (w := w) (base := base) T
  T.hasC 56 60 52 rfl rfl rfl rfl sc_Counter_at_state (fun vs H Q E h => by obtain ⟨v, S, rfl, _⟩ := h; rfl) rfl (fun | _, _, _, _, _, _, [_, _], _ => rfl) fun cdv A outer s H vs Q E hr h => by
    obtain ⟨v, S, rfl, hst, hv, hc, h⟩ := h
    refine ⟨_, (pss_one (ps_ret (pe_hv (i := 0) h_Counter_init (hr.mono (by decide)) pass0 rfl (Or.inl rfl) (pa_cons (pv 1) pa_nil)))), ?_⟩
    exact s_retMakeV rfl (ea_cons (ev_var rfl) ea_nil) fun H2 e2 => made (fun H3 e3 => ⟨v, rfl, hc, hst.ex (Ex.trans e2 e3)⟩) hv hc (h.back e2)
end
end Kx
set_option Elab.async false
set_option linter.all false
set_option maxRecDepth 100000
set_option maxHeartbeats 2000000
namespace Kx
open PySem PySem.Spec PyProof.Rows L2 Evl
open He (ga ma)
section
variable {P : Program} {w : World} {K : PySem.W.Frag} {mg : Str → Option Value} {base : Heap}
/-! ### Twisted -/
theorem twi_of {K : PySem.W.Frag} {H : Hp} {p : Addr} {S : Src} (h : SrcAt K H p S) (c : S.cls = "Twisted") : ∃ row dx a, S = .twi row ∧ H p = some (.ins (ga K "Twisted") dx [("s3_state", .ref a)]) ∧ H a = some (.tup (nV row)) := by
  cases S with
  | lin x => cases c
  | cnt k q => cases c
  | twi r => obtain ⟨dx, a, h, h2⟩ := h; exact ⟨r, dx, a, rfl, h, h2⟩
  | scr ws pl => cases c
theorem fld_s (T : Tx K mg) {H : Hp} {p dx a : Addr} {σ : L2.St} {te : TE} (hp : H p = some (.ins (ga K "Twisted") dx [("s3_state", .ref a)])) (h : Ev te σ H (.ref p)) : Ev (tFld K te "s3_state") σ H (.ref a) :=
  ev_fld h hp (T.cls 3 _ rfl) (T.noat 5 _ rfl) rfl
def N_Twisted_init : List Str := ["self", "state"]
theorem sc_Twisted_init : FnScope N_Twisted_init ["self", "state"] (defScope s_Twisted_init) := ⟨rfl, rfl, rfl, by decide +kernel, rfl, by decide +kernel, by decide +kernel⟩
def argTwi : List V → Hp → Src → Prop := fun as H S => ∃ v, as = [v] ∧ S.cls = "Twisted" ∧ StAt H v S
theorem h_Twisted_init (T : Tx K mg) : HasI P w K mg base CX0 (ga K "Twisted") 4 ["self", "state"] (spInit K "Twisted" argTwi) :=
  have h_s3_need_row := h_s3_need_row (P := P) (w := w) (base := base) T
  T.hasI 83 36 rfl rfl rfl sc_Twisted_init (fun vs H Q E h => by obtain ⟨x, dx, as, S, rfl, _, ⟨y, rfl, _⟩, _⟩ := h; rfl) rfl (fun | _, _, _, _, _, _, [_, _], _ => rfl) fun cdv A outer s H vs Q E hr h => by
    obtain ⟨x, dx, as, S, rfl, hx, ⟨v, rfl, hc, hst⟩, hv, _, h⟩ := h
    obtain ⟨row, rfl⟩ : ∃ row, S = .twi row := by cases S <;> first | exact ⟨_, rfl⟩ | cases hc
    obtain ⟨a, rfl, ha⟩ := hst
    refine ⟨_, (pss_cons (ps_expr (pe_h h_s3_need_row (hr.mono (by decide)) pass0 (pa_cons (pv 1) pa_nil))) (pss_one (ps_fld (pv 0) (pv 1) rfl))), ?_⟩
    refine q_drop (v := .non) (ev_call (ea_cons (ev_var rfl) ea_nil) (fun H6 e6 Q' k' E' => ⟨a, row, rfl, e6 _ _ ha, hv, k'⟩)) fun H1 e1 => ?_
    exact s_fldO (ev_var rfl) (ev_var rfl) (e1 _ _ hx) (T.cls 3 _ rfl) (T.noat 5 _ rfl) (by decide) fun H2 o2 hx2 => h _ ((Only.ex e1).trans o2) ⟨dx, a, hx2, o2.tups _ _ (e1 _ _ ha)⟩
theorem cut_nV (row : List Nat) (h : row.length = 31) : cutV (nV row) (some 1) none = nV (row.drop 1) := by
  have l : (nV row).length = 31 := by rw [nV_len, h]
  unfold cutV
  rw [l, show HT.sIx 31 0 (some 1) = 1 from rfl, show HT.sIx 31 31 none = 31 from rfl]
  rw [List.take_of_length_le (by rw [List.length_drop, l]; decide)]
  exact List.map_drop.symm
def N_Twisted_next_word : List Str := ["self", "found"]
theorem sc_Twisted_next_word : FnScope N_Twisted_next_word ["self"] (defScope s_Twisted_next_word) := ⟨rfl, rfl, rfl, by decide +kernel, rfl, by decide +kernel, by decide +kernel⟩
theorem h_Twisted_next_word (T : Tx K mg) : HasM P w K mg base CX0 (ga K "Twisted") "next_word" 5 ["self"] (spNext K "Twisted") :=
  have h_tempered := h_tempered (P := P) (w := w) (base := base) T
  T.hasM 87 18 rfl rfl rfl sc_Twisted_next_word (fun vs H Q E h => by obtain ⟨x, S, rfl, _⟩ := h; rfl) rfl (fun | _, _, _, _, _, _, [_], _ => rfl) fun cdv A outer s H vs Q E hr h => by
    obtain ⟨p, S, rfl, hs, hv, hc, h⟩ := h
    obtain ⟨row, dx, a, rfl, hp, ha⟩ := twi_of hs hc
    refine ⟨_, (pss_cons (ps_set (i := 1) sc_Twisted_next_word.nd rfl (Or.inl rfl) (pe_op op_xor (pe_ix ix_tup (pe_fld (pv 0) rfl) pe_int (fun _ _ => rfl)) (pe_ix ix_tup (pe_fld (pv 0) rfl) (pe_num T 14 rfl) (fun _ _ => rfl)))) (pss_cons (ps_fld (pv 0) (pe_op op_catT (pe_slice sl_tup (pe_fld (pv 0) rfl) (po_some pe_int) po_none) (pe_tup (pa_cons (pv 1) pa_nil))) rfl) (pss_one (ps_ret (pe_h h_tempered (hr.mono (by decide)) pass0 (pa_cons (pv 1) pa_nil)))))), ?_⟩
    have hl := hv.1
    refine q_asg (v := .int (twiWord row : Nat)) ?_ fun H1 e1 => ?_
    · unfold twiWord
      rw [← xor_nat]
      exact ev_op (ev_ixT (fld_s T hp (ev_var rfl)) ha ev_c (atI_nat (nV_get (i := 0) (by omega)))) (ev_ixT (fld_s T hp (ev_var rfl)) ha ev_c (atI_nat (nV_get (i := 3) (by omega)))) rv_I0
    have hp1 := e1 _ _ hp
    have ha1 := e1 _ _ ha
    refine q_fldWO (xs := nV (row.drop 1 ++ [twiWord row])) ?_ (ev_var rfl) hp1 (T.cls 3 _ rfl) (T.noat 5 _ rfl) (Nat.le_of_ble_eq_true rfl) fun t H2 o2 ht hp2 => ?_
    · refine ew_is (ew_catT (ew_slT (fld_s T hp1 (ev_var rfl)) ha1 (eo_some ev_c) eo_none ?_) (ew_tup (ea_cons (ev_var rfl) ea_nil) (Nat.le_of_ble_eq_true rfl)) ?_ (fun z => by cases z) ?_) ?_
      · rw [nV_len, hl]; decide
      · rw [cut_nV row hl]
        intro z
        have := congrArg List.length z
        rw [nV_len, List.length_drop, hl] at this
        cases this
      · rw [cut_nV row hl, nV_len, List.length_drop, hl]; exact sz_of (Nat.le_of_ble_eq_true rfl)
      · rw [cut_nV row hl, nVa]
    · refine s_ret (v := .int (ownTempered (twiWord row : Nat))) (ev_call (ea_cons (ev_var rfl) ea_nil) (spv1 (isWord_nat ?_))) fun H3 e3 => h H3 (((Only.ex e1).trans o2).trans (Only.ex e3)) ⟨dx, t, e3 _ _ hp2, e3 _ _ ht⟩
      have w0 : ∀ i, i < 31 → row.getD i 0 < 2 ^ 32 := fun i hi => by
        have hi' : i < row.length := by omega
        have z := hv.2.1 (row.getD i 0) (by
          rw [List.getD_eq_getElem?_getD, List.getElem?_eq_getElem hi']
          exact List.getElem_mem hi')
        omega
      exact Nat.xor_lt_two_pow (w0 0 (by decide)) (w0 3 (by decide))
def N_Twisted_state : List Str := ["self"]
theorem sc_Twisted_state : FnScope N_Twisted_state ["self"] (defScope s_Twisted_state) := ⟨rfl, rfl, rfl, by decide +kernel, rfl, by decide +kernel, by decide +kernel⟩
theorem h_Twisted_state (T : Tx K mg) : HasP P w K mg base CX0 (ga K "Twisted") "state" 1 (spState K "Twisted") :=
  T.hasP 85 42 rfl rfl rfl sc_Twisted_state (fun vs H Q E h => by obtain ⟨x, S, rfl, _⟩ := h; rfl) rfl (fun | _, _, _, _, _, _, [_], _ => rfl) fun cdv A outer s H vs Q E hr h => by
    obtain ⟨p, S, rfl, hs, hv, hc, h⟩ := h
    obtain ⟨row, dx, a, rfl, hp, ha⟩ := twi_of hs hc
    refine ⟨_, (pss_one (ps_ret (pe_fld (pv 0) rfl))), ?_⟩
    exact s_ret (fld_s T hp (ev_var rfl)) fun H2 e2 => h _ H2 e2 ⟨a, rfl, e2 _ _ ha⟩
def N_Twisted_set_state : List Str := ["self", "state"]
theorem sc_Twisted_set_state : FnScope N_Twisted_set_state ["self", "state"] (defScope s_Twisted_set_state) := ⟨rfl, rfl, rfl, by decide +kernel, rfl, by decide +kernel, by decide +kernel⟩
theorem h_Twisted_set_state (T : Tx K mg) : HasM P w K mg base CX0 (ga K "Twisted") "set_state" 4 ["self", "state"] (spSet K "Twisted") :=
  have h_s3_need_row := h_s3_need_row (P := P) (w := w) (base := base) T
  T.hasM 86 19 rfl rfl rfl sc_Twisted_set_state (fun vs H Q E h => by obtain ⟨x, v, S0, S, rfl, _⟩ := h; rfl) rfl (fun | _, _, _, _, _, _, [_, _], _ => rfl) fun cdv A outer s H vs Q E hr h => by
    obtain ⟨p, v, S0, S, rfl, hs0, hc0, hst, hv, hc, h⟩ := h
    obtain ⟨row0, dx, a0, rfl, hp, _⟩ := twi_of hs0 hc0
    obtain ⟨row, rfl⟩ : ∃ row, S = .twi row := by cases S <;> first | exact ⟨_, rfl⟩ | cases hc
    obtain ⟨a, rfl, ha⟩ := hst
    refine ⟨_, (pss_cons (ps_expr (pe_h h_s3_need_row (hr.mono (by decide)) pass0 (pa_cons (pv 1) pa_nil))) (pss_one (ps_fld (pv 0) (pv 1) rfl))), ?_⟩
    refine q_drop (v := .non) (ev_call (ea_cons (ev_var rfl) ea_nil) (fun H6 e6 Q' k' E' => ⟨a, row, rfl, e6 _ _ ha, hv, k'⟩)) fun H1 e1 => ?_
    exact s_fldO (ev_var rfl) (ev_var rfl) (e1 _ _ hp) (T.cls 3 _ rfl) (T.noat 5 _ rfl) (Nat.le_of_ble_eq_true rfl) fun H2 o2 hx2 => h _ ((Only.ex e1).trans o2) ⟨dx, a, hx2, o2.tups _ _ (e1 _ _ ha)⟩
def N_Twisted_jump : List Str := ["self", "steps"]
theorem sc_Twisted_jump : FnScope N_Twisted_jump ["self", "steps"] (defScope s_Twisted_jump) := ⟨rfl, rfl, rfl, by decide +kernel, rfl, by decide +kernel, by decide +kernel⟩
theorem h_Twisted_jump (T : Tx K mg) : HasM P w K mg base CX0 (ga K "Twisted") "jump" 7 ["self", "steps"] (spJump K "Twisted") :=
  have h_need_steps := h_need_steps (P := P) (w := w) (base := base) T
  have h_s3_moved := h_s3_moved (P := P) (w := w) (base := base) T
  T.hasM 88 20 rfl rfl rfl sc_Twisted_jump (fun vs H Q E h => by obtain ⟨x, S, s, rfl, _⟩ := h; rfl) rfl (fun | _, _, _, _, _, _, [_, _], _ => rfl) fun cdv A outer s H vs Q E hr h => by
    obtain ⟨p, S, st, rfl, hs, hv, hc, hl, h⟩ := h
    obtain ⟨row, dx, a, rfl, hp, ha⟩ := twi_of hs hc
    refine ⟨_, (pss_cons (ps_expr (pe_h h_need_steps (hr.mono (by decide)) pass0 (pa_cons (pv 1) pa_nil))) (pss_one (ps_fld (pv 0) (pe_h h_s3_moved (hr.mono (by decide)) pass0 (pa_cons (pe_fld (pv 0) rfl) (pa_cons (pv 1) pa_nil))) rfl))), ?_⟩
    refine q_drop (v := .non) (ev_call (ea_cons (ev_var rfl) ea_nil) (spv1 hl.ok)) fun H1 e1 => ?_
    exact s_fldWO (ew_call (ea_cons (fld_s T (e1 _ _ hp) (ev_var rfl)) (ea_cons (ev_var rfl) ea_nil)) (fun H6 e6 Q' k' E' => ⟨a, row, st, rfl, e6 _ _ (e1 _ _ ha), hv.1, k'⟩)) (ev_var rfl) (e1 _ _ hp) (T.cls 3 _ rfl) (T.noat 5 _ rfl) (Nat.le_of_ble_eq_true rfl) fun t H2 o2 ht hp2 => h _ ((Only.ex e1).trans o2) ⟨dx, t, hp2, ht⟩
def N_Twisted_back : List Str := ["self", "steps"]
theorem sc_Twisted_back : FnScope N_Twisted_back ["self", "steps"] (defScope s_Twisted_back) := ⟨rfl, rfl, rfl, by decide +kernel, rfl, by decide +kernel, by decide +kernel⟩
theorem h_Twisted_back (T : Tx K mg) : HasM P w K mg base CX0 (ga K "Twisted") "back" 7 ["self", "steps"] (spBack K "Twisted") :=
  have h_need_steps := h_need_steps (P := P) (w := w) (base := base) T
  have h_s3_moved := h_s3_moved (P := P) (w := w) (base := base) T
  T.hasM 89 21 rfl rfl rfl sc_Twisted_back (fun vs H Q E h => by obtain ⟨x, S, s, rfl, _⟩ := h; rfl) rfl (fun | _, _, _, _, _, _, [_, _], _ => rfl) fun cdv A outer s H vs Q E hr h => by
    obtain ⟨p, S, st, rfl, hs, hv, hc, hl, h⟩ := h
    obtain ⟨row, dx, a, rfl, hp, ha⟩ := twi_of hs hc
    refine ⟨_, (pss_cons (ps_expr (pe_h h_need_steps (hr.mono (by decide)) pass0 (pa_cons (pv 1) pa_nil))) (pss_one (ps_fld (pv 0) (pe_h h_s3_moved (hr.mono (by decide)) pass0 (pa_cons (pe_fld (pv 0) rfl) (pa_cons (pe_op op_sub (pe_num T 16 rfl) (pe_op (op_modK (m := 2147483647) (by decide)) (pv 1) (pe_num T 16 rfl))) pa_nil))) rfl))), ?_⟩
    refine q_drop (v := .non) (ev_call (ea_cons (ev_var rfl) ea_nil) (spv1 hl.ok)) fun H1 e1 => ?_
    exact s_fldWO (ew_call (ea_cons (fld_s T (e1 _ _ hp) (ev_var rfl)) (ea_cons (ev_op ev_c (ev_op (ev_var rfl) ev_c rv_modK) rv_I0) ea_nil)) (fun H6 e6 Q' k' E' => ⟨a, row, _, rfl, e6 _ _ (e1 _ _ ha), hv.1, k'⟩)) (ev_var rfl) (e1 _ _ hp) (T.cls 3 _ rfl) (T.noat 5 _ rfl) (Nat.le_of_ble_eq_true rfl) fun t H2 o2 ht hp2 => h _ ((Only.ex e1).trans o2) ⟨dx, t, hp2, ht⟩
def N_Twisted_copy : List Str := ["self"]
theorem sc_Twisted_copy : FnScope N_Twisted_copy ["self"] (defScope s_Twisted_copy) := ⟨rfl, rfl, rfl, by decide +kernel, rfl, by decide +kernel, by decide +kernel⟩
theorem h_Twisted_copy (T : Tx K mg) : HasM P w K mg base CX0 (ga K "Twisted") "copy" 6 ["self"] (spCopy K "Twisted") :=
  have h_Twisted_init := h_Twisted_init (P := P) (w := w) (base := base) T
  T.hasM 90 22 rfl rfl rfl sc_Twisted_copy (fun vs H Q E h => by obtain ⟨x, S, rfl, _⟩ := h; rfl) rfl (fun | _, _, _, _, _, _, [_], _ => rfl) fun cdv A outer s H vs Q E hr h => by
    obtain ⟨p, S, rfl, hs, hv, hc, h⟩ := h
    obtain ⟨row, dx, a, rfl, hp, ha⟩ := twi_of hs hc
    refine ⟨_, (pss_one (ps_ret (pe_hi h_Twisted_init (hr.mono (by decide)) (T.glo 58 _ rfl) pass0 (pa_cons (pe_fld (pv 0) rfl) pa_nil)))), ?_⟩
    exact s_retMake (ea_cons (fld_s T hp (ev_var rfl)) ea_nil) fun H1 e1 => made (vs := [.ref a]) (S := .twi row) (fun H3 e3 => ⟨.ref a, rfl, rfl, a, rfl, e3 _ _ (e1 _ _ ha)⟩) hv rfl (h.back e1)
def N_Twisted_same_state : List Str := ["self", "other"]
theorem sc_Twisted_same_state : FnScope N_Twisted_same_state ["self", "other"] (defScope s_Twisted_same_state) := ⟨rfl, rfl, rfl, by decide +kernel, rfl, by decide +kernel, by decide +kernel⟩
theorem h_Twisted_same_state (T : Tx K mg) : HasM P w K mg base CX0 (ga K "Twisted") "same_state" 1 ["self", "other"] (spSame K "Twisted") :=
  T.hasM 91 23 rfl rfl rfl sc_Twisted_same_state (fun vs H Q E h => by obtain ⟨x, q, S, rfl, _⟩ := h; rfl) rfl (fun | _, _, _, _, _, _, [_, _], _ => rfl) fun cdv A outer s H vs Q E hr h => by
    obtain ⟨p, q, S, rfl, hs, hs', hc, hv, h⟩ := h
    obtain ⟨row, dx, a, rfl, hp, ha⟩ := twi_of hs hc
    obtain ⟨dy, b, hq, hb⟩ := hs'
    refine ⟨_, (pss_one (ps_ret (pe_and (pe_isC T 58 rfl (pv 1)) (pe_one (pe_cmpR (op_eqD hr.units) (pe_fld (pv 0) rfl) (pe_fld (pv 1) rfl) (nomark _)))))), ?_⟩
    exact s_retE (v := .bl (true && true)) (ev_and0 (ev_isO (ev_var rfl) (fun H1 e => T.instO 3 75 rfl rfl (e _ _ hq)) (T.kit 92 rfl)) (ev_eqD (fld_s T hp (ev_var rfl)) (fld_s T hq (ev_var rfl)) (fun H1 e => .tup (SqT.of (e _ _ ha)) dp_nV) (fun H1 e => .tup (SqT.of (e _ _ hb)) dp_nV) dn_nV (by decide))) h
def N_Twisted_at_state : List Str := ["cls", "state"]
theorem sc_Twisted_at_state : FnScope N_Twisted_at_state ["cls", "state"] (defScope s_Twisted_at_state) := ⟨rfl, rfl, rfl, by decide +kernel, rfl, by decide +kernel, by decide +kernel⟩
theorem h_Twisted_at_state (T : Tx K mg) : HasC P w K mg base CX0 (ga K "Twisted") "at_state" 6 (spAt K "Twisted") :=
  have h_Twisted_init := h_Twisted_init (P := P) (w := w) (base := base) T
  T.hasC 84 62 54 rfl rfl rfl rfl sc_Twisted_at_state (fun vs H Q E h => by obtain ⟨v, S, rfl, _⟩ := h; rfl) rfl (fun | _, _, _, _, _, _, [_, _], _ => rfl) fun cdv A outer s H vs Q E hr h => by
    obtain ⟨v, S, rfl, hst, hv, hc, h⟩ := h
    refine ⟨_, (pss_one (ps_ret (pe_hv (i := 0) h_Twisted_init (hr.mono (by decide)) pass0 rfl (Or.inl rfl) (pa_cons (pv 1) pa_nil)))), ?_⟩
    exact s_retMakeV rfl (ea_cons (ev_var rfl) ea_nil) fun H2 e2 => made (fun H3 e3 => ⟨v, rfl, hc, hst.ex (Ex.trans e2 e3)⟩) hv hc (h.back e2)
end
end Kx
set_option Elab.async false
set_option linter.all false
set_option maxRecDepth 100000
set_option maxHeartbeats 2000000
namespace Kx
open PySem PySem.Spec PyProof.Rows L2 Evl
open He (ga ma)
/-! ### own exceptions, over ValueError or LookupError, with an __init__ that calls the built-in one by an own base -/
section
open Builtin Builtin.ObjectAttr PySem.W PySem.Calls PySem.HandSPX
/-- what ObjectAttr's store asks of the class's line -/
structure LineOk (l : List Value) : Prop where
  pass : ∀ self, refuseLoop self "__setattr__" l = pure ()
  obj : l.contains (.type "object") = true
  ne : l.isEmpty = false
theorem first_store {prog : Program} {w : World} {A : Around} {R : Result → Shared → Prop} {hh : Heap} {gg : Array GenState} {dd : Drawn} {tt : Nat} {oo : OsState} {K : W.Frag} {fld : Str} {tok : Tok} {val : Value} {ex C : Addr} {parts : Array Value} {cd : ClassData}
    (kin : K.In hh) (at_ex : hh.get? ex = some { cls := .ref C, data := .fields parts }) (of_c : W.clsIn K C = some cd) (line : LineOk cd.mro) (dict_ok : cd.hasDict = true) (no_at : W.findIn K (.ref C) fld = some none)
    (go : ∀ h2 tok2 dx, (∀ b o, b ≠ ex → hh.get? b = some o → h2.get? b = some o) → hh.objs.size ≤ dx → dx ≠ ex → h2.get? ex = some { cls := .ref C, dict := some dx, data := .fields parts } → h2.Ns1 dx (fun y => if y = fld then some val else none) → R (.ok (.ret .none)) ⟨h2, gg, dd, tok2, oo⟩) :
    codeAny (model prog w) A (.call (.builtin "object.__setattr__") ⟨[.ref ex, .str fld tok, val], []⟩) R ⟨hh, gg, dd, tt, oo⟩ := by
  have inst : W.InstAt hh ex { cls := .ref C, data := .fields parts } C none := ⟨at_ex, rfl, rfl, trivial⟩
  have facts := F.store_object
  have older : ex ≠ hh.objs.size := Nat.ne_of_lt (Heap.lt_size at_ex)
  have is_obj : W.Looks (model prog w) hh (isInstance (.ref ex) (.type "object")) true := inst.type.andThen (W.looks_mroIn kin (by
    unfold W.mroIn
    rw [of_c, Option.bind_some, if_neg (by rw [line.ne]; decide), line.obj]))
  have see_cls : W.Looks (model prog w) hh (classData C) cd := W.looks_clsIn kin of_c
  have see_mro : W.Looks (model prog w) hh (mroOf (.ref C)) cd.mro := see_cls.andThen .now
  have no_taker : W.Looks (model prog w) hh (storeTaker? none) none := .now
  refine codeAny_call_builtin facts.slot.plain facts.entry (@W.check_slot (model prog w) _ _ ⟨hh, gg, dd, tt, oo⟩ "object.__setattr__" "object" "__setattr__" (.ref ex) [.str fld tok, val] [] _ facts.kind facts.split is_obj (facts.args (.ref ex) (.str fld tok) val) ?_)
  rw [W.osa_eq, refuse_eq]
  refine wpAny_bind (wpAny_bind (inst.type.at (wpAny_bind (see_mro.at ?_))))
  rw [line.pass]
  refine wpAny_pure (wpAny_bind (inst.type.at (wpAny_bind ((W.looks_findIn kin no_at).at (wpAny_bind (no_taker.at ?_))))))
  show wpAny _ _ (storeInOwnDict (.ref ex) (.ref C) (.str fld tok) fld val false) _ _ _
  obtain ⟨c1, c2, c3, c4, c5, c6, c7, c8, c9, c10, c11⟩ := cd
  dsimp only at dict_ok
  subst dict_ok
  unfold storeInOwnDict ownDictForStores
  repeat (first | with_reducible refine store_in_new ?_ ?_ | with_reducible refine wpAny_loadPart_at at_ex ?_ | with_reducible refine see_cls.at ?_ | wp_step)
  · exact ⟨_, #[], _, (Heap.get?_update_ne _ _ _ _ older.symm).trans (Heap.get?_push_at rfl rfl), rfl, fun e he => absurd he (by simp), fun _ => rfl⟩
  · intro h2 tok2 ns2 same
    have still : (hh.push { cls := .type "dict", data := .dict #[] }).get? ex = some { cls := .ref C, data := .fields parts } := Heap.get?_push_of_some _ at_ex
    refine go h2 tok2 hh.objs.size (fun b o nb ob => (same.2 b (Nat.ne_of_lt (Heap.lt_size ob))).trans ((Heap.get?_update_ne _ _ _ _ nb).trans (Heap.get?_push_of_some _ ob))) (Nat.le_refl _) older.symm ((same.2 ex older).trans (Heap.get?_update_self _ still rfl)) ns2
end
open PySem.HandSPX in
/-- the class at C, whose making goes by newId, initId -/
structure OexG (K : PySem.W.Frag) (C : Addr) (newId initId : String) : Prop where
  cls : ∃ nm q N bs bm sn sub ab col dd k0 k1 k2 k3 k5 B bmB, K.lookup C = some (excClassObj nm q C N bs bm true sn sub ab col dd k0 k1 k2 k3 k5 newId) ∧ ExcBaseFacts B newId initId bmB ∧ (∀ Y : String, bm.contains (.type Y) = bmB.contains (.type Y)) ∧ LineOk (.ref C :: bm)
  sa : PySem.W.findIn K (.ref C) "__setattr__" = some (some (.builtin "object.__setattr__"))
  exC : PySem.W.subIn K (.ref C) (.type "BaseException") = some true
  tyC : PySem.W.typeIn K (.ref C) = some (.type "type")
  kC : PySem.W.keepIn K (.ref C) = true
section
variable {X : Cx} {pins : List (Addr × Obj)} {σ : L2.St} {H : Hp} {s : Shared} {a C : Addr} {f : Str} {y : V} {u : Value} {A : Around} {E : Value → Shared → Prop} {newId initId : String}
theorem OexG.see {K : PySem.W.Frag} (T : OexG K C newId initId) : ∃ cd, PySem.W.clsIn K C = some cd ∧ LineOk cd.mro ∧ cd.hasDict = true := by
  obtain ⟨nm, q, N, bs, bm, sn, sub, ab, col, dd, k0, k1, k2, k3, k5, B, bmB, hC, _, _, lo⟩ := T.cls
  refine ⟨{ name := nm, bases := bs, mro := .ref C :: bm, ns := N, qualname := q, hasDict := true, slotNames := sn, subclasses := sub, abstract := ab, collection := col, hasDel := false }, ?_, lo, rfl⟩
  unfold PySem.W.clsIn
  rw [hC] <;> rfl
/-- self.f = y, on an exception that is being made and has no dict -/
theorem oexG_store {Q : Unit → Shared → Prop} (T : OexG X.K C newId initId) (I : Inv X pins σ H s) (e : H a = some (exo a C none)) (hno : PySem.W.findIn X.K (.ref C) f = some none) (ry : RelV y u)
    (go : ∀ dx s', H dx = none → dx ≠ a → Inv X pins σ (upd (upd H dx (exd dx [(f, y)])) a (exo a C (some dx))) s' → Q () s') : wpAny (model X.prog X.w) A (setAttr (.ref a) f u) Q E s := by
  obtain ⟨cd, see, lo, hd⟩ := T.see
  obtain ⟨t1, ho⟩ := exo_at I.hok e
  obtain ⟨hp, g, d, t, os⟩ := s
  refine PySem.W.set_plain I.kIn (ox := { cls := .ref C, dict := none, data := .fields #[.ref t1, .none, .none, .none, .bool false, .none] }) (od := none) ⟨ho, rfl, rfl, trivial⟩ T.sa (first_store I.kIn ho see lo hd hno fun h2 tk2 dx keep new ne hx ns => ?_)
  have free : H dx = none := I.hok.fresh new
  have old : ∀ {b : Addr} {o : Obj}, hp.get? b = some o → b ≠ dx := fun {b o} q => Nat.ne_of_lt (Nat.lt_of_lt_of_le (Heap.lt_size q) new)
  have nota : ∀ {b : Addr}, H b = none → b ≠ a := fun {b} n z => by rw [z, e] at n; cases n
  refine go dx _ free ne (I.un (t' := tk2) ?_ fun b o q => ?_)
  · exact { keep := fun b o q n _ _ => keep b o (nota n) q
            slot := fun b o q n _ _ => ⟨o.slots, keep b o (nota n) q⟩
            free := fun b o q n _ => by rw [upd_ne (nota n), upd_ne (old q)]; exact n
            there := fun b o q _ => by
              by_cases hb : b = a
              · exact ⟨_, hb ▸ hx⟩
              · exact ⟨o, keep b o hb q⟩
            tups := fun b xs q => by rw [upd_ne (at_ne e q exo_tup), upd_ne (ne_of_none q free)]; exact q
            frzs := fun b o v q => by rw [upd_ne (at_ne e q exo_frz), upd_ne (ne_of_none q free)]; exact q
            tbls := fun b ps q => ⟨#[], by rw [upd_ne (at_ne e q exo_tbl), upd_ne (ne_of_none q free), q]; simp⟩ }
  · by_cases hb : b = a
    · subst hb
      rw [upd_same] at q
      cases q
      exact exo_ok hx
    rw [upd_ne hb] at q
    by_cases hdx : b = dx
    · subst hdx
      rw [upd_same] at q
      cases q
      exact exd_ok ns (relO_put (fs := []) ry fun g => True.intro)
    rw [upd_ne hdx] at q
    refine (I.hok b o q).stay (fun c v hc z => ?_) (fun c hc => ?_) (fun c xs hc => ?_)
    · rcases hc with rfl | hc
      · exact keep _ v hb z
      · exact keep c v (at_ne e hc exo_own) z
    · rw [upd_ne (at_ne e hc exo_own), upd_ne (ne_of_none hc free)]; exact hc
    · rw [upd_ne (at_ne e hc exo_tup), upd_ne (ne_of_none hc free)]; exact hc
/-- the built-in __init__: nothing of it is told -/
theorem oexG_init {us : List Value} {Q : Value → Shared → Prop} (T : OexG X.K C newId initId) (I : Inv X pins σ H s) (e : H a = some (exo a C none)) (hl : us.length ≤ sizeLine) (go : ∀ s', Inv X pins σ H s' → Q .none s') :
    wpAny (model X.prog X.w) A (call (.builtin initId) (.ref a :: us)) Q E s := by
  obtain ⟨nm, q, N, bs, bm, sn, sub, ab, col, dd, k0, k1, k2, k3, k5, B, bmB, hC, F, hT, _⟩ := T.cls
  obtain ⟨t1, ho⟩ := exo_at I.hok e
  obtain ⟨hp, g, d, t, os⟩ := s
  refine wpAny_call (PySem.HandSPX.init_base F hT (I.kIn _ _ hC) ho hl fun h2 t2 keep hx => ?_)
  have J := I.write (t' := t) (x := a) (e := a) (o := exo a C none) (by rw [e]; exact True.intro) (.inl rfl) keep ⟨_, hx⟩ (exo_ok hx)
  have same : upd H a (exo a C none) = H := funext fun b => by
    by_cases hb : b = a
    · rw [hb, upd_same, e]
    · rw [upd_ne hb]
  rw [same] at J
  exact go _ J
end
/-! ### the rules -/
def tGi (K : PySem.W.Frag) (newId initId : String) (ta : TA) : TE := fun σ H Q => ta σ H fun vs H1 => ∃ (a C : Addr) (ws : List V), vs = .ref a :: ws ∧ ws.length ≤ 1000 ∧ OexG K C newId initId ∧ H1 a = some (exo a C none) ∧ Q .non H1
def tGs (K : PySem.W.Frag) (newId initId : String) (f : Str) (to te : TE) : TS := fun D σ H => te σ H fun y H1 => to σ H1 fun x H2 => ∃ a C : Addr, x = .ref a ∧ OexG K C newId initId ∧ PySem.W.findIn K (.ref C) f = some none ∧
  H2 a = some (exo a C none) ∧ ∀ dx, H2 dx = none → dx ≠ a → D.nx σ (upd (upd H2 dx (exd dx [(f, y)])) a (exo a C (some dx)))
section
variable {X : Cx} {o e : Expr} {es : List Expr} {to te : TE} {ta : TA} {f x : Str} {p p' p1 p2 pos : Pos} {newId initId : String} {D : Addr}
/-- Base.__init__(self, ..), Base an own class of the module -/
theorem pe_gi {pl : Sem Bool} (hm : X.mg x = some (.ref D)) (r : ClX.CRead X.K D (.type "type")) (vV : PySem.W.findCls X.K (.ref D) (.type "type") "__init__" = some (.val (.builtin initId))) (hh : PySem.W.handedIn (.builtin initId) = true) (ha : PA X (e :: es) ta) (hg : Gl X x := by rfl) (hd : (x == ("__debug__" : Str)) = false := by decide)
    (hc : eval (.Call (.Attribute (.Name x p1) "__init__" p2) (e :: es) [] pos) X.env = (do
      let ov ← eval (.Name x p1) X.env
      standAt p2.atName
      let (f, first) ← holding [ov] (getMethod ov "__init__" pl)
      callWith pos f first (backTo pos (starEach (e :: es) X.env)) (backToKw pos (keywordEach [] X.env))) := by rfl)
    (he : starEach (e :: es) X.env = (false, eval e X.env) :: starEach es X.env := by rfl) (hpl : (backTo pos (starEach es X.env)).any (·.1) = false := by rfl) :
    PE X (.Call (.Attribute (.Name x p1) "__init__" p2) (e :: es) [] pos) (tGi X.K newId initId ta) := by
  refine ⟨fun pins s σ H Q I h => PySem.W.methodCall_KW (ld_glob I hg hm ?_ hd) hc⟩
  refine PySem.W.method_cls I.kIn r.ga (PySem.W.cls_value I.kIn r.rd vV hh ?_)
  show wpAny _ _ (callWith pos (Value.builtin initId) [] (backTo pos (starEach (e :: es) X.env)) []) _ _ _
  refine PyProof.Rows.callWith_method1 (thn (ha.run pos pins _ σ H _ (I.tok _) h) fun us s1 z => ?_) he hpl
  obtain ⟨vs, H1, I1, r1, a, C, ws, rfl, hl, T, ea, q⟩ := z
  cases r1 with
  | @cons _ u0 _ ur ra rest =>
    obtain rfl : u0 = Value.ref a := ra
    exact oexG_init T I1 ea (by rw [← Paired.length rest, sizeLine_eq]; omega) fun s' J => ⟨.non, H1, J, rfl, q⟩
theorem ps_gs (ho : PE X o to) (he : PE X e te) (hs : swapsWith e (some (.Attribute o f p')) pos.line X.env = pure false := by rfl) : PS X (.Assign [.Attribute o f p'] e pos) (tGs X.K newId initId f to te) := by
  refine ⟨fun pins s σ H D I h => plainObj_wpAny_Assign_Attribute (thn (he.run pins s σ H _ I h) fun v s1 z => ?_) hs⟩
  obtain ⟨y, H1, I1, r1, q1⟩ := z
  refine thn (ho.run pins s1 σ H1 _ I1 q1) fun u s2 z2 => ?_
  obtain ⟨x, H2, I2, r2, a, C, rfl, T, hno, ea, q⟩ := z2
  cases r2
  exact oexG_store T I2 ea hno r1 fun dx s' n ne J => ⟨σ, _, J, q dx n ne⟩
theorem mkG {CX : CXT} {C fI : Addr} {k : Nat} {fd : FuncData} {ps : List Str} {sp : Sp} (T : OexG X.K C newId initId) (iC : PySem.W.findIn X.K (.ref C) "__init__" = some (some (.ref fI))) (tI : PySem.W.typeIn X.K (.ref fI) = some (.type "function"))
    (F1 : FnOk X.prog X.w X.K X.mg X.base CX k fI fd ps sp) (hr : Room (k + 1) X.A) (hb : Binds X.K fd ps []) (hx : Passes CX X (fun _ _ _ => False)) (hm : X.mg x = some (.ref C)) (ha : PA X (e :: es) ta) (hg : Gl X x := by rfl)
    (hdb : (x == ("__debug__" : Str)) = false := by decide) (he : starEach (e :: es) X.env = (false, eval e X.env) :: starEach es X.env := by rfl) (hpl : (backTo pos (starEach es X.env)).any (·.1) = false := by rfl) :
    PMk X (.Call (.Name x p) (e :: es) [] pos) (tMkO C sp [] ta) := by
  intro pins s σ H Q I h
  obtain ⟨nm, q, N, bs, bm, sn, sub, ab, col, dd, k0, k1, k2, k3, k5, B, bmB, hC, F, hT, _⟩ := T.cls
  refine wpAny_Call_Name_kw (ld_glob I hg hm (PySem.W.callWith_K (h₀ := X.base) I.ok.mod.kin T.kC (thn (ha.run pos pins s σ H _ I h) fun us s1 z => ?_) he hpl) hdb)
  obtain ⟨vs, H1, I1, r1, hz, q1⟩ := z
  refine ⟨I1.kIn, ?_⟩
  show wpAny _ _ (call (.ref C) us) _ _ _
  obtain ⟨hp, g, dr, tk, os⟩ := s1
  generalize ex : hp.objs.size + 1 = a at q1
  have above : hp.objs.size ≤ a := by omega
  have new : H1 a = none := I1.hok.fresh above
  have goal := q1 a new
  rw [List.append_nil] at goal
  have at_a : ((hp.push (PySem.W.kdv_tup us)).push (PySem.HandSPX.excO C hp.objs.size)).get? a = some (PySem.HandSPX.excO C hp.objs.size) := by rw [← ex]; heap_get
  have kept : ∀ b o, hp.get? b = some o → ((hp.push (PySem.W.kdv_tup us)).push (PySem.HandSPX.excO C hp.objs.size)).get? b = some o := fun b o z => Heap.get?_push_of_some _ (Heap.get?_push_of_some _ z)
  have I2 : Inv X pins σ (upd H1 a (exo a C none)) ⟨(hp.push (PySem.W.kdv_tup us)).push (PySem.HandSPX.excO C hp.objs.size), g, dr, tk, os⟩ := I1.laid (t' := tk) kept above (exo_ok at_a)
  have rel : Vals (V.ref a :: vs) (Value.ref a :: us) := .cons rfl r1
  have len : (Value.ref a :: us ++ []).length = ps.length := by
    rw [List.append_nil, ← rel.length]
    exact F1.len _ _ _ _ goal
  have few : us.length ≤ sizeLine := by
    rw [← Paired.length r1, sizeLine_eq]
    omega
  have bnd := hb ⟨(hp.push (PySem.W.kdv_tup us)).push (PySem.HandSPX.excO C hp.objs.size), g, dr, tk, os⟩ (Value.ref a :: us) I2.kIn len
  rw [List.append_nil] at bnd
  refine wpAny_call (PySem.HandSPX.call_own F hT (I1.kIn _ _ hC) (PySem.W.looks_findIn I1.kIn iC) (fun self => PySem.W.bind_fn I1.kIn self tI) few ?_)
  rw [ex]
  refine codeAny_mono (F1.run _ X.stack _ _ ⟨Value.ref a :: us, []⟩ (Value.ref a :: us) _ _ (fun _ _ _ => False) (hr.make C us []) (I2.env0.make C us []) bnd rel goal) fun r s' hq => ?_
  cases r with
  | error er => exact hx pins σ _ _ er s' I2 hq
  | ok fl =>
    cases fl with
    | ret u =>
      obtain ⟨v, H2, os2, bare2, un2, hok2, rv, rfl, d, fs, ea, ed, hd1, q2⟩ := hq
      obtain ⟨h2, g2, d2, t2, os'⟩ := s'
      exact ⟨rv, mk_end (raises_own T.exC T.tyC) I1 above kept un2 hok2 os2 bare2 ea ed hd1 q2⟩
    | next => exact False.elim hq
    | brk => exact False.elim hq
    | cont => exact False.elim hq
end
/-! ### the two of the law -/
theorem line_of {tl : List Value} {p : Value → Bool} (p1 : ∀ c, p (.ref c) = true) (p2 : ∀ v, p v = true → ∃ c, v = .ref c) (hp : ∀ self, refuseLoop self "__setattr__" tl = pure ()) :
    ∀ bm : List Value, bm.dropWhile p = tl → (∀ self, refuseLoop self "__setattr__" bm = pure ()) ∧ ∀ Y : String, bm.contains (.type Y) = tl.contains (.type Y)
  | [], h => by
    subst h
    exact ⟨hp, fun _ => rfl⟩
  | a :: r, h => by
    rw [List.dropWhile_cons] at h
    by_cases c : p a = true
    · rw [if_pos c] at h
      obtain ⟨x, rfl⟩ := p2 a c
      obtain ⟨h1, h2⟩ := line_of p1 p2 hp r h
      refine ⟨fun self => ?_, fun Y => ?_⟩
      · rw [refuseLoop_ref]
        exact h1 self
      · rw [List.contains_cons, h2 Y]
        rfl
    · rw [if_neg c] at h
      subst h
      exact ⟨hp, fun _ => rfl⟩
open PySem.HandSPX in
theorem oexG_of {K : PySem.W.Frag} {c : Str} {newId initId B : String} {tl : List Value} (F : ExcBaseFacts B newId initId tl) (hp : ∀ self, refuseLoop self "__setattr__" tl = pure ()) (ho : tl.contains (.type "object") = true) (h : fExc c newId tl K = true) :
    OexG K (ga K c) newId initId ∧ PySem.W.findIn K (.ref (ga K c)) "__init__" = some (some (.ref (ma K (ga K c) "__init__"))) ∧ PySem.W.typeIn K (.ref (ma K (ga K c) "__init__")) = some (.type "function") ∧ xfB K (ga K c) = true := by
  obtain ⟨h0, h⟩ := He.ba h
  obtain ⟨h1, h⟩ := He.ba h
  obtain ⟨h2, h⟩ := He.ba h
  obtain ⟨h3, h⟩ := He.ba h
  obtain ⟨h4, h⟩ := He.ba h
  obtain ⟨h5, h⟩ := He.ba h
  obtain ⟨h6, h7⟩ := He.ba h
  refine ⟨⟨?_, He.eqO_ok h1, of_decide_eq_true h2, of_decide_eq_true h3, h4⟩, He.eqO_ok h5, of_decide_eq_true h6, h7⟩
  split at h0
  · rename_i od cd sl look
    split at h0
    · rename_i C' bm k0 k1 k2 k3 n k5 em es
      obtain ⟨ga1, g⟩ := Bool.and_eq_true_iff.mp h0
      obtain ⟨ga2, g2⟩ := Bool.and_eq_true_iff.mp ga1
      obtain ⟨ga3, g3⟩ := Bool.and_eq_true_iff.mp ga2
      obtain ⟨g0, g4⟩ := Bool.and_eq_true_iff.mp ga3
      clear ga1 ga2 ga3 h0
      obtain ⟨nm, bs, mro, ns, qn, hd, sn, sb, ab, col, del⟩ := cd
      dsimp only at em g2 g3
      subst em
      subst g2
      obtain rfl : del = false := by
        cases del with
        | false => rfl
        | true => cases g3
      obtain rfl := eq_of_beq g0
      obtain rfl := eq_of_beq g4
      have sl' : sl = #[k0, k1, k2, k3, some (.builtin n), k5] := by
        cases sl
        exact congrArg Array.mk es
      subst sl'
      obtain ⟨q1, q2⟩ := line_of (tl := tl) (fun _ => rfl) (fun v hv => by
        split at hv
        · exact ⟨_, rfl⟩
        · cases hv) hp bm (eq_of_beq g)
      refine ⟨nm, qn, ns, bs, bm, sn, sb, ab, col, od, k0, k1, k2, k3, k5, B, tl, look, F, q2, fun self => ?_, ?_, rfl⟩
      · rw [refuseLoop_ref]
        exact q1 self
      · rw [List.contains_cons, q2 "object", ho, Bool.or_true]
    · cases h0
  · cases h0
end Kx
namespace Kx
open PySem PySem.Spec PyProof.Rows L2 Evl
open He (ga ma)
/-- the own __init__: the field f is the int -/
def spExc (K : PySem.W.Frag) (c f : Str) : Sp := fun vs H Q _ => ∃ a m, vs = [.ref a, .int m] ∧ H a = some (exo a (ga K c) none) ∧ ∀ dx, H dx = none → dx ≠ a → Q .non (upd (upd H dx (exd dx [(f, .int m)])) a (exo a (ga K c) (some dx)))
structure HasE (P : Program) (w : World) (K : PySem.W.Frag) (mg : Str → Option Value) (base : Heap) (c f : Str) : Prop where
  ex : ∃ newId initId fI fd, OexG K (ga K c) newId initId ∧ PySem.W.findIn K (.ref (ga K c)) "__init__" = some (some (.ref fI)) ∧ PySem.W.typeIn K (.ref fI) = some (.type "function") ∧ FnOk P w K mg base CX0 1 fI fd ["self", f] (spExc K c f) ∧ Binds K fd ["self", f] []
section
variable {X : Cx} {e : Expr} {es : List Expr} {ta : TA} {c f : Str} {p pos : Pos}
theorem pmk_e (h : HasE X.prog X.w X.K X.mg X.base c f) (hr : Room 2 X.A) (hm : X.mg c = some (.ref (ga X.K c))) (ha : PA X (e :: es) ta) (hg : Gl X c := by rfl)
    (hdb : (c == ("__debug__" : Str)) = false := by decide) (he : starEach (e :: es) X.env = (false, eval e X.env) :: starEach es X.env := by rfl) (hpl : (backTo pos (starEach es X.env)).any (·.1) = false := by rfl) :
    PMk X (.Call (.Name c p) (e :: es) [] pos) (tMkO (ga X.K c) (spExc X.K c f) [] ta) := by
  obtain ⟨newId, initId, fI, fd, T, h1, h2, F, hb⟩ := h.ex
  exact mkG T h1 h2 F hr hb pass0 hm ha hg hdb he hpl
end
/-- what is raised -/
def RetE (K : PySem.W.Frag) (c f : Str) (m : Int) (H : Hp) (E : XK) : Prop := ∀ d H', Ex H H' → H' d = some (.xd [(f, .int m)]) → E (.ref (ga K c)) (some d) H'
theorem RetE.back {K : PySem.W.Frag} {c f : Str} {m : Int} {H H1 : Hp} {E : XK} (h : RetE K c f m H E) (e : Ex H H1) : RetE K c f m H1 E := fun d H' e2 => h d H' (e.trans e2)
theorem rd_raise {K : PySem.W.Frag} {c f : Str} {m : Int} {σ : L2.St} {H : Hp} {ta : TA} {E : XK} (h : EvA ta σ H [.int m]) (k : RetE K c f m H E) : tMkO (ga K c) (spExc K c f) [] ta σ H E := by
  refine h H (Ex.refl _) _ fun H1 e1 => ⟨Nat.le_of_ble_eq_true rfl, fun a ha => ⟨a, m, rfl, upd_same, fun dx hdx ne => ⟨rfl, dx, [(f, .int m)], upd_same, ?_, ?_, ?_⟩⟩⟩
  · rw [upd_ne ne, upd_same]
  · rw [upd_ne ne] at hdx; exact hdx
  · have hdx1 : H1 dx = none := by rw [upd_ne ne] at hdx; exact hdx
    refine k dx _ (e1.trans fun b o hb => ?_) upd_same
    have nb : b ≠ dx := fun z => by rw [z, hdx1] at hb; cases hb
    have na : b ≠ a := fun z => by rw [z, ha] at hb; cases hb
    rw [upd_ne nb, del_ne na, upd_ne na, upd_ne nb, upd_ne na]
    exact hb
section
variable {σ : L2.St} {H : Hp} {sp : Sp} {dvs vs : List V} {E : XK} {t : TA} {tz : TS} {D : Ends} {i : Nat}
theorem s_fldX {K : PySem.W.Frag} {ta : TE} {f : Str} (h : EvA t σ H vs) (k : ∀ H1, Ex H H1 → sp (vs ++ dvs) H1 (fun y H2 => ta σ H2 fun x H3 => ∃ a C dx fs, x = .ref a ∧ H3 a = some (.ins C dx fs) ∧ Cls K C ∧ NoAttr K C f ∧ fs.length < 1000 ∧ D.nx σ (upd H3 a (.ins C dx (putF f y fs)))) E) :
    sFld K ta (tCall sp dvs E t) f D σ H := h H (Ex.refl _) _ k
theorem q_asgX (h : EvA t σ H vs) (k : ∀ H1, Ex H H1 → sp (vs ++ dvs) H1 (fun x H2 => tz D (σ.set i (some x)) H2) E) : tSeq (tAsg (tCall sp dvs E t) (gName i)) tz D σ H := h H (Ex.refl _) _ k
end
/-- the rows of the two classes -/
theorem Tx.oexB {K : PySem.W.Frag} {mg : Str → Option Value} (T : Tx K mg) : OexG K (ga K "BadSteps") "ValueError.__new__" "ValueError.__init__" ∧ PySem.W.findIn K (.ref (ga K "BadSteps")) "__init__" = some (some (.ref (ma K (ga K "BadSteps") "__init__"))) ∧ PySem.W.typeIn K (.ref (ma K (ga K "BadSteps") "__init__")) = some (.type "function") ∧ xfB K (ga K "BadSteps") = true := oexG_of (K := K) (c := "BadSteps") PySem.F.excBase_ValueError PySem.F.store_ValueError.passes (by decide +kernel) (T.fac 82 _ rfl)
theorem Tx.oexE {K : PySem.W.Frag} {mg : Str → Option Value} (T : Tx K mg) : OexG K (ga K "Exhausted") "LookupError.__new__" "LookupError.__init__" ∧ PySem.W.findIn K (.ref (ga K "Exhausted")) "__init__" = some (some (.ref (ma K (ga K "Exhausted") "__init__"))) ∧ PySem.W.typeIn K (.ref (ma K (ga K "Exhausted") "__init__")) = some (.type "function") ∧ xfB K (ga K "Exhausted") = true := oexG_of (K := K) (c := "Exhausted") PySem.F.excBase_LookupError (fun self => by kernel_rfl) (by decide +kernel) (T.fac 83 _ rfl)
theorem Tx.readB {K : PySem.W.Frag} {mg : Str → Option Value} (T : Tx K mg) (j : Nat) {c : Str} (h : facs[j]? = some (fRead c)) : ClX.CRead K (ga K c) (.type "type") := by
  obtain ⟨r1, r2⟩ := He.ba (T.fac j _ h)
  exact ⟨r1, He.eqO_ok r2⟩
theorem Tx.biB {K : PySem.W.Frag} {mg : Str → Option Value} (T : Tx K mg) (j : Nat) {c : Str} {id : String} (h : facs[j]? = some (fBI c id)) : PySem.W.findCls K (.ref (ga K c)) (.type "type") "__init__" = some (.val (.builtin id)) := by
  have z := T.fac j _ h
  unfold fBI at z
  split at z
  · rename_i i e
    rw [e, eq_of_beq z]
  · cases z
end Kx
set_option Elab.async false
set_option linter.all false
set_option maxRecDepth 100000
set_option maxHeartbeats 2000000
namespace Kx
open PySem PySem.Spec PyProof.Rows L2 Evl
open He (ga ma)
section
variable {P : Program} {w : World} {K : PySem.W.Frag} {mg : Str → Option Value} {base : Heap}
def N_BadSteps_init : List Str := ["self", "given"]
theorem sc_BadSteps_init : FnScope N_BadSteps_init ["self", "given"] (defScope s_BadSteps_init) := ⟨rfl, rfl, rfl, by decide +kernel, rfl, by decide +kernel, by decide +kernel⟩
theorem h_BadSteps_init (T : Tx K mg) : HasE P w K mg base "BadSteps" "given" := by
  obtain ⟨fd, F⟩ := T.fn 0 d_BadSteps_init rfl
  obtain ⟨t1, t2, t3, _⟩ := T.oexB
  refine ⟨_, _, _, fd, t1, t2, t3, FunD.ok0 F sc_BadSteps_init (fun vs H Q E h => by obtain ⟨a, m, rfl, _⟩ := h; rfl) fun cdv A outer s H vs Q E hr h => ?_, F.bindsN (fun | _, _, _, _, _, _, [_, _], _ => rfl)⟩
  obtain ⟨a, m, rfl, ha, h⟩ := h
  refine ⟨_, (pss_cons (ps_expr (pe_gi (initId := "ValueError.__init__") (newId := "ValueError.__new__") (T.glo 1 _ rfl) (T.readB 56 rfl) (T.biB 87 rfl) (by decide +kernel) (pa_cons (pv 0) (pa_cons pe_str pa_nil)))) (pss_one (ps_gs (newId := "ValueError.__new__") (initId := "ValueError.__init__") (pv 0) (pv 1)))), ?_⟩
  refine ⟨_, rfl, a, ga K "BadSteps", [_], rfl, by decide, t1, ha, ?_⟩
  exact ⟨_, rfl, _, rfl, a, ga K "BadSteps", rfl, t1, T.noat 8 _ rfl, ha, h⟩
def N_Exhausted_init : List Str := ["self", "missing"]
theorem sc_Exhausted_init : FnScope N_Exhausted_init ["self", "missing"] (defScope s_Exhausted_init) := ⟨rfl, rfl, rfl, by decide +kernel, rfl, by decide +kernel, by decide +kernel⟩
theorem h_Exhausted_init (T : Tx K mg) : HasE P w K mg base "Exhausted" "missing" := by
  obtain ⟨fd, F⟩ := T.fn 1 d_Exhausted_init rfl
  obtain ⟨t1, t2, t3, _⟩ := T.oexE
  refine ⟨_, _, _, fd, t1, t2, t3, FunD.ok0 F sc_Exhausted_init (fun vs H Q E h => by obtain ⟨a, m, rfl, _⟩ := h; rfl) fun cdv A outer s H vs Q E hr h => ?_, F.bindsN (fun | _, _, _, _, _, _, [_, _], _ => rfl)⟩
  obtain ⟨a, m, rfl, ha, h⟩ := h
  refine ⟨_, (pss_cons (ps_expr (pe_gi (initId := "LookupError.__init__") (newId := "LookupError.__new__") (T.glo 8 _ rfl) (T.readB 57 rfl) (T.biB 88 rfl) (by decide +kernel) (pa_cons (pv 0) (pa_cons pe_str pa_nil)))) (pss_one (ps_gs (newId := "LookupError.__new__") (initId := "LookupError.__init__") (pv 0) (pv 1)))), ?_⟩
  refine ⟨_, rfl, a, ga K "Exhausted", [_], rfl, by decide, t1, ha, ?_⟩
  exact ⟨_, rfl, _, rfl, a, ga K "Exhausted", rfl, t1, T.noat 9 _ rfl, ha, h⟩
def N_script_after : List Str := ["script", "place", "steps"]
theorem sc_script_after : FnScope N_script_after ["script", "place", "steps"] (defScope s_script_after) := ⟨rfl, rfl, rfl, by decide +kernel, rfl, by decide +kernel, by decide +kernel⟩
def sp_script_after (K : PySem.W.Frag) : Sp := fun vs H Q E => ∃ a ws pl s, vs = [.ref a, .int pl, .int s] ∧ H a = some (.tup (iV ws)) ∧ (pl + s ≤ ws.length → RetV (.int (pl + s)) H Q) ∧ (¬ pl + s ≤ ws.length → RetE K "Exhausted" "missing" (pl + s - ws.length) H E)
theorem h_script_after (T : Tx K mg) : Has P w K mg base (L2.CX P w) "script_after" 3 ["script", "place", "steps"] (sp_script_after K) :=
  have h_Exhausted_init := h_Exhausted_init (P := P) (w := w) (base := base) T
  T.hasX 12 24 rfl rfl rfl sc_script_after (fun vs H Q E h => by obtain ⟨a, ws, pl, s, rfl, _⟩ := h; rfl) rfl (fun | _, _, _, _, _, _, [_, _, _], _ => rfl) fun cdv A outer s H vs Q E hr h => by
    obtain ⟨a, ws, pl, st, rfl, ha, h1, h2⟩ := h
    refine ⟨_, (pss_cons (ps_if (pt_cmpR op_gt (pe_op op_add (pv 1) (pv 2)) (pe_callB call_len (by rfl) (T.fre 1 _ rfl) PySem.boot_len (pa_cons (pv 0) pa_nil)) (nomark _)) (pss_one (ps_raise rfl (takes_of rfl rfl rfl rfl) (pmk_e h_Exhausted_init (hr.mono (by decide)) (T.glo 9 _ rfl) (pa_cons (pe_op op_sub (pe_op op_add (pv 1) (pv 2)) (pe_callB call_len (by rfl) (T.fre 1 _ rfl) PySem.boot_len (pa_cons (pv 0) pa_nil))) pa_nil)))) pss_nil) (pss_one (ps_ret (pe_op op_add (pv 1) (pv 2))))), ?_⟩
    refine q_when (b := decide (((iV ws).length : Int) < pl + st)) (et_test (ev_op (ev_op (ev_var rfl) (ev_var rfl) rv_I0) (ev_lenT (ev_var rfl) ha) rv_I0)) (fun k H1 e1 => ?_) (fun k H1 e1 => ?_)
    · have k := of_decide_eq_true k
      rw [iV_len] at k
      refine rd_raise (ea_cons (ev_is (ev_op (ev_op (ev_var rfl) (ev_var rfl) rv_I0) (ev_lenT (ev_var rfl) (e1 _ _ ha)) rv_I0) (by rw [iV_len])) ea_nil) ((h2 (by omega)).back e1)
    · have k := of_decide_eq_false k
      rw [iV_len] at k
      exact s_retE (ev_op (ev_var rfl) (ev_var rfl) rv_I0) (ra (h1 (by omega)) e1)
def N_script_before : List Str := ["place", "steps"]
theorem sc_script_before : FnScope N_script_before ["place", "steps"] (defScope s_script_before) := ⟨rfl, rfl, rfl, by decide +kernel, rfl, by decide +kernel, by decide +kernel⟩
def sp_script_before (K : PySem.W.Frag) : Sp := fun vs H Q E => ∃ pl s, vs = [.int pl, .int s] ∧ (s ≤ pl → RetV (.int (pl - s)) H Q) ∧ (¬ s ≤ pl → RetE K "BadSteps" "given" s H E)
theorem h_script_before (T : Tx K mg) : Has P w K mg base (L2.CX P w) "script_before" 3 ["place", "steps"] (sp_script_before K) :=
  have h_BadSteps_init := h_BadSteps_init (P := P) (w := w) (base := base) T
  T.hasX 13 25 rfl rfl rfl sc_script_before (fun vs H Q E h => by obtain ⟨pl, s, rfl, _⟩ := h; rfl) rfl (fun | _, _, _, _, _, _, [_, _], _ => rfl) fun cdv A outer s H vs Q E hr h => by
    obtain ⟨pl, st, rfl, h1, h2⟩ := h
    refine ⟨_, (pss_cons (ps_if (pt_cmpR op_gt (pv 1) (pv 0) (nomark _)) (pss_one (ps_raise rfl (takes_of rfl rfl rfl rfl) (pmk_e h_BadSteps_init (hr.mono (by decide)) (T.glo 4 _ rfl) (pa_cons (pv 1) pa_nil)))) pss_nil) (pss_one (ps_ret (pe_op op_sub (pv 0) (pv 1))))), ?_⟩
    refine q_when (b := decide (pl < st)) (et_test (ev_op (ev_var rfl) (ev_var rfl) rv_I0)) (fun k H1 e1 => ?_) (fun k H1 e1 => ?_)
    · have k := of_decide_eq_true k
      exact rd_raise (ea_cons (ev_var rfl) ea_nil) ((h2 (by omega)).back e1)
    · have k := of_decide_eq_false k
      exact s_retE (ev_op (ev_var rfl) (ev_var rfl) rv_I0) (ra (h1 (by omega)) e1)
end
end Kx
set_option Elab.async false
set_option linter.all false
set_option maxRecDepth 100000
set_option maxHeartbeats 2000000
namespace Kx
open PySem PySem.Spec PyProof.Rows L2 Evl
open He (ga ma)
section
variable {P : Program} {w : World} {K : PySem.W.Frag} {mg : Str → Option Value} {base : Heap}
/-! ### Scripted -/
theorem scr_of {K : PySem.W.Frag} {H : Hp} {p : Addr} {S : Src} (h : SrcAt K H p S) (c : S.cls = "Scripted") : ∃ ws pl dx a, S = .scr ws pl ∧ H p = some (.ins (ga K "Scripted") dx [("s1_script", .ref a), ("s1_place", .int (pl : Nat))]) ∧ H a = some (.tup (iV ws)) := by
  cases S with
  | lin x => cases c
  | cnt k q => cases c
  | twi r => cases c
  | scr ws pl => obtain ⟨dx, a, h, h2⟩ := h; exact ⟨ws, pl, dx, a, rfl, h, h2⟩
theorem fld_t (T : Tx K mg) {H : Hp} {p dx : Addr} {u v : V} {σ : L2.St} {te : TE} (hp : H p = some (.ins (ga K "Scripted") dx [("s1_script", u), ("s1_place", v)])) (h : Ev te σ H (.ref p)) : Ev (tFld K te "s1_script") σ H u :=
  ev_fld h hp (T.cls 0 _ rfl) (T.noat 0 _ rfl) rfl
theorem fld_l (T : Tx K mg) {H : Hp} {p dx : Addr} {u v : V} {σ : L2.St} {te : TE} (hp : H p = some (.ins (ga K "Scripted") dx [("s1_script", u), ("s1_place", v)])) (h : Ev te σ H (.ref p)) : Ev (tFld K te "s1_place") σ H v :=
  ev_fld h hp (T.cls 0 _ rfl) (T.noat 1 _ rfl) rfl
def ScrAt (H : Hp) (v : V) (ws : List Int) (pl : Nat) : Prop := ∃ a b, v = .ref a ∧ H a = some (.tup [.ref b, .int pl]) ∧ H b = some (.tup (iV ws))
def N_need_script_state : List Str := ["state"]
theorem sc_need_script_state : FnScope N_need_script_state ["state"] (defScope s_need_script_state) := ⟨rfl, rfl, rfl, by decide +kernel, rfl, by decide +kernel, by decide +kernel⟩
def sp_need_script_state : Sp := fun vs H Q _ => ∃ a b ws pl, vs = [.ref a] ∧ H a = some (.tup [.ref b, .int (pl : Nat)]) ∧ H b = some (.tup (iV ws)) ∧ OkScr ws ∧ pl ≤ ws.length ∧ RetV .non H Q
theorem h_need_script_state (T : Tx K mg) : Has P w K mg base CX0 "need_script_state" 4 ["state"] sp_need_script_state :=
  have h_is_script := h_is_script (P := P) (w := w) (base := base) T
  have h_is_integer := h_is_integer (P := P) (w := w) (base := base) T
  T.has 11 23 rfl rfl rfl sc_need_script_state (fun vs H Q E h => by obtain ⟨a, b, ws, pl, rfl, _⟩ := h; rfl) rfl (fun | _, _, _, _, _, _, [_], _ => rfl) fun cdv A outer s H vs Q E hr h => by
    obtain ⟨a, b, ws, pl, rfl, ha, hb, ok, le, h⟩ := h
    refine ⟨_, (pss_cons (ps_if (PW.pt (pw_or (pt_not (pt_val (pe_isB T 4 rfl boot_tupleT (pv 0)))) (pw_or (pt_cmpR op_ne (pe_callB call_len (by rfl) (T.fre 1 _ rfl) PySem.boot_len (pa_cons (pv 0) pa_nil)) pe_int (nomark _)) (pw_or (pt_not (pt_val (pe_h h_is_script (hr.mono (by decide)) pass0 (pa_cons (pe_ix ix_tup (pv 0) pe_int (fun _ _ => rfl)) pa_nil)))) (pw_or1 (pt_not (pt_val (pe_h h_is_integer (hr.mono (by decide)) pass0 (pa_cons (pe_ix ix_tup (pv 0) pe_int (fun _ _ => rfl)) pa_nil))))))))) (pss_one ps_never) pss_nil) (pss_one (ps_if (pt_not (pt_chain op_le op_le pe_int (pe_ix ix_tup (pv 0) pe_int (fun _ _ => rfl)) (pe_callB call_len (by rfl) (T.fre 1 _ rfl) PySem.boot_len (pa_cons (pe_ix ix_tup (pv 0) pe_int (fun _ _ => rfl)) pa_nil)))) (pss_one ps_never) pss_nil))), ?_⟩
    refine q_when (b := false) ?_ (fun q => nomatch q) (fun _ H1 e1 => s_when (b := false) ?_ (fun q => nomatch q) (fun _ H2 e2 => h _ (Ex.trans e1 e2)))
    · refine et_is (a := !true || (!decide (V.int 2 = V.int 2) || (!true || !true))) ?_ rfl
      refine et_or0 (et_not (et_B (ev_isBtt (ev_var rfl) ha))) (et_or0 (et_test (ev_op (ev_lenT (ev_var rfl) ha) ev_c (rv_ne rfl))) (et_or0 (et_not (et_B ?_)) (et_not (et_B ?_))))
      · exact ev_call (ea_cons (ev_ixT (ev_var rfl) ha ev_c rfl) ea_nil) (fun H6 e6 Q' k' E' => ⟨b, ws, rfl, e6 _ _ hb, ok, k'⟩)
      · exact ev_call (ea_cons (ev_ixT (ev_var rfl) ha ev_c rfl) ea_nil) (spv1 trivial)
    · have ha1 := e1 _ _ ha
      have hb1 := e1 _ _ hb
      refine et_is (et_not (et_test (ev_chain ev_c (ev_ixT (ev_var rfl) ha1 ev_c rfl) rv_I0 (ev_lenT (ev_ixT (ev_var rfl) ha1 ev_c rfl) hb1) rv_I0))) ?_
      rw [iV_len, decide_eq_true (by omega), decide_eq_true (by omega)]
      rfl
def N_Scripted_init : List Str := ["self", "script", "place"]
theorem sc_Scripted_init : FnScope N_Scripted_init ["self", "script", "place"] (defScope s_Scripted_init) := ⟨rfl, rfl, rfl, by decide +kernel, rfl, by decide +kernel, by decide +kernel⟩
def argScr : List V → Hp → Src → Prop := fun as H S => ∃ a ws pl, as = [.ref a, .int (pl : Nat)] ∧ S = .scr ws pl ∧ H a = some (.tup (iV ws))
theorem h_Scripted_init (T : Tx K mg) : HasI P w K mg base CX0 (ga K "Scripted") 5 ["self", "script", "place"] (spInit K "Scripted" argScr) := by
  have h_is_script := h_is_script (P := P) (w := w) (base := base) T
  have h_need_script_state := h_need_script_state (P := P) (w := w) (base := base) T
  obtain ⟨fd, F⟩ := T.fn 14 d_Scripted_init rfl
  obtain ⟨ds, hv, hb⟩ := F.binds1 (ps := ["self", "script", "place"]) 3 1 (fun z => by cases z) rfl (fun tp _ _ _ _ _ _ us its h1 h2 => by
    match us, h1, its, h2 with
    | [a, b, c], _, [d], _ => exact ⟨_, rfl, rfl⟩)
  · cases hv
    refine ⟨_, fd, FunD.ok0 F sc_Scripted_init (fun vs H Q E h => by obtain ⟨x, dx, as, S, rfl, _, ⟨a, ws, pl, rfl, _⟩, _⟩ := h; rfl) fun cdv A outer s H vs Q E hr h => ?_, He.mkr_ok (T.fac 33 _ rfl), hb⟩
    obtain ⟨x, dx, as, S, rfl, hx, ⟨a, ws, pl, rfl, rfl, ha⟩, hv, _, h⟩ := h
    refine ⟨_, (pss_cons (ps_if (pt_not (pt_val (pe_h h_is_script (hr.mono (by decide)) pass0 (pa_cons (pv 1) pa_nil)))) (pss_one ps_never) pss_nil) (pss_cons (ps_expr (pe_h h_need_script_state (hr.mono (by decide)) pass0 (pa_cons (pe_tup (pa_cons (pv 1) (pa_cons (pv 2) pa_nil))) pa_nil))) (pss_cons (ps_fld (pv 0) (pv 1) rfl) (pss_one (ps_fld (pv 0) (pv 2) rfl))))), ?_⟩
    refine q_when (b := false) (et_is (et_not (et_B (ev_call (ea_cons (ev_var rfl) ea_nil) (fun H6 e6 Q' k' E' => ⟨a, ws, rfl, e6 _ _ ha, hv.1, k'⟩)))) rfl) (fun q => nomatch q) fun _ H1 e1 => ?_
    have ha1 := e1 _ _ ha
    refine q_drop (v := .non) (ev_callW (ew_tup (ea_cons (ev_var rfl) (ea_cons (ev_var rfl) ea_nil)) (Nat.le_of_ble_eq_true rfl)) fun t H6 e6 ht H7 e7 Q' k' E' => ⟨t, a, ws, pl, rfl, e7 _ _ ht, e7 _ _ (e6 _ _ ha1), hv.1, hv.2, k'⟩) fun H2 e2 => ?_
    refine q_fldO (ev_var rfl) (ev_var rfl) (e2 _ _ (e1 _ _ hx)) (T.cls 0 _ rfl) (T.noat 0 _ rfl) (by decide) fun H3 o3 hx3 => ?_
    exact s_fldO (ev_var rfl) (ev_var rfl) hx3 (T.cls 0 _ rfl) (T.noat 1 _ rfl) (Nat.le_of_ble_eq_true rfl) fun H4 o4 hx4 => h _ ((Only.ex (Ex.trans e1 e2)).trans (o3.trans o4)) ⟨dx, a, hx4, (o3.trans o4).tups _ _ (e2 _ _ ha1)⟩
def N_Scripted_next_word : List Str := ["self", "place"]
theorem sc_Scripted_next_word : FnScope N_Scripted_next_word ["self"] (defScope s_Scripted_next_word) := ⟨rfl, rfl, rfl, by decide +kernel, rfl, by decide +kernel, by decide +kernel⟩
theorem h_Scripted_next_word (T : Tx K mg) : HasM P w K mg base (L2.CX P w) (ga K "Scripted") "next_word" 4 ["self"] (spNext K "Scripted") :=
  have h_script_after := h_script_after (P := P) (w := w) (base := base) T
  T.hasMX 15 0 rfl rfl rfl sc_Scripted_next_word (fun vs H Q E h => by obtain ⟨x, S, rfl, _⟩ := h; rfl) rfl (fun | _, _, _, _, _, _, [_], _ => rfl) fun cdv A outer s H vs Q E hr h => by
    obtain ⟨p, S, rfl, hs, hv, hc, h⟩ := h
    obtain ⟨ws, pl, dx, a, rfl, hp, ha⟩ := scr_of hs hc
    refine ⟨_, (pss_cons (ps_set (i := 1) sc_Scripted_next_word.nd rfl (Or.inl rfl) (pe_h h_script_after (hr.mono (by decide)) (passes_call (takes_of rfl rfl rfl rfl) (fun _ _ _ _ h => h)) (pa_cons (pe_fld (pv 0) rfl) (pa_cons (pe_fld (pv 0) rfl) (pa_cons pe_int pa_nil))))) (pss_cons (ps_fld (pv 0) (pv 1) rfl) (pss_one (ps_ret (pe_ix ix_tup (pe_fld (pv 0) rfl) (pe_op op_sub (pv 1) pe_int) (fun _ _ => rfl)))))), ?_⟩
    refine q_asgX (ea_cons (fld_t T hp (ev_var rfl)) (ea_cons (fld_l T hp (ev_var rfl)) (ea_cons ev_c ea_nil))) fun H1 e1 => ⟨a, ws, (pl : Nat), 1, rfl, e1 _ _ ha, fun le => ?_, fun nle => ?_⟩
    · intro H2 e2
      have hp2 := e2 _ _ (e1 _ _ hp)
      have lt : pl < ws.length := by omega
      have hh : RetS K p H (.ok (ws.getD pl 0) (.scr ws (pl + 1)) : Res Int) V.int Q E := by
        have z : RetS K p H (Src.scr ws pl).next V.int Q E := h
        rw [Src.next, if_pos lt] at z
        exact z
      refine q_fldO (y := .int ((pl : Int) + 1)) (ev_var rfl) (ev_var rfl) hp2 (T.cls 0 _ rfl) (T.noat 1 _ rfl) (Nat.le_of_ble_eq_true rfl) fun H3 o3 hp3 => ?_
      have ha3 := o3.tups _ _ (e2 _ _ (e1 _ _ ha))
      refine s_ret (v := .int (ws.getD pl 0)) (ev_ixT (fld_t T hp3 (ev_var rfl)) ha3 (ev_is (ev_op (ev_var rfl) ev_c rv_I0) (show V.int ((pl : Int) + 1 - 1) = V.int (pl : Int) by rw [Int.add_sub_cancel])) (atI_nat ?_)) fun H4 e4 => hh H4 (((Only.ex (Ex.trans e1 e2)).trans o3).trans (Only.ex e4)) ⟨dx, a, e4 _ _ hp3, e4 _ _ ha3⟩
      rw [List.getElem?_map, List.getElem?_eq_getElem lt, List.getD_eq_getElem?_getD, List.getElem?_eq_getElem lt]
      rfl
    · have hh : RetS K p H (.exh ((pl : Int) + 1 - ws.length) : Res Int) V.int Q E := by
        have z : RetS K p H (Src.scr ws pl).next V.int Q E := h
        rw [Src.next, if_neg (by omega)] at z
        exact z
      exact fun d H' e2 => hh d H' (Ex.trans e1 e2)
def N_Scripted_state : List Str := ["self"]
theorem sc_Scripted_state : FnScope N_Scripted_state ["self"] (defScope s_Scripted_state) := ⟨rfl, rfl, rfl, by decide +kernel, rfl, by decide +kernel, by decide +kernel⟩
theorem h_Scripted_state (T : Tx K mg) : HasP P w K mg base CX0 (ga K "Scripted") "state" 1 (spState K "Scripted") :=
  T.hasP 16 38 rfl rfl rfl sc_Scripted_state (fun vs H Q E h => by obtain ⟨x, S, rfl, _⟩ := h; rfl) rfl (fun | _, _, _, _, _, _, [_], _ => rfl) fun cdv A outer s H vs Q E hr h => by
    obtain ⟨p, S, rfl, hs, hv, hc, h⟩ := h
    obtain ⟨ws, pl, dx, a, rfl, hp, ha⟩ := scr_of hs hc
    refine ⟨_, (pss_one (ps_ret (pe_tup (pa_cons (pe_fld (pv 0) rfl) (pa_cons (pe_fld (pv 0) rfl) pa_nil))))), ?_⟩
    exact s_retW (ew_tup (ea_cons (fld_t T hp (ev_var rfl)) (ea_cons (fld_l T hp (ev_var rfl)) ea_nil)) (Nat.le_of_ble_eq_true rfl)) fun t H2 e2 ht => h _ H2 e2 ⟨t, a, rfl, ht, e2 _ _ ha⟩
def N_Scripted_left : List Str := ["self"]
theorem sc_Scripted_left : FnScope N_Scripted_left ["self"] (defScope s_Scripted_left) := ⟨rfl, rfl, rfl, by decide +kernel, rfl, by decide +kernel, by decide +kernel⟩
def spLeft (K : PySem.W.Frag) : Sp := fun vs H Q _ => ∃ p ws pl, vs = [.ref p] ∧ SrcAt K H p (.scr ws pl) ∧ RetV (.int ((ws.length : Int) - pl)) H Q
theorem h_Scripted_left (T : Tx K mg) : HasP P w K mg base CX0 (ga K "Scripted") "left" 1 (spLeft K) :=
  T.hasP 17 39 rfl rfl rfl sc_Scripted_left (fun vs H Q E h => by obtain ⟨x, ws, pl, rfl, _⟩ := h; rfl) rfl (fun | _, _, _, _, _, _, [_], _ => rfl) fun cdv A outer s H vs Q E hr h => by
    obtain ⟨p, ws, pl, rfl, ⟨dx, a, hp, ha⟩, h⟩ := h
    refine ⟨_, (pss_one (ps_ret (pe_op op_sub (pe_callB call_len (by rfl) (T.fre 1 _ rfl) PySem.boot_len (pa_cons (pe_fld (pv 0) rfl) pa_nil)) (pe_fld (pv 0) rfl)))), ?_⟩
    refine s_retE (ev_is (ev_op (ev_lenT (fld_t T hp (ev_var rfl)) ha) (fld_l T hp (ev_var rfl)) rv_I0) ?_) h
    rw [iV_len]
def N_Scripted_set_state : List Str := ["self", "state"]
theorem sc_Scripted_set_state : FnScope N_Scripted_set_state ["self", "state"] (defScope s_Scripted_set_state) := ⟨rfl, rfl, rfl, by decide +kernel, rfl, by decide +kernel, by decide +kernel⟩
theorem h_Scripted_set_state (T : Tx K mg) : HasM P w K mg base CX0 (ga K "Scripted") "set_state" 5 ["self", "state"] (spSet K "Scripted") :=
  have h_need_script_state := h_need_script_state (P := P) (w := w) (base := base) T
  T.hasM 18 1 rfl rfl rfl sc_Scripted_set_state (fun vs H Q E h => by obtain ⟨x, v, S0, S, rfl, _⟩ := h; rfl) rfl (fun | _, _, _, _, _, _, [_, _], _ => rfl) fun cdv A outer s H vs Q E hr h => by
    obtain ⟨p, v, S0, S, rfl, hs0, hc0, hst, hv, hc, h⟩ := h
    obtain ⟨ws0, pl0, dx, a0, rfl, hp, _⟩ := scr_of hs0 hc0
    obtain ⟨ws, pl, rfl⟩ : ∃ ws pl, S = .scr ws pl := by cases S <;> first | exact ⟨_, _, rfl⟩ | cases hc
    obtain ⟨a, b, rfl, ha, hb⟩ := hst
    refine ⟨_, (pss_cons (ps_expr (pe_h h_need_script_state (hr.mono (by decide)) pass0 (pa_cons (pv 1) pa_nil))) (pss_one (ps_asg (pv 1) (pg_tup rfl (pgs_cons (pg_fld (pv 0)) (pgs_cons (pg_fld (pv 0)) pgs_nil)))))), ?_⟩
    refine q_drop (v := .non) (ev_call (ea_cons (ev_var rfl) ea_nil) (fun H6 e6 Q' k' E' => ⟨a, b, ws, pl, rfl, e6 _ _ ha, e6 _ _ hb, hv.1, hv.2, k'⟩)) fun H1 e1 => ?_
    exact s_asgFF (ew_at (ev_var rfl) (e1 _ _ ha)) (fun _ => ev_var rfl) (fun _ => ev_var rfl) (e1 _ _ hp) (T.cls 0 _ rfl) (T.noat 0 _ rfl) (T.noat 1 _ rfl) (Nat.le_of_ble_eq_true rfl) fun H2 o2 hp2 => h _ ((Only.ex e1).trans o2) ⟨dx, b, hp2, o2.tups _ _ (e1 _ _ hb)⟩
def N_Scripted_jump : List Str := ["self", "steps"]
theorem sc_Scripted_jump : FnScope N_Scripted_jump ["self", "steps"] (defScope s_Scripted_jump) := ⟨rfl, rfl, rfl, by decide +kernel, rfl, by decide +kernel, by decide +kernel⟩
theorem h_Scripted_jump (T : Tx K mg) : HasM P w K mg base (L2.CX P w) (ga K "Scripted") "jump" 4 ["self", "steps"] (spJump K "Scripted") :=
  have h_need_steps := h_need_steps (P := P) (w := w) (base := base) T
  have h_script_after := h_script_after (P := P) (w := w) (base := base) T
  T.hasMX 19 2 rfl rfl rfl sc_Scripted_jump (fun vs H Q E h => by obtain ⟨x, S, s, rfl, _⟩ := h; rfl) rfl (fun | _, _, _, _, _, _, [_, _], _ => rfl) fun cdv A outer s H vs Q E hr h => by
    obtain ⟨p, S, st, rfl, hs, hv, hc, hl, h⟩ := h
    obtain ⟨ws, pl, dx, a, rfl, hp, ha⟩ := scr_of hs hc
    refine ⟨_, (pss_cons (ps_expr (pe_h h_need_steps (hr.mono (by decide)) pass0 (pa_cons (pv 1) pa_nil))) (pss_one (ps_fld (pv 0) (pe_h h_script_after (hr.mono (by decide)) (passes_call (takes_of rfl rfl rfl rfl) (fun _ _ _ _ h => h)) (pa_cons (pe_fld (pv 0) rfl) (pa_cons (pe_fld (pv 0) rfl) (pa_cons (pv 1) pa_nil)))) rfl))), ?_⟩
    refine q_drop (v := .non) (ev_call (ea_cons (ev_var rfl) ea_nil) (spv1 hl.ok)) fun H1 e1 => ?_
    have hp1 := e1 _ _ hp
    have ok := hl.ok
    unfold okSteps at ok
    refine s_fldX (ea_cons (fld_t T hp1 (ev_var rfl)) (ea_cons (fld_l T hp1 (ev_var rfl)) (ea_cons (ev_var rfl) ea_nil))) fun H2 e2 => ⟨a, ws, (pl : Nat), st, rfl, e2 _ _ (e1 _ _ ha), fun le => ?_, fun nle => ?_⟩
    · have hh : RetS K p H (.ok () (.scr ws ((pl : Int) + st).toNat) : Res Unit) (fun _ => V.non) Q E := by
        have z : RetS K p H ((Src.scr ws pl).jump st) (fun _ => V.non) Q E := h
        rw [Src.jump, if_pos le] at z
        exact z
      intro H3 e3
      have hp3 := e3 _ _ (e2 _ _ hp1)
      have cast : (((pl : Int) + st).toNat : Int) = (pl : Int) + st := by omega
      refine (ev_var (v := .ref p) rfl) H3 (Ex.refl _) _ fun H4 e4 => ⟨p, _, dx, _, rfl, e4 _ _ hp3, T.cls 0 _ rfl, T.noat 1 _ rfl, Nat.le_of_ble_eq_true rfl, hh _ ((Only.ex (Ex.trans (Ex.trans e1 e2) (Ex.trans e3 e4))).trans (Only.ins (e4 _ _ hp3))) ⟨dx, a, ?_, ?_⟩⟩
      · rw [upd_same, cast]
        rfl
      · exact (Only.ins (e4 _ _ hp3)).tups _ _ (e4 _ _ (e3 _ _ (e2 _ _ (e1 _ _ ha))))
    · have hh : RetS K p H (.exh ((pl : Int) + st - ws.length) : Res Unit) (fun _ => V.non) Q E := by
        have z : RetS K p H ((Src.scr ws pl).jump st) (fun _ => V.non) Q E := h
        rw [Src.jump, if_neg nle] at z
        exact z
      exact fun d H' e3 => hh d H' (Ex.trans (Ex.trans e1 e2) e3)
def N_Scripted_back : List Str := ["self", "steps"]
theorem sc_Scripted_back : FnScope N_Scripted_back ["self", "steps"] (defScope s_Scripted_back) := ⟨rfl, rfl, rfl, by decide +kernel, rfl, by decide +kernel, by decide +kernel⟩
theorem h_Scripted_back (T : Tx K mg) : HasM P w K mg base (L2.CX P w) (ga K "Scripted") "back" 4 ["self", "steps"] (spBack K "Scripted") :=
  have h_need_steps := h_need_steps (P := P) (w := w) (base := base) T
  have h_script_before := h_script_before (P := P) (w := w) (base := base) T
  T.hasMX 20 3 rfl rfl rfl sc_Scripted_back (fun vs H Q E h => by obtain ⟨x, S, s, rfl, _⟩ := h; rfl) rfl (fun | _, _, _, _, _, _, [_, _], _ => rfl) fun cdv A outer s H vs Q E hr h => by
    obtain ⟨p, S, st, rfl, hs, hv, hc, hl, h⟩ := h
    obtain ⟨ws, pl, dx, a, rfl, hp, ha⟩ := scr_of hs hc
    refine ⟨_, (pss_cons (ps_expr (pe_h h_need_steps (hr.mono (by decide)) pass0 (pa_cons (pv 1) pa_nil))) (pss_one (ps_fld (pv 0) (pe_h h_script_before (hr.mono (by decide)) (passes_call (takes_of rfl rfl rfl rfl) (fun _ _ _ _ h => h)) (pa_cons (pe_fld (pv 0) rfl) (pa_cons (pv 1) pa_nil))) rfl))), ?_⟩
    refine q_drop (v := .non) (ev_call (ea_cons (ev_var rfl) ea_nil) (spv1 hl.ok)) fun H1 e1 => ?_
    have hp1 := e1 _ _ hp
    have ok := hl.ok
    unfold okSteps at ok
    refine s_fldX (ea_cons (fld_l T hp1 (ev_var rfl)) (ea_cons (ev_var rfl) ea_nil)) fun H2 e2 => ⟨(pl : Nat), st, rfl, fun le => ?_, fun nle => ?_⟩
    · have hh : RetS K p H (.ok () (.scr ws ((pl : Int) - st).toNat) : Res Unit) (fun _ => V.non) Q E := by
        have z : RetS K p H ((Src.scr ws pl).back st) (fun _ => V.non) Q E := h
        rw [Src.back, if_pos le] at z
        exact z
      intro H3 e3
      have hp3 := e3 _ _ (e2 _ _ hp1)
      have cast : (((pl : Int) - st).toNat : Int) = (pl : Int) - st := by omega
      refine (ev_var (v := .ref p) rfl) H3 (Ex.refl _) _ fun H4 e4 => ⟨p, _, dx, _, rfl, e4 _ _ hp3, T.cls 0 _ rfl, T.noat 1 _ rfl, Nat.le_of_ble_eq_true rfl, hh _ ((Only.ex (Ex.trans (Ex.trans e1 e2) (Ex.trans e3 e4))).trans (Only.ins (e4 _ _ hp3))) ⟨dx, a, ?_, ?_⟩⟩
      · rw [upd_same, cast]
        rfl
      · exact (Only.ins (e4 _ _ hp3)).tups _ _ (e4 _ _ (e3 _ _ (e2 _ _ (e1 _ _ ha))))
    · have hh : RetS K p H (.bad st : Res Unit) (fun _ => V.non) Q E := by
        have z : RetS K p H ((Src.scr ws pl).back st) (fun _ => V.non) Q E := h
        rw [Src.back, if_neg nle] at z
        exact z
      exact fun d H' e3 => hh d H' (Ex.trans (Ex.trans e1 e2) e3)
def N_Scripted_copy : List Str := ["self"]
theorem sc_Scripted_copy : FnScope N_Scripted_copy ["self"] (defScope s_Scripted_copy) := ⟨rfl, rfl, rfl, by decide +kernel, rfl, by decide +kernel, by decide +kernel⟩
theorem h_Scripted_copy (T : Tx K mg) : HasM P w K mg base CX0 (ga K "Scripted") "copy" 7 ["self"] (spCopy K "Scripted") :=
  have h_Scripted_init := h_Scripted_init (P := P) (w := w) (base := base) T
  T.hasM 21 4 rfl rfl rfl sc_Scripted_copy (fun vs H Q E h => by obtain ⟨x, S, rfl, _⟩ := h; rfl) rfl (fun | _, _, _, _, _, _, [_], _ => rfl) fun cdv A outer s H vs Q E hr h => by
    obtain ⟨p, S, rfl, hs, hv, hc, h⟩ := h
    obtain ⟨ws, pl, dx, a, rfl, hp, ha⟩ := scr_of hs hc
    refine ⟨_, (pss_one (ps_ret (pe_hi h_Scripted_init (hr.mono (by decide)) (T.glo 26 _ rfl) pass0 (pa_cons (pe_fld (pv 0) rfl) (pa_cons (pe_fld (pv 0) rfl) pa_nil))))), ?_⟩
    exact s_retMake (ea_cons (fld_t T hp (ev_var rfl)) (ea_cons (fld_l T hp (ev_var rfl)) ea_nil)) fun H1 e1 => made (vs := [.ref a, .int (pl : Nat)]) (S := .scr ws pl) (fun H3 e3 => ⟨a, ws, pl, rfl, rfl, e3 _ _ (e1 _ _ ha)⟩) hv rfl (h.back e1)
def N_Scripted_same_state : List Str := ["self", "other"]
theorem sc_Scripted_same_state : FnScope N_Scripted_same_state ["self", "other"] (defScope s_Scripted_same_state) := ⟨rfl, rfl, rfl, by decide +kernel, rfl, by decide +kernel, by decide +kernel⟩
theorem h_Scripted_same_state (T : Tx K mg) : HasM P w K mg base CX0 (ga K "Scripted") "same_state" 1 ["self", "other"] (spSame K "Scripted") :=
  T.hasM 22 5 rfl rfl rfl sc_Scripted_same_state (fun vs H Q E h => by obtain ⟨x, q, S, rfl, _⟩ := h; rfl) rfl (fun | _, _, _, _, _, _, [_, _], _ => rfl) fun cdv A outer s H vs Q E hr h => by
    obtain ⟨p, q, S, rfl, hs, hs', hc, hv, h⟩ := h
    obtain ⟨ws, pl, dx, a, rfl, hp, ha⟩ := scr_of hs hc
    obtain ⟨dy, b, hq, hb⟩ := hs'
    refine ⟨_, (pss_cons (ps_if (pt_not (pt_val (pe_isC T 26 rfl (pv 1)))) (pss_one (ps_ret pe_bl)) pss_nil) (pss_one (ps_ret (pe_and (pe_cmpR (op_eqD hr.units) (pe_fld (pv 0) rfl) (pe_fld (pv 1) rfl) (nomark _)) (pe_one (pe_cmpR op_eq (pe_fld (pv 0) rfl) (pe_fld (pv 1) rfl) (nomark _))))))), ?_⟩
    refine q_when (b := false) (et_is (et_not (et_B (ev_isO (ev_var rfl) (fun H1 e => T.instO 0 72 rfl rfl (e _ _ hq)) (T.kit 89 rfl)))) rfl) (fun q => nomatch q) fun _ H1 e1 => ?_
    refine s_retE (ev_is (ev_and0 (ev_eqD (fld_t T (e1 _ _ hp) (ev_var rfl)) (fld_t T (e1 _ _ hq) (ev_var rfl)) (fun H2 e2 => .tup (SqT.of (e2 _ _ (e1 _ _ ha))) dp_iV) (fun H2 e2 => .tup (SqT.of (e2 _ _ (e1 _ _ hb))) dp_iV) dn_iV (by decide)) (ev_op (fld_l T (e1 _ _ hp) (ev_var rfl)) (fld_l T (e1 _ _ hq) (ev_var rfl)) (rv_eq rfl))) ?_) (ra h e1)
    rw [decide_eq_true rfl]
    rfl
def N_Scripted_at_state : List Str := ["cls", "state"]
theorem sc_Scripted_at_state : FnScope N_Scripted_at_state ["cls", "state"] (defScope s_Scripted_at_state) := ⟨rfl, rfl, rfl, by decide +kernel, rfl, by decide +kernel, by decide +kernel⟩
theorem h_Scripted_at_state (T : Tx K mg) : HasC P w K mg base CX0 (ga K "Scripted") "at_state" 7 (spAt K "Scripted") :=
  have h_need_script_state := h_need_script_state (P := P) (w := w) (base := base) T
  have h_Scripted_init := h_Scripted_init (P := P) (w := w) (base := base) T
  T.hasC 23 59 51 rfl rfl rfl rfl sc_Scripted_at_state (fun vs H Q E h => by obtain ⟨v, S, rfl, _⟩ := h; rfl) rfl (fun | _, _, _, _, _, _, [_, _], _ => rfl) fun cdv A outer s H vs Q E hr h => by
    obtain ⟨v, S, rfl, hst, hv, hc, h⟩ := h
    obtain ⟨ws, pl, rfl⟩ : ∃ ws pl, S = .scr ws pl := by cases S <;> first | exact ⟨_, _, rfl⟩ | cases hc
    obtain ⟨a, b, rfl, ha, hb⟩ := hst
    refine ⟨_, (pss_cons (ps_expr (pe_h h_need_script_state (hr.mono (by decide)) pass0 (pa_cons (pv 1) pa_nil))) (pss_one (ps_ret (pe_hv (i := 0) h_Scripted_init (hr.mono (by decide)) pass0 rfl (Or.inl rfl) (pa_cons (pe_ix ix_tup (pv 1) pe_int (fun _ _ => rfl)) (pa_cons (pe_ix ix_tup (pv 1) pe_int (fun _ _ => rfl)) pa_nil)))))), ?_⟩
    refine q_drop (v := .non) (ev_call (ea_cons (ev_var rfl) ea_nil) (fun H6 e6 Q' k' E' => ⟨a, b, ws, pl, rfl, e6 _ _ ha, e6 _ _ hb, hv.1, hv.2, k'⟩)) fun H1 e1 => ?_
    exact s_retMakeV rfl (ea_cons (ev_ixT (ev_var rfl) (e1 _ _ ha) ev_c rfl) (ea_cons (ev_ixT (ev_var rfl) (e1 _ _ ha) ev_c rfl) ea_nil)) fun H2 e2 => made (vs := [.ref b, .int (pl : Nat)]) (S := .scr ws pl) (fun H3 e3 => ⟨b, ws, pl, rfl, rfl, e3 _ _ (e2 _ _ (e1 _ _ hb))⟩) hv rfl (h.back (Ex.trans e1 e2))
end
end Kx
set_option Elab.async false
set_option linter.all false
set_option maxRecDepth 100000
set_option maxHeartbeats 2000000
namespace Kx
open PySem PySem.Spec PyProof.Rows L2 Evl
open He (ga ma)
/-! ### a call on a source of any kind -/
def fN : List Str := ["s2_x", "s4_key", "s4_position", "s3_state", "s1_script", "s1_place"]
def cls4 : List Str := ["Scripted", "Counter", "Linear", "Twisted"]
theorem Tx.cls4 {K : PySem.W.Frag} {mg : Str → Option Value} (T : Tx K mg) (S : Src) : Cls K (ga K S.cls) := by
  cases S with
  | lin x => exact T.cls 2 _ rfl
  | cnt k q => exact T.cls 1 _ rfl
  | twi r => exact T.cls 3 _ rfl
  | scr ws pl => exact T.cls 0 _ rfl
/-- no source has a field of that name -/
def noF (m : Str) : Bool := !fN.contains m
theorem look_none : ∀ {fs : List (Str × V)} {m : Str}, (∀ q, q ∈ fs → q.1 ≠ m) → fs.lookup m = none
  | [], _, _ => rfl
  | (k, v) :: r, m, h => by
    rw [List.lookup_cons]
    have e : (m == k) = false := by
      cases z : m == k with
      | false => rfl
      | true => exact absurd (eq_of_beq z).symm (h (k, v) (List.mem_cons_self ..))
    rw [e]
    exact look_none fun q hq => h q (List.mem_cons_of_mem _ hq)
theorem SrcAt.noF {K : PySem.W.Frag} {H : Hp} {p : Addr} {S : Src} {m : Str} (h : SrcAt K H p S) (n : noF m = true) : ∃ dx fs, H p = some (.ins (ga K S.cls) dx fs) ∧ fs.lookup m = none := by
  have key : ∀ k, fN.contains k = true → k ≠ m := fun k hk e => by
    unfold Kx.noF at n
    rw [← e, hk] at n
    cases n
  cases S with
  | lin x =>
    obtain ⟨dx, h⟩ := h
    exact ⟨dx, _, h, look_none fun q hq => by rcases List.mem_singleton.mp hq with rfl; exact key "s2_x" (by decide)⟩
  | cnt k q =>
    obtain ⟨dx, h⟩ := h
    exact ⟨dx, _, h, look_none fun q hq => by
      rcases List.mem_cons.mp hq with rfl | hq
      · exact key "s4_key" (by decide)
      · rcases List.mem_singleton.mp hq with rfl
        exact key "s4_position" (by decide)⟩
  | twi r =>
    obtain ⟨dx, a, h, _⟩ := h
    exact ⟨dx, _, h, look_none fun q hq => by rcases List.mem_singleton.mp hq with rfl; exact key "s3_state" (by decide)⟩
  | scr ws pl =>
    obtain ⟨dx, a, h, _⟩ := h
    exact ⟨dx, _, h, look_none fun q hq => by
      rcases List.mem_cons.mp hq with rfl | hq
      · exact key "s1_script" (by decide)
      · rcases List.mem_singleton.mp hq with rfl
        exact key "s1_place" (by decide)⟩
/-- the method m of the class C, in the context X, its raising going to E -/
structure PM (X : Cx) (C : Addr) (m : Str) (k : Nat) (ps : List Str) (sp : Sp) (E : XK) : Prop where
  ex : ∃ CX f fd, FnOk X.prog X.w X.K X.mg X.base CX k f fd ps sp ∧ Meth X.K C m f ∧ Binds X.K fd ps [] ∧ Passes CX X E
theorem HasM.pm0 {X : Cx} {C : Addr} {m : Str} {j k : Nat} {ps : List Str} {sp : Sp} {E : XK} (h : HasM X.prog X.w X.K X.mg X.base CX0 C m j ps sp) (le : j ≤ k) : PM X C m k ps sp E := by
  obtain ⟨f, fd, F, M, B⟩ := h.ex
  exact ⟨CX0, f, fd, F.mono le, M, B, fun _ _ _ _ _ _ _ z => z.elim⟩
theorem HasM.pmX {X : Cx} {C : Addr} {m : Str} {j k : Nat} {ps : List Str} {sp : Sp} {E : XK} (h : HasM X.prog X.w X.K X.mg X.base (L2.CX X.prog X.w) C m j ps sp) (le : j ≤ k) (hx : Passes (L2.CX X.prog X.w) X E) : PM X C m k ps sp E := by
  obtain ⟨f, fd, F, M, B⟩ := h.ex
  exact ⟨_, f, fd, F.mono le, M, B, hx⟩
def tPoly (K : PySem.W.Frag) (sp : Str → Sp) (E : XK) (te : TE) (ta : TA) : TE := fun σ H Q => te σ H fun x H1 => ∃ p S, x = .ref p ∧ SrcAt K H1 p S ∧ ta σ H1 fun vs H2 => sp S.cls (.ref p :: vs) H2 Q E
section
variable {X : Cx} {m : Str} {k : Nat} {ps : List Str} {sp : Str → Sp} {E : XK} {te : TE} {ta : TA} {o e : Expr} {es : List Expr} {pos apos : Pos} {pl : Sem Bool}
theorem pe_poly0 (T : Tx X.K X.mg) (h : ∀ S : Src, PM X (ga X.K S.cls) m k ps (sp S.cls) E) (hr : Room k X.A) (he : PE X o te) (hn : noF m = true := by decide)
    (ht : eval (.Call (.Attribute o m apos) [] [] pos) X.env = (do
      let ov ← eval o X.env
      standAt apos.atName
      let (f, first) ← holding [ov] (getMethod ov m pl)
      callWith pos f first (backTo pos (starEach [] X.env)) (backToKw pos (keywordEach [] X.env))) := by rfl) :
    PE X (.Call (.Attribute o m apos) [] [] pos) (tPoly X.K sp E te tNil) := by
  refine ⟨fun pins s σ H Q I q => PySem.W.methodCall_KW (pl := pl) (thn (he.run pins s σ H _ I q) fun u s1 z => ?_) ht⟩
  obtain ⟨x, H1, I1, rx, p, S, rfl, hs, q1⟩ := z
  cases rx
  obtain ⟨CX, f, fd, F, M, B, hx⟩ := (h S).ex
  obtain ⟨dx, fs, hp, l⟩ := hs.noF hn
  exact getmeth_ok I1 hp (T.cls4 S) M l (PySem.W.callWith_K0 (first := [.ref p]) I1.kIn M.kp (run_fn (us := [.ref p]) (vs := [.ref p]) F hr B .nil hx I1 (.cons rfl .nil) q1))
theorem pe_poly1 (T : Tx X.K X.mg) (h : ∀ S : Src, PM X (ga X.K S.cls) m k ps (sp S.cls) E) (hr : Room k X.A) (he : PE X o te) (ha : PA X (e :: es) ta) (hn : noF m = true := by decide)
    (hst : starEach (e :: es) X.env = (false, eval e X.env) :: starEach es X.env := by rfl) (hpl : (backTo pos (starEach es X.env)).any (·.1) = false := by rfl)
    (ht : eval (.Call (.Attribute o m apos) (e :: es) [] pos) X.env = (do
      let ov ← eval o X.env
      standAt apos.atName
      let (f, first) ← holding [ov] (getMethod ov m pl)
      callWith pos f first (backTo pos (starEach (e :: es) X.env)) (backToKw pos (keywordEach [] X.env))) := by rfl) :
    PE X (.Call (.Attribute o m apos) (e :: es) [] pos) (tPoly X.K sp E te ta) := by
  refine ⟨fun pins s σ H Q I q => PySem.W.methodCall_KW (pl := pl) (thn (he.run pins s σ H _ I q) fun u s1 z => ?_) ht⟩
  obtain ⟨x, H1, I1, rx, p, S, rfl, hs, q1⟩ := z
  cases rx
  obtain ⟨CX, f, fd, F, M, B, hx⟩ := (h S).ex
  obtain ⟨dx, fs, hp, l⟩ := hs.noF hn
  refine getmeth_ok I1 hp (T.cls4 S) M l (PySem.W.callWith_K (first := [.ref p]) (h₀ := X.base) I.ok.mod.kin M.kp (thn (ha.run pos pins s1 σ H1 _ I1 q1) fun us s2 z2 => ?_) hst hpl)
  obtain ⟨vs, H2, I2, r, q2⟩ := z2
  refine ⟨I2.kIn, run_fn (us := .ref p :: us) (vs := .ref p :: vs) F hr B .nil hx I2 (.cons rfl r) ?_⟩
  rw [List.append_nil]
  exact q2
/-- a property -/
structure PP (X : Cx) (C : Addr) (f : Str) (k : Nat) (sp : Sp) : Prop where
  ex : ∃ p g fd, PropOf X.K C f p g ∧ FnOk X.prog X.w X.K X.mg X.base CX0 k g fd ["self"] sp ∧ Binds X.K fd ["self"] []
theorem HasP.pp {C : Addr} {f : Str} {j : Nat} {sp : Sp} (h : HasP X.prog X.w X.K X.mg X.base CX0 C f j sp) (le : j ≤ k) : PP X C f k sp := by
  obtain ⟨p, g, fd, h1, F, B⟩ := h.ex
  exact ⟨p, g, fd, h1, F.mono le, B⟩
theorem pe_polyP {f : Str} (T : Tx X.K X.mg) (h : ∀ S : Src, PP X (ga X.K S.cls) f k (sp S.cls)) (hr : Room (k + 1) X.A) (he : PE X o te) (hab : attributeBase o f X.env (eval o X.env) = eval o X.env := by rfl) : PE X (.Attribute o f pos) (tPoly X.K sp E0 te tNil) := by
  refine ⟨fun pins s σ H Q I q => attr_of hab (thn (he.run pins s σ H _ I q) fun u s1 z => ?_)⟩
  obtain ⟨x, H1, I1, rx, p, S, rfl, hs, q1⟩ := z
  cases rx
  obtain ⟨p', g, fd, hP, F, B⟩ := (h S).ex
  obtain ⟨dx, fs, hp⟩ := hs.ins
  exact getprop_ok I1 hp (T.cls4 S) hP F hr B .nil (fun _ _ _ _ _ _ _ z => z.elim) q1
end
end Kx
set_option Elab.async false
set_option linter.all false
set_option maxRecDepth 100000
set_option maxHeartbeats 2000000
namespace Kx
open PySem PySem.Spec PyProof.Rows L2 Evl
open He (ga ma)
/-! ### tapes and recordings -/
inductive It where
  | word (i : Int)
  | move (n : Str) (s : Int)
def ItAt (H : Hp) (v : V) : It → Prop
  | .word i => v = .int i
  | .move n s => ∃ a, v = .ref a ∧ H a = some (.tup [.str n, .int s])
def It.Ok : It → Prop
  | .word i => isWord i = true
  | .move n s => (n = "jump" ∨ n = "back") ∧ okSteps s
theorem ItAt.keep {H H' : Hp} {v : V} {t : It} {L : List Addr} (h : ItAt H v t) (o : Only L H H') : ItAt H' v t := by
  cases t with
  | word i => exact h
  | move n s => obtain ⟨a, h1, h2⟩ := h; exact ⟨a, h1, o.tups _ _ h2⟩
abbrev Its (H : Hp) (ts : List It) (vs : List V) : Prop := Paired (fun t v => ItAt H v t) ts vs
theorem Its.keep {H H' : Hp} {L : List Addr} {ts : List It} {vs : List V} (h : Its H ts vs) (o : Only L H H') : Its H' ts vs := L2.Paired.mapP h fun _ _ z => z.keep o
theorem Its.len {H : Hp} : ∀ {ts : List It} {vs : List V}, Its H ts vs → ts.length = vs.length
  | _, _, .nil => rfl
  | _, _, .cons _ t => congrArg (· + 1) (Its.len t)
theorem Its.add {H : Hp} {t : It} {v : V} (k : ItAt H v t) : ∀ {ts : List It} {vs : List V}, Its H ts vs → Its H (ts ++ [t]) (vs ++ [v])
  | _, _, .nil => .cons k .nil
  | _, _, .cons a r => .cons a (Its.add k r)
theorem Its.mem {H : Hp} {x : V} : ∀ {ts : List It} {vs : List V}, Its H ts vs → x ∈ vs → ∃ t, t ∈ ts ∧ ItAt H x t
  | _, _, .nil, m => by cases m
  | _, _, .cons a r, m => by
    rcases List.mem_cons.mp m with rfl | m
    · exact ⟨_, List.mem_cons_self .., a⟩
    · obtain ⟨t, h1, h2⟩ := Its.mem r m
      exact ⟨t, List.mem_cons_of_mem _ h1, h2⟩
def OkIts (ts : List It) : Prop := ts.length ≤ 1000 ∧ ∀ t, t ∈ ts → t.Ok
/-- the recording at r, of the source at i, its list at l -/
def RecAt (K : PySem.W.Frag) (H : Hp) (r i l : Addr) (ts : List It) : Prop := ∃ dx vs, H r = some (.ins (ga K "Recording") dx [("s7_inner", .ref i), ("s7_items", .ref l)]) ∧ H l = some (.lst vs) ∧ Its H ts vs
section
variable {K : PySem.W.Frag} {H H' : Hp} {r i l p : Addr} {ts : List It} {S : Src} {L : List Addr}
theorem RecAt.keep (h : RecAt K H r i l ts) (o : Only L H H') (n1 : r ∉ L) (n2 : l ∉ L) : RecAt K H' r i l ts := by
  obtain ⟨dx, vs, h1, h2, h3⟩ := h
  exact ⟨dx, vs, o.keep _ _ h1 n1, o.keep _ _ h2 n2, h3.keep o⟩
theorem RecAt.ex (h : RecAt K H r i l ts) (e : Ex H H') : RecAt K H' r i l ts := h.keep (Only.ex (L := []) e) (by simp) (by simp)
theorem rec_ne_src (h : RecAt K H r i l ts) (s : SrcAt K H p S) : p ≠ r := by
  obtain ⟨dx, vs, h1, _⟩ := h
  intro e
  subst e
  obtain ⟨dy, fs, s, l⟩ := s.noF (m := "s7_inner") (by decide)
  have e := Option.some.inj (h1.symm.trans s)
  injection e with _ _ e3
  rw [← e3] at l
  have z : some (V.ref i) = none := l
  cases z
theorem lst_ne_src {vs : List V} (h : H l = some (.lst vs)) (s : SrcAt K H p S) : p ≠ l := by
  obtain ⟨dx, fs, s⟩ := s.ins
  intro e
  rw [e, h] at s
  cases s
theorem rec_ne_lst (h : RecAt K H r i l ts) : r ≠ l := by
  obtain ⟨dx, vs, h1, h2, _⟩ := h
  intro e
  rw [e, h2] at h1
  cases h1
end
/-! ### facts of the classes of sources -/
section
variable {K : PySem.W.Frag} {mg : Str → Option Value} {H : Hp} {p : Addr} {S : Src}
theorem Tx.srcTy (T : Tx K mg) (s : SrcAt K H p S) : TyX K H (.ref p) (.ref (ga K S.cls)) := by
  obtain ⟨dx, fs, h⟩ := s.ins
  cases S with
  | lin x => exact T.instO 2 74 rfl rfl h
  | cnt k q => exact T.instO 1 73 rfl rfl h
  | twi r => exact T.instO 3 75 rfl rfl h
  | scr ws pl => exact T.instO 0 72 rfl rfl h
theorem Tx.kitS (T : Tx K mg) (S : Src) : PySem.W.kitOne K (.ref (ga K S.cls)) (.ref (ga K "Source")) = some true := by
  cases S with
  | lin x => exact T.kit 65 rfl
  | cnt k q => exact T.kit 64 rfl
  | twi r => exact T.kit 66 rfl
  | scr ws pl => exact T.kit 63 rfl
theorem Tx.kitR (T : Tx K mg) (S : Src) : PySem.W.kitOne K (.ref (ga K S.cls)) (.ref (ga K "Recording")) = some false := by
  cases S with
  | lin x => exact T.kit 70 rfl
  | cnt k q => exact T.kit 69 rfl
  | twi r => exact T.kit 71 rfl
  | scr ws pl => exact T.kit 68 rfl
theorem Tx.conS (T : Tx K mg) (S : Src) : ∃ u, Con K (ga K S.cls) "KIND" (.str S.kind) u := by
  cases S with
  | lin x => exact T.con 48 rfl
  | cnt k q => exact T.con 47 rfl
  | twi r => exact T.con 49 rfl
  | scr ws pl => exact T.con 46 rfl
theorem ev_kind (T : Tx K mg) {σ : L2.St} {te : TE} (h : Ev te σ H (.ref p)) (s : SrcAt K H p S) : Ev (tCon K te "KIND") σ H (.str S.kind) := by
  obtain ⟨dx, fs, hp, l⟩ := s.noF (m := "KIND") (by decide)
  exact ev_con h hp (T.cls4 S) (T.conS S) l
end
/-! ### the methods of the sources, all kinds -/
section
variable {X : Cx} {E : XK}
theorem pm_next (T : Tx X.K X.mg) (hx : Passes (L2.CX X.prog X.w) X E) (S : Src) : PM X (ga X.K S.cls) "next_word" 5 ["self"] (spNext X.K S.cls) E := by
  cases S with
  | lin x => exact (h_Linear_next_word T).pm0 (by decide)
  | cnt k q => exact (h_Counter_next_word T).pm0 (by decide)
  | twi r => exact (h_Twisted_next_word T).pm0 (by decide)
  | scr ws pl => exact (h_Scripted_next_word T).pmX (by decide) hx
theorem pm_jump (T : Tx X.K X.mg) (hx : Passes (L2.CX X.prog X.w) X E) (S : Src) : PM X (ga X.K S.cls) "jump" 7 ["self", "steps"] (spJump X.K S.cls) E := by
  cases S with
  | lin x => exact (h_Linear_jump T).pm0 (by decide)
  | cnt k q => exact (h_Counter_jump T).pm0 (by decide)
  | twi r => exact (h_Twisted_jump T).pm0 (by decide)
  | scr ws pl => exact (h_Scripted_jump T).pmX (by decide) hx
theorem pm_back (T : Tx X.K X.mg) (hx : Passes (L2.CX X.prog X.w) X E) (S : Src) : PM X (ga X.K S.cls) "back" 7 ["self", "steps"] (spBack X.K S.cls) E := by
  cases S with
  | lin x => exact (h_Linear_back T).pm0 (by decide)
  | cnt k q => exact (h_Counter_back T).pm0 (by decide)
  | twi r => exact (h_Twisted_back T).pm0 (by decide)
  | scr ws pl => exact (h_Scripted_back T).pmX (by decide) hx
theorem pm_copy (T : Tx X.K X.mg) (S : Src) : PM X (ga X.K S.cls) "copy" 7 ["self"] (spCopy X.K S.cls) E := by
  cases S with
  | lin x => exact (h_Linear_copy T).pm0 (by decide)
  | cnt k q => exact (h_Counter_copy T).pm0 (by decide)
  | twi r => exact (h_Twisted_copy T).pm0 (by decide)
  | scr ws pl => exact (h_Scripted_copy T).pm0 (by decide)
theorem pm_set (T : Tx X.K X.mg) (S : Src) : PM X (ga X.K S.cls) "set_state" 5 ["self", "state"] (spSet X.K S.cls) E := by
  cases S with
  | lin x => exact (h_Linear_set_state T).pm0 (by decide)
  | cnt k q => exact (h_Counter_set_state T).pm0 (by decide)
  | twi r => exact (h_Twisted_set_state T).pm0 (by decide)
  | scr ws pl => exact (h_Scripted_set_state T).pm0 (by decide)
theorem pm_same (T : Tx X.K X.mg) (S : Src) : PM X (ga X.K S.cls) "same_state" 1 ["self", "other"] (spSame X.K S.cls) E := by
  cases S with
  | lin x => exact (h_Linear_same_state T).pm0 (by decide)
  | cnt k q => exact (h_Counter_same_state T).pm0 (by decide)
  | twi r => exact (h_Twisted_same_state T).pm0 (by decide)
  | scr ws pl => exact (h_Scripted_same_state T).pm0 (by decide)
theorem pp_state (T : Tx X.K X.mg) (S : Src) : PP X (ga X.K S.cls) "state" 2 (spState X.K S.cls) := by
  cases S with
  | lin x => exact (h_Linear_state T).pp (by decide)
  | cnt k q => exact (h_Counter_state T).pp (by decide)
  | twi r => exact (h_Twisted_state T).pp (by decide)
  | scr ws pl => exact (h_Scripted_state T).pp (by decide)
end
/-! ### their readings -/
section
variable {K : PySem.W.Frag} {σ : L2.St} {H : Hp} {te tb : TE} {p q : Addr} {S : Src} {Q : VK} {E : XK} {s : Int}
theorem rd_next (h : Ev te σ H (.ref p)) (hs : SrcAt K H p S) (hv : S.Valid) (k : RetS K p H S.next V.int Q E) : tPoly K (spNext K) E te tNil σ H Q :=
  h H (Ex.refl _) _ fun H1 e1 => ⟨p, S, rfl, hs.ex e1, p, S, rfl, hs.ex e1, hv, rfl, k.back e1⟩
theorem rd_jump (h : Ev te σ H (.ref p)) (hb : Ev tb σ H (.int s)) (hs : SrcAt K H p S) (hv : S.Valid) (hl : LawSteps s) (k : RetS K p H (S.jump s) (fun _ => V.non) Q E) : tPoly K (spJump K) E te (tCons tb tNil) σ H Q :=
  h H (Ex.refl _) _ fun H1 e1 => ⟨p, S, rfl, hs.ex e1, hb H1 e1 _ fun H2 e2 => ⟨p, S, s, rfl, hs.ex (e1.trans e2), hv, rfl, hl, k.back (e1.trans e2)⟩⟩
theorem rd_back (h : Ev te σ H (.ref p)) (hb : Ev tb σ H (.int s)) (hs : SrcAt K H p S) (hv : S.Valid) (hl : LawSteps s) (k : RetS K p H (S.back s) (fun _ => V.non) Q E) : tPoly K (spBack K) E te (tCons tb tNil) σ H Q :=
  h H (Ex.refl _) _ fun H1 e1 => ⟨p, S, rfl, hs.ex e1, hb H1 e1 _ fun H2 e2 => ⟨p, S, s, rfl, hs.ex (e1.trans e2), hv, rfl, hl, k.back (e1.trans e2)⟩⟩
theorem rd_copy (h : Ev te σ H (.ref p)) (hs : SrcAt K H p S) (hv : S.Valid) (k : RetN K S H Q) : tPoly K (spCopy K) E te tNil σ H Q :=
  h H (Ex.refl _) _ fun H1 e1 => ⟨p, S, rfl, hs.ex e1, p, S, rfl, hs.ex e1, hv, rfl, k.back e1⟩
theorem rd_set {v : V} {S0 : Src} (h : Ev te σ H (.ref p)) (hb : Ev tb σ H v) (hs : SrcAt K H p S0) (hst : StAt H v S) (hv : S.Valid) (hc : S.cls = S0.cls) (k : RetP K p S H Q) : tPoly K (spSet K) E te (tCons tb tNil) σ H Q :=
  h H (Ex.refl _) _ fun H1 e1 => ⟨p, S0, rfl, hs.ex e1, hb H1 e1 _ fun H2 e2 => ⟨p, v, S0, S, rfl, hs.ex (e1.trans e2), rfl, hst.ex (e1.trans e2), hv, hc, k.back (e1.trans e2)⟩⟩
theorem ev_same (h : Ev te σ H (.ref p)) (hb : Ev tb σ H (.ref q)) (hs : SrcAt K H p S) (hq : SrcAt K H q S) (hv : S.Valid) : Ev (tPoly K (spSame K) E te (tCons tb tNil)) σ H (.bl true) :=
  fun H0 e Q' k => h H0 e _ fun H1 e1 => ⟨p, S, rfl, hs.ex (e.trans e1), hb H1 (e.trans e1) _ fun H2 e2 => ⟨p, q, S, rfl, hs.ex ((e.trans e1).trans e2), hq.ex ((e.trans e1).trans e2), rfl, hv, fun H3 e3 => k H3 ((e1.trans e2).trans e3)⟩⟩
/-- the state: some value that tells it -/
def EvSt (te : TE) (σ : L2.St) (H : Hp) (S : Src) : Prop := ∀ H1, Ex H H1 → ∀ Q : VK, (∀ v H2, Ex H1 H2 → StAt H2 v S → Q v H2) → te σ H1 Q
theorem ev_state (h : Ev te σ H (.ref p)) (hs : SrcAt K H p S) (hv : S.Valid) : EvSt (tPoly K (spState K) E0 te tNil) σ H S :=
  fun H0 e Q' k => h H0 e _ fun H1 e1 => ⟨p, S, rfl, hs.ex (e.trans e1), p, S, rfl, hs.ex (e.trans e1), hv, rfl, fun v H2 e2 st => k v H2 (e1.trans e2) st⟩
end
end Kx
set_option Elab.async false
set_option linter.all false
set_option maxRecDepth 100000
set_option maxHeartbeats 2000000
namespace Kx
open PySem PySem.Spec PyProof.Rows L2 Evl
open He (ga ma)
section
variable {P : Program} {w : World} {K : PySem.W.Frag} {mg : Str → Option Value} {base : Heap}
def N_need_source : List Str := ["source"]
theorem sc_need_source : FnScope N_need_source ["source"] (defScope s_need_source) := ⟨rfl, rfl, rfl, by decide +kernel, rfl, by decide +kernel, by decide +kernel⟩
def sp_need_source (K : PySem.W.Frag) : Sp := fun vs H Q _ => ∃ p S, vs = [.ref p] ∧ SrcAt K H p S ∧ RetV .non H Q
theorem kind_some (S : Src) : decide (V.str S.kind = V.str "none") = false := by
  cases S with
  | lin x => exact (by decide : decide (V.str "linear" = V.str "none") = false)
  | cnt k q => exact (by decide : decide (V.str "counter" = V.str "none") = false)
  | twi r => exact (by decide : decide (V.str "twisted" = V.str "none") = false)
  | scr ws pl => exact (by decide : decide (V.str "script" = V.str "none") = false)
theorem h_need_source (T : Tx K mg) : Has P w K mg base CX0 "need_source" 1 ["source"] (sp_need_source K) :=
  T.has 9 21 rfl rfl rfl sc_need_source (fun vs H Q E h => by obtain ⟨p, S, rfl, _⟩ := h; rfl) rfl (fun | _, _, _, _, _, _, [_], _ => rfl) fun cdv A outer s H vs Q E hr h => by
    obtain ⟨p, S, rfl, hs, h⟩ := h
    refine ⟨_, (pss_one (ps_if (PW.pt (pw_or (pt_not (pt_val (pe_isC T 20 rfl (pv 0)))) (pw_or1 (pt_cmpR op_eq (pe_con (pv 0) rfl) pe_str (nomark _))))) (pss_one ps_never) pss_nil)), ?_⟩
    refine s_when (b := false) ?_ (fun q => nomatch q) (fun _ H1 e1 => h _ e1)
    refine et_is (et_or0 (et_not (et_B (ev_isO (ev_var rfl) (fun H1 e => T.srcTy (hs.ex e)) (T.kitS S)))) (et_test (ev_op (ev_kind T (ev_var rfl) hs) ev_c (rv_eq rfl)))) ?_
    rw [kind_some]
    rfl
def N_s7_is_item : List Str := ["item"]
theorem sc_s7_is_item : FnScope N_s7_is_item ["item"] (defScope s_s7_is_item) := ⟨rfl, rfl, rfl, by decide +kernel, rfl, by decide +kernel, by decide +kernel⟩
def sp_s7_is_item : Sp := fun vs H Q _ => ∃ v t, vs = [v] ∧ ItAt H v t ∧ t.Ok ∧ RetV (.bl true) H Q
theorem h_s7_is_item (T : Tx K mg) : Has P w K mg base CX0 "s7_is_item" 3 ["item"] sp_s7_is_item :=
  have h_is_word := h_is_word (P := P) (w := w) (base := base) T
  T.has 24 27 rfl rfl rfl sc_s7_is_item (fun vs H Q E h => by obtain ⟨p, S, rfl, _⟩ := h; rfl) rfl (fun | _, _, _, _, _, _, [_], _ => rfl) fun cdv A outer s H vs Q E hr h => by
    obtain ⟨v, t, rfl, ht, ok, h⟩ := h
    refine ⟨_, (pss_cons (ps_if (pt_not (pt_val (pe_isB T 4 rfl boot_tupleT (pv 0)))) (pss_one (ps_ret (pe_h h_is_word (hr.mono (by decide)) pass0 (pa_cons (pv 0) pa_nil)))) pss_nil) (pss_cons (ps_if (PW.pt (pw_or (pt_cmpR op_ne (pe_callB call_len (by rfl) (T.fre 1 _ rfl) PySem.boot_len (pa_cons (pv 0) pa_nil)) pe_int (nomark _)) (pw_or (pt_not (pt_val (pe_isB T 11 rfl boot_strT (pe_ix ix_tup (pv 0) pe_int (fun _ _ => rfl))))) (pw_or1 (pt_cmpR op_notIn_seq (pe_ix ix_tup (pv 0) pe_int (fun _ _ => rfl)) (pe_tup (pa_cons pe_str (pa_cons pe_str pa_nil))) rfl))))) (pss_one (ps_ret pe_bl)) pss_nil) (pss_one (ps_ret (pe_and (pe_isB T 9 rfl boot_intT (pe_ix ix_tup (pv 0) pe_int (fun _ _ => rfl))) (pe_and (pe_not (pe_isB T 10 rfl boot_boolT (pe_ix ix_tup (pv 0) pe_int (fun _ _ => rfl)))) (pe_one (pe_rngE (lo := 0) (hi := 18446744073709551616) pe_int (pe_ix ix_tup (pv 0) pe_int (fun _ _ => rfl)) (pe_num T 2 rfl))))))))), ?_⟩
    cases t with
    | word i =>
      obtain rfl : v = .int i := ht
      refine q_when (b := true) (et_is (et_not (et_B (ev_isBit (ev_var rfl)))) rfl) (fun _ H1 e1 => ?_) (fun q => nomatch q)
      exact s_retE (ev_is (ev_call (ea_cons (ev_var rfl) ea_nil) (spv1 trivial)) (by rw [show isWord i = true from ok])) (ra h e1)
    | move n st =>
      obtain ⟨a, rfl, ha⟩ := ht
      obtain ⟨hn, s0, s1⟩ := ok
      refine q_when (b := false) (et_is (et_not (et_B (ev_isBtt (ev_var rfl) ha))) rfl) (fun q => nomatch q) (fun _ H1 e1 => ?_)
      have ha1 := e1 _ _ ha
      refine q_when (b := false) ?_ (fun q => nomatch q) (fun _ H2 e2 => ?_)
      · refine et_is (a := !decide (V.int 2 = V.int 2) || (!true || !inV (.str n) [.str "jump", .str "back"])) ?_ (by rcases hn with rfl | rfl <;> decide)
        refine et_or0 (et_test (ev_op (ev_lenT (ev_var rfl) ha1) ev_c (rv_ne rfl))) (et_or0 (et_not (et_B (ev_isBss (ev_ixT (ev_var rfl) ha1 ev_c rfl)))) (et_test (ev_niU (ev_ixT (ev_var rfl) ha1 ev_c rfl) (eu_tup (ea_cons ev_c (ea_cons ev_c ea_nil)) (by decide)) rfl rfl)))
      · have ha2 := e2 _ _ ha1
        refine s_retE (ev_is (ev_and0 (ev_isBii (ev_ixT (ev_var rfl) ha2 ev_c rfl)) (ev_and0 (ev_notV (ev_isBib (ev_ixT (ev_var rfl) ha2 ev_c rfl))) (ev_rng (ev_ixT (ev_var rfl) ha2 ev_c rfl)))) ?_) (ra (ra h e1) e2)
        rw [decide_eq_true s0, decide_eq_true s1]
        rfl
def N_is_tape : List Str := ["value", "item"]
theorem sc_is_tape : FnScope N_is_tape ["value"] (defScope s_is_tape) := ⟨rfl, rfl, rfl, by decide +kernel, rfl, by decide +kernel, by decide +kernel⟩
def sp_is_tape (v : V) : Sp := fun vs H Q _ => ∃ a us ts, vs = [.ref a] ∧ H a = some (.tup us) ∧ Its H ts us ∧ OkIts ts ∧ RetV v H Q
theorem all_tt {α : Type} (xs : List α) : xs.all (fun _ => true) = true := List.all_eq_true.mpr fun _ _ => rfl
theorem h_is_tape (T : Tx K mg) : Has P w K mg base CX0 "is_tape" 4 ["value"] (sp_is_tape (.bl true)) :=
  have h_s7_is_item := h_s7_is_item (P := P) (w := w) (base := base) T
  T.has 25 28 rfl rfl rfl sc_is_tape (fun vs H Q E h => by obtain ⟨a, us, ts, rfl, _⟩ := h; rfl) rfl (fun | _, _, _, _, _, _, [_], _ => rfl) fun cdv A outer s H vs Q E hr h => by
    obtain ⟨a, us, ts, rfl, ha, hi, ⟨l, ok⟩, h⟩ := h
    refine ⟨_, (pss_one (ps_ret (pe_and (pe_isB T 4 rfl boot_tupleT (pv 0)) (pe_and (pe_cmpR op_le (pe_callB call_len (by rfl) (T.fre 1 _ rfl) PySem.boot_len (pa_cons (pv 0) pa_nil)) (pe_num T 5 rfl) (nomark _)) (pe_one (pe_callB (cr_all rfl) (by rfl) (T.fre 2 _ rfl) boot_allB (pa_cons (pe_lc (own := [("item", 1)]) (g := gName 1) (tt := tYes) rfl sc_is_tape.nd (pi_tup (pv 0)) (blkOk_by (own := [("item", 1)]) (N := N_is_tape) (sc := defScope s_is_tape) (by decide +kernel)) (fun _ _ _ _ _ => pg_name (i := 1) sc_is_tape.nd rfl (Or.inl rfl)) (fun _ _ _ _ _ => pts_nil) (fun _ _ _ _ _ => (pe_h h_s7_is_item (hr.mono (by decide)) pass0 (pa_cons (pv 1) pa_nil)))) pa_nil))))))), ?_⟩
    have hl := hi.len
    refine s_retE (ev_is (v := .bl (true && (decide ((us.length : Int) ≤ 10000) && us.all (fun _ => true)))) ?_ (by rw [all_tt, decide_eq_true (by omega)]; rfl)) h
    refine ev_and0 (ev_isBtt (ev_var rfl) ha) (ev_and0 (ev_op (ev_lenT (ev_var rfl) ha) ev_c rv_I0) (ev_allT _ (ev_var rfl) ha (by omega) (fun x => rfl) (fun x m H1 e => ?_)))
    obtain ⟨t, m1, m2⟩ := hi.mem m
    exact ev_call (ea_cons (ev_var rfl) ea_nil) (fun H6 e6 Q' k' E' => ⟨x, t, rfl, m2.keep (L := []) (Only.ex (Ex.trans e e6)), ok t m1, k'⟩)
def N_need_tape : List Str := ["tape"]
theorem sc_need_tape : FnScope N_need_tape ["tape"] (defScope s_need_tape) := ⟨rfl, rfl, rfl, by decide +kernel, rfl, by decide +kernel, by decide +kernel⟩
theorem h_need_tape (T : Tx K mg) : Has P w K mg base CX0 "need_tape" 5 ["tape"] (sp_is_tape .non) :=
  have h_is_tape := h_is_tape (P := P) (w := w) (base := base) T
  T.has 26 29 rfl rfl rfl sc_need_tape (fun vs H Q E h => by obtain ⟨a, us, ts, rfl, _⟩ := h; rfl) rfl (fun | _, _, _, _, _, _, [_], _ => rfl) fun cdv A outer s H vs Q E hr h => by
    obtain ⟨a, us, ts, rfl, ha, hi, ok, h⟩ := h
    refine ⟨_, (pss_one (ps_if (pt_not (pt_val (pe_h h_is_tape (hr.mono (by decide)) pass0 (pa_cons (pv 0) pa_nil)))) (pss_one ps_never) pss_nil)), ?_⟩
    refine s_when (b := false) (et_is (et_not (et_B (ev_call (ea_cons (ev_var rfl) ea_nil) (fun H6 e6 Q' k' E' => ⟨a, us, ts, rfl, e6 _ _ ha, hi.keep (L := []) (Only.ex e6), ok, k'⟩)))) rfl) (fun q => nomatch q) (fun _ H1 e1 => h _ e1)
/-! ### Recording -/
theorem fld_i (T : Tx K mg) {H : Hp} {p dx : Addr} {u v : V} {σ : L2.St} {te : TE} (hp : H p = some (.ins (ga K "Recording") dx [("s7_inner", u), ("s7_items", v)])) (h : Ev te σ H (.ref p)) : Ev (tFld K te "s7_inner") σ H u :=
  ev_fld h hp (T.cls 4 _ rfl) (T.noat 6 _ rfl) rfl
theorem fld_m (T : Tx K mg) {H : Hp} {p dx : Addr} {u v : V} {σ : L2.St} {te : TE} (hp : H p = some (.ins (ga K "Recording") dx [("s7_inner", u), ("s7_items", v)])) (h : Ev te σ H (.ref p)) : Ev (tFld K te "s7_items") σ H v :=
  ev_fld h hp (T.cls 4 _ rfl) (T.noat 7 _ rfl) rfl
def N_Recording_init : List Str := ["self", "source"]
theorem sc_Recording_init : FnScope N_Recording_init ["self", "source"] (defScope s_Recording_init) := ⟨rfl, rfl, rfl, by decide +kernel, rfl, by decide +kernel, by decide +kernel⟩
def sp_rinit (K : PySem.W.Frag) : Sp := fun vs H Q _ => ∃ x dx p S, vs = [.ref x, .ref p] ∧ H x = some (.ins (ga K "Recording") dx []) ∧ SrcAt K H p S ∧ ∀ l H', H l = none → Only [x] H H' → RecAt K H' x p l [] → Q .non H'
theorem s_asgFL {K : PySem.W.Frag} {te tb tc td : TE} {σ : L2.St} {H : Hp} {D : Ends} {v : V} {xs : List V} {a C dx : Addr} {fs : List (Str × V)} {f g : Str} (h1 : Ev tc σ H v) (h2 : EvL td σ H xs) (ha : ∀ H', Ev te σ H' (.ref a)) (hb : ∀ H', Ev tb σ H' (.ref a)) (k : H a = some (.ins C dx fs)) (c : Cls K C) (n1 : NoAttr K C f) (n2 : NoAttr K C g) (l : fs.length < 999)
    (q : ∀ b H1, H b = none → Only [a] H H1 → H1 b = some (.lst xs) → H1 a = some (.ins C dx (putF g (.ref b) (putF f v fs))) → D.nx σ H1) : tAsg (tTup (tCons tc (tCons td tNil))) (gTup K 2 (gCons (gFld K te f) (gCons (gFld K tb g) gNil))) D σ H := by
  refine h1 H (Ex.refl _) _ fun H1 e1 => h2 H1 e1 _ fun b H2 hb0 e2 hb2 => ⟨sz_of (Nat.le_of_ble_eq_true rfl), fun t ht => ?_⟩
  have e3 : Ex H2 (upd H2 t (.tup [v, .ref b])) := Ex.new ht
  have ba : b ≠ a := fun z => by rw [z, e1 _ _ k] at hb0; cases hb0
  refine ⟨t, [v, .ref b], rfl, SqT.of upd_same, rfl, v, [.ref b], rfl, ha _ _ (Ex.refl _) _ fun H3 e4 => ?_⟩
  have e03 : Ex H H3 := ((e1.trans e2).trans e3).trans e4
  refine ⟨a, C, dx, fs, rfl, e03 _ _ k, c, n1, by omega, .ref b, [], rfl, hb _ _ (Ex.refl _) _ fun H5 e5 => ?_⟩
  refine ⟨a, C, dx, _, rfl, e5 _ _ upd_same, c, n2, by have := length_putF f v fs; omega, rfl, ?_⟩
  refine q b _ (fresh_back e1 hb0) (((Only.ex e03).trans (Only.ins (e03 _ _ k))).trans ((Only.ex e5).trans (Only.ins (e5 _ _ upd_same)))) ?_ upd_same
  rw [upd_ne ba]
  refine e5 _ _ ?_
  rw [upd_ne ba]
  exact e4 _ _ (e3 _ _ hb2)
theorem h_Recording_init (T : Tx K mg) : HasI P w K mg base CX0 (ga K "Recording") 2 ["self", "source"] (sp_rinit K) :=
  have h_need_source := h_need_source (P := P) (w := w) (base := base) T
  T.hasI 27 37 rfl rfl rfl sc_Recording_init (fun vs H Q E h => by obtain ⟨x, dx, p, S, rfl, _⟩ := h; rfl) rfl (fun | _, _, _, _, _, _, [_, _], _ => rfl) fun cdv A outer s H vs Q E hr h => by
    obtain ⟨x, dx, p, S, rfl, hx, hs, h⟩ := h
    refine ⟨_, (pss_cons (ps_expr (pe_h h_need_source (hr.mono (by decide)) pass0 (pa_cons (pv 1) pa_nil))) (pss_one (ps_asg (pe_tup (pa_cons (pv 1) (pa_cons (pe_lst pa_nil) pa_nil))) (pg_tup rfl (pgs_cons (pg_fld (pv 0)) (pgs_cons (pg_fld (pv 0)) pgs_nil)))))), ?_⟩
    refine q_drop (v := .non) (ev_call (ea_cons (ev_var rfl) ea_nil) (fun H6 e6 Q' k' E' => ⟨p, S, rfl, hs.ex e6, k'⟩)) fun H1 e1 => ?_
    refine s_asgFL (ev_var rfl) (el_lst ea_nil (by decide)) (fun _ => ev_var rfl) (fun _ => ev_var rfl) (e1 _ _ hx) (T.cls 4 _ rfl) (T.noat 6 _ rfl) (T.noat 7 _ rfl) (by decide) fun b H2 hb o2 hb2 hx2 => ?_
    exact h b H2 (fresh_back e1 hb) ((Only.ex e1).trans o2) ⟨dx, [], hx2, hb2, .nil⟩
def N_Recording_s7_need_room : List Str := ["self"]
theorem sc_Recording_s7_need_room : FnScope N_Recording_s7_need_room ["self"] (defScope s_Recording_s7_need_room) := ⟨rfl, rfl, rfl, by decide +kernel, rfl, by decide +kernel, by decide +kernel⟩
def sp_rroom (K : PySem.W.Frag) : Sp := fun vs H Q _ => ∃ r i l ts, vs = [.ref r] ∧ RecAt K H r i l ts ∧ ts.length ≤ 1000 ∧ RetV .non H Q
theorem h_Recording_s7_need_room (T : Tx K mg) : HasM P w K mg base CX0 (ga K "Recording") "s7_need_room" 1 ["self"] (sp_rroom K) :=
  T.hasM 32 24 rfl rfl rfl sc_Recording_s7_need_room (fun vs H Q E h => by obtain ⟨r, i, l, ts, rfl, _⟩ := h; rfl) rfl (fun | _, _, _, _, _, _, [_], _ => rfl) fun cdv A outer s H vs Q E hr h => by
    obtain ⟨r, i, l, ts, rfl, ⟨dx, us, hp, hl, hi⟩, le, h⟩ := h
    refine ⟨_, (pss_one (ps_if (pt_cmpR op_ge (pe_callB call_len (by rfl) (T.fre 1 _ rfl) PySem.boot_len (pa_cons (pe_fld (pv 0) rfl) pa_nil)) (pe_num T 5 rfl) (nomark _)) (pss_one ps_never) pss_nil)), ?_⟩
    refine s_when (b := false) (et_is (et_test (ev_op (ev_lenL (fld_m T hp (ev_var rfl)) hl) ev_c rv_I0)) ?_) (fun q => nomatch q) (fun _ H1 e1 => h _ e1)
    have := hi.len
    rw [decide_eq_false (by omega)]
/-- what a call on the recording at r (source at i, list at l) tells, leaves -/
def RetR {α : Type} (K : PySem.W.Frag) (r i l : Addr) (ts : List It) (H : Hp) (x : Res α) (v : α → V) (add : α → It) (Q : VK) (E : XK) : Prop := match x with
  | .ok a S' => ∀ H', Only [i, l] H H' → RecAt K H' r i l (ts ++ [add a]) → SrcAt K H' i S' → Q (v a) H'
  | .exh m => RetE K "Exhausted" "missing" m H E
  | .bad g => RetE K "BadSteps" "given" g H E
theorem RetR.back {α : Type} {K : PySem.W.Frag} {r i l : Addr} {ts : List It} {H H1 : Hp} {x : Res α} {v : α → V} {add : α → It} {Q : VK} {E : XK} (h : RetR K r i l ts H x v add Q E) (e : Ex H H1) : RetR K r i l ts H1 x v add Q E := by
  cases x with
  | ok a S => exact fun H' o => h H' ((Only.ex e).trans o)
  | exh m => exact RetE.back h e
  | bad g => exact RetE.back h e
theorem rd_room (T : Tx K mg) {σ : L2.St} {te : TE} {H : Hp} {r i l : Addr} {ts : List It} (h : Ev te σ H (.ref r)) (hr : RecAt K H r i l ts) (le : ts.length ≤ 1000) : Ev (tMeth (ga K "Recording") "s7_need_room" (sp_rroom K) [] E0 te tNil) σ H .non :=
  fun H0 e Q q => h H0 e _ fun H1 e1 => by
    have hr1 := hr.ex (e.trans e1)
    obtain ⟨dx, us, hp, hl, hi⟩ := hr1
    exact ⟨r, dx, _, rfl, hp, rfl, r, i, l, ts, rfl, ⟨dx, us, hp, hl, hi⟩, le, fun H2 e2 => q H2 (e1.trans e2)⟩
def spRNext (K : PySem.W.Frag) : Sp := fun vs H Q E => ∃ r i l ts S, vs = [.ref r] ∧ RecAt K H r i l ts ∧ SrcAt K H i S ∧ S.Valid ∧ ts.length ≤ 1000 ∧ RetR K r i l ts H S.next V.int It.word Q E
def N_Recording_next_word : List Str := ["self", "found"]
theorem sc_Recording_next_word : FnScope N_Recording_next_word ["self"] (defScope s_Recording_next_word) := ⟨rfl, rfl, rfl, by decide +kernel, rfl, by decide +kernel, by decide +kernel⟩
theorem h_Recording_next_word (T : Tx K mg) : HasM P w K mg base (L2.CX P w) (ga K "Recording") "next_word" 6 ["self"] (spRNext K) :=
  have h_Recording_s7_need_room := h_Recording_s7_need_room (P := P) (w := w) (base := base) T
  T.hasMX 33 25 rfl rfl rfl sc_Recording_next_word (fun vs H Q E h => by obtain ⟨r, i, l, ts, S, rfl, _⟩ := h; rfl) rfl (fun | _, _, _, _, _, _, [_], _ => rfl) fun cdv A outer s H vs Q E hr h => by
    obtain ⟨r, i, l, ts, S, rfl, hrec, hs, hv, le, h⟩ := h
    refine ⟨_, (pss_cons (ps_expr (pe_hm0 h_Recording_s7_need_room (T.cls 4 _ rfl) (hr.mono (by decide)) pass0 (pv 0))) (pss_cons (ps_set (i := 1) sc_Recording_next_word.nd rfl (Or.inl rfl) (pe_poly0 T (pm_next T (passes_call (takes_of rfl rfl rfl rfl) (fun _ _ _ _ h => h))) (hr.mono (by decide)) (pe_fld (pv 0) rfl))) (pss_cons (ps_expr (pe_bm PySem.F.plainAttrs_list PySem.F.slot_list_append PySem.F.type_list_append mt_append (pe_fld (pv 0) rfl) (pa_cons (pv 1) pa_nil))) (pss_one (ps_ret (pv 1)))))), ?_⟩
    refine q_drop (v := .non) (rd_room T (ev_var rfl) hrec le) fun H1 e1 => ?_
    have hrec1 := hrec.ex e1
    have hs1 := hs.ex e1
    have h1 := h.back e1
    obtain ⟨dx, us, hp, hl, hi⟩ := hrec1
    have il := lst_ne_src hl hs1
    have ir := rec_ne_src ⟨dx, us, hp, hl, hi⟩ hs1
    have lr := rec_ne_lst (ts := ts) ⟨dx, us, hp, hl, hi⟩
    refine rd_next (fld_i T hp (ev_var rfl)) hs1 hv ?_
    cases hx : S.next with
    | exh m => rw [hx] at h1; exact h1
    | bad g => rw [hx] at h1; exact h1
    | ok a S' =>
      rw [hx] at h1
      intro H2 o2 hs2
      have hp2 := o2.keep _ _ hp (fun m => ir (List.mem_singleton.mp m).symm)
      have hl2 := o2.keep _ _ hl (fun m => il (List.mem_singleton.mp m).symm)
      refine q_app hl2 (fld_m T hp2 (ev_var rfl)) (ev_var rfl) (by have := hi.len; omega) fun H3 e3 => ?_
      have hl3 := e3 _ _ hl2
      have o13 : Only [i, l] H1 (upd H3 l (.lst (us ++ [.int a]))) := ((o2.mono (fun x m => by rw [List.mem_singleton.mp m]; exact List.mem_cons_self ..)).trans (Only.ex e3)).trans ((Only.lst hl3).mono (fun x m => by rw [List.mem_singleton.mp m]; exact List.mem_cons_of_mem _ (List.mem_cons_self ..)))
      refine s_ret (ev_var rfl) fun H4 e4 => h1 H4 (o13.trans (Only.ex e4)) (RecAt.ex ⟨dx, us ++ [.int a], ?_, upd_same, Its.add (t := .word a) (v := .int a) rfl (hi.keep o13)⟩ e4) (((hs2.ex e3).keep (Only.lst hl3) (fun m => il (List.mem_singleton.mp m))).ex e4)
      rw [upd_ne lr]
      exact e3 _ _ hp2
def spRJump (K : PySem.W.Frag) : Sp := fun vs H Q E => ∃ r i l ts S s, vs = [.ref r, .int s] ∧ RecAt K H r i l ts ∧ SrcAt K H i S ∧ S.Valid ∧ ts.length ≤ 1000 ∧ LawSteps s ∧ RetR K r i l ts H (S.jump s) (fun _ => V.non) (fun _ => It.move "jump" s) Q E
def N_Recording_jump : List Str := ["self", "steps"]
theorem sc_Recording_jump : FnScope N_Recording_jump ["self", "steps"] (defScope s_Recording_jump) := ⟨rfl, rfl, rfl, by decide +kernel, rfl, by decide +kernel, by decide +kernel⟩
theorem h_Recording_jump (T : Tx K mg) : HasM P w K mg base (L2.CX P w) (ga K "Recording") "jump" 8 ["self", "steps"] (spRJump K) :=
  have h_Recording_s7_need_room := h_Recording_s7_need_room (P := P) (w := w) (base := base) T
  have h_need_steps := h_need_steps (P := P) (w := w) (base := base) T
  T.hasMX 35 27 rfl rfl rfl sc_Recording_jump (fun vs H Q E h => by obtain ⟨r, i, l, ts, S, s, rfl, _⟩ := h; rfl) rfl (fun | _, _, _, _, _, _, [_, _], _ => rfl) fun cdv A outer s H vs Q E hr h => by
    obtain ⟨r, i, l, ts, S, st, rfl, hrec, hs, hv, le, law, h⟩ := h
    refine ⟨_, (pss_cons (ps_expr (pe_h h_need_steps (hr.mono (by decide)) pass0 (pa_cons (pv 1) pa_nil))) (pss_cons (ps_expr (pe_hm0 h_Recording_s7_need_room (T.cls 4 _ rfl) (hr.mono (by decide)) pass0 (pv 0))) (pss_cons (ps_expr (pe_poly1 T (pm_jump T (passes_call (takes_of rfl rfl rfl rfl) (fun _ _ _ _ h => h))) (hr.mono (by decide)) (pe_fld (pv 0) rfl) (pa_cons (pv 1) pa_nil))) (pss_one (ps_expr (pe_bm PySem.F.plainAttrs_list PySem.F.slot_list_append PySem.F.type_list_append mt_append (pe_fld (pv 0) rfl) (pa_cons (pe_tup (pa_cons pe_str (pa_cons (pv 1) pa_nil))) pa_nil))))))), ?_⟩
    refine q_drop (v := .non) (ev_call (ea_cons (ev_var rfl) ea_nil) (spv1 law.ok)) fun H0 e0 => ?_
    refine q_drop (v := .non) (rd_room T (ev_var rfl) (hrec.ex e0) le) fun H1 e1 => ?_
    have hrec1 := hrec.ex (Ex.trans e0 e1)
    have hs1 := hs.ex (Ex.trans e0 e1)
    have h1 := h.back (Ex.trans e0 e1)
    obtain ⟨dx, us, hp, hl, hi⟩ := hrec1
    have il := lst_ne_src hl hs1
    have ir := rec_ne_src ⟨dx, us, hp, hl, hi⟩ hs1
    have lr := rec_ne_lst (ts := ts) ⟨dx, us, hp, hl, hi⟩
    refine rd_jump (fld_i T hp (ev_var rfl)) (ev_var rfl) hs1 hv law ?_
    cases hx : S.jump st with
    | exh m => rw [hx] at h1; exact h1
    | bad g => rw [hx] at h1; exact h1
    | ok a S' =>
      rw [hx] at h1
      intro H2 o2 hs2
      have hp2 := o2.keep _ _ hp (fun m => ir (List.mem_singleton.mp m).symm)
      have hl2 := o2.keep _ _ hl (fun m => il (List.mem_singleton.mp m).symm)
      refine s_appU hl2 (fld_m T hp2 (ev_var rfl)) (eu_tup (ea_cons ev_c (ea_cons (ev_var rfl) ea_nil)) (Nat.le_of_ble_eq_true rfl)) (by have := hi.len; omega) fun t H3 _ e3 ht => ?_
      have hl3 := e3 _ _ hl2
      have o13 : Only [i, l] H1 (upd H3 l (.lst (us ++ [.ref t]))) := ((o2.mono (fun x m => by rw [List.mem_singleton.mp m]; exact List.mem_cons_self ..)).trans (Only.ex e3)).trans ((Only.lst hl3).mono (fun x m => by rw [List.mem_singleton.mp m]; exact List.mem_cons_of_mem _ (List.mem_cons_self ..)))
      refine h1 _ o13 ⟨dx, us ++ [.ref t], ?_, upd_same, Its.add (t := .move "jump" st) (v := .ref t) ⟨t, rfl, (Only.lst hl3).tups _ _ ht⟩ (hi.keep o13)⟩ ((hs2.ex e3).keep (Only.lst hl3) (fun m => il (List.mem_singleton.mp m)))
      rw [upd_ne lr]
      exact e3 _ _ hp2
def spRBack (K : PySem.W.Frag) : Sp := fun vs H Q E => ∃ r i l ts S s, vs = [.ref r, .int s] ∧ RecAt K H r i l ts ∧ SrcAt K H i S ∧ S.Valid ∧ ts.length ≤ 1000 ∧ LawSteps s ∧ RetR K r i l ts H (S.back s) (fun _ => V.non) (fun _ => It.move "back" s) Q E
def N_Recording_back : List Str := ["self", "steps"]
theorem sc_Recording_back : FnScope N_Recording_back ["self", "steps"] (defScope s_Recording_back) := ⟨rfl, rfl, rfl, by decide +kernel, rfl, by decide +kernel, by decide +kernel⟩
theorem h_Recording_back (T : Tx K mg) : HasM P w K mg base (L2.CX P w) (ga K "Recording") "back" 8 ["self", "steps"] (spRBack K) :=
  have h_Recording_s7_need_room := h_Recording_s7_need_room (P := P) (w := w) (base := base) T
  have h_need_steps := h_need_steps (P := P) (w := w) (base := base) T
  T.hasMX 36 28 rfl rfl rfl sc_Recording_back (fun vs H Q E h => by obtain ⟨r, i, l, ts, S, s, rfl, _⟩ := h; rfl) rfl (fun | _, _, _, _, _, _, [_, _], _ => rfl) fun cdv A outer s H vs Q E hr h => by
    obtain ⟨r, i, l, ts, S, st, rfl, hrec, hs, hv, le, law, h⟩ := h
    refine ⟨_, (pss_cons (ps_expr (pe_h h_need_steps (hr.mono (by decide)) pass0 (pa_cons (pv 1) pa_nil))) (pss_cons (ps_expr (pe_hm0 h_Recording_s7_need_room (T.cls 4 _ rfl) (hr.mono (by decide)) pass0 (pv 0))) (pss_cons (ps_expr (pe_poly1 T (pm_back T (passes_call (takes_of rfl rfl rfl rfl) (fun _ _ _ _ h => h))) (hr.mono (by decide)) (pe_fld (pv 0) rfl) (pa_cons (pv 1) pa_nil))) (pss_one (ps_expr (pe_bm PySem.F.plainAttrs_list PySem.F.slot_list_append PySem.F.type_list_append mt_append (pe_fld (pv 0) rfl) (pa_cons (pe_tup (pa_cons pe_str (pa_cons (pv 1) pa_nil))) pa_nil))))))), ?_⟩
    refine q_drop (v := .non) (ev_call (ea_cons (ev_var rfl) ea_nil) (spv1 law.ok)) fun H0 e0 => ?_
    refine q_drop (v := .non) (rd_room T (ev_var rfl) (hrec.ex e0) le) fun H1 e1 => ?_
    have hrec1 := hrec.ex (Ex.trans e0 e1)
    have hs1 := hs.ex (Ex.trans e0 e1)
    have h1 := h.back (Ex.trans e0 e1)
    obtain ⟨dx, us, hp, hl, hi⟩ := hrec1
    have il := lst_ne_src hl hs1
    have ir := rec_ne_src ⟨dx, us, hp, hl, hi⟩ hs1
    have lr := rec_ne_lst (ts := ts) ⟨dx, us, hp, hl, hi⟩
    refine rd_back (fld_i T hp (ev_var rfl)) (ev_var rfl) hs1 hv law ?_
    cases hx : S.back st with
    | exh m => rw [hx] at h1; exact h1
    | bad g => rw [hx] at h1; exact h1
    | ok a S' =>
      rw [hx] at h1
      intro H2 o2 hs2
      have hp2 := o2.keep _ _ hp (fun m => ir (List.mem_singleton.mp m).symm)
      have hl2 := o2.keep _ _ hl (fun m => il (List.mem_singleton.mp m).symm)
      refine s_appU hl2 (fld_m T hp2 (ev_var rfl)) (eu_tup (ea_cons ev_c (ea_cons (ev_var rfl) ea_nil)) (Nat.le_of_ble_eq_true rfl)) (by have := hi.len; omega) fun t H3 _ e3 ht => ?_
      have hl3 := e3 _ _ hl2
      have o13 : Only [i, l] H1 (upd H3 l (.lst (us ++ [.ref t]))) := ((o2.mono (fun x m => by rw [List.mem_singleton.mp m]; exact List.mem_cons_self ..)).trans (Only.ex e3)).trans ((Only.lst hl3).mono (fun x m => by rw [List.mem_singleton.mp m]; exact List.mem_cons_of_mem _ (List.mem_cons_self ..)))
      refine h1 _ o13 ⟨dx, us ++ [.ref t], ?_, upd_same, Its.add (t := .move "back" st) (v := .ref t) ⟨t, rfl, (Only.lst hl3).tups _ _ ht⟩ (hi.keep o13)⟩ ((hs2.ex e3).keep (Only.lst hl3) (fun m => il (List.mem_singleton.mp m)))
      rw [upd_ne lr]
      exact e3 _ _ hp2
/-! ### tapes told -/
def spTape (K : PySem.W.Frag) : Sp := fun vs H Q _ => ∃ r i l ts, vs = [.ref r] ∧ RecAt K H r i l ts ∧ ∀ t us H', Ex H H' → H' t = some (.tup us) → Its H' ts us → Q (.ref t) H'
def N_Recording_tape : List Str := ["self"]
theorem sc_Recording_tape : FnScope N_Recording_tape ["self"] (defScope s_Recording_tape) := ⟨rfl, rfl, rfl, by decide +kernel, rfl, by decide +kernel, by decide +kernel⟩
theorem h_Recording_tape (T : Tx K mg) : HasP P w K mg base CX0 (ga K "Recording") "tape" 1 (spTape K) :=
  T.hasP 28 43 rfl rfl rfl sc_Recording_tape (fun vs H Q E h => by obtain ⟨r, i, l, ts, rfl, _⟩ := h; rfl) rfl (fun | _, _, _, _, _, _, [_], _ => rfl) fun cdv A outer s H vs Q E hr h => by
    obtain ⟨r, i, l, ts, rfl, ⟨dx, us, hp, hl, hi⟩, h⟩ := h
    refine ⟨_, (pss_one (ps_ret (pe_callTy call_tuple_of (by rfl) (T.fre 4 _ rfl) boot_tupleT (pa_cons (pe_fld (pv 0) rfl) pa_nil)))), ?_⟩
    exact s_retU (eu_tuple (fld_m T hp (ev_var rfl)) hl) fun t H2 _ e2 ht => h t us H2 e2 ht (hi.keep (L := []) (Only.ex e2))
def spInner (K : PySem.W.Frag) : Sp := fun vs H Q _ => ∃ r i l ts, vs = [.ref r] ∧ RecAt K H r i l ts ∧ RetV (.ref i) H Q
def N_Recording_inner : List Str := ["self"]
theorem sc_Recording_inner : FnScope N_Recording_inner ["self"] (defScope s_Recording_inner) := ⟨rfl, rfl, rfl, by decide +kernel, rfl, by decide +kernel, by decide +kernel⟩
theorem h_Recording_inner (T : Tx K mg) : HasP P w K mg base CX0 (ga K "Recording") "inner" 1 (spInner K) :=
  T.hasP 29 44 rfl rfl rfl sc_Recording_inner (fun vs H Q E h => by obtain ⟨r, i, l, ts, rfl, _⟩ := h; rfl) rfl (fun | _, _, _, _, _, _, [_], _ => rfl) fun cdv A outer s H vs Q E hr h => by
    obtain ⟨r, i, l, ts, rfl, ⟨dx, us, hp, hl, hi⟩, h⟩ := h
    refine ⟨_, (pss_one (ps_ret (pe_fld (pv 0) rfl))), ?_⟩
    exact s_retE (fld_i T hp (ev_var rfl)) h
/-- v is (state of S, tape) -/
def RStAt (H : Hp) (v : V) (S : Src) (ts : List It) : Prop := ∃ a st t us, v = .ref a ∧ H a = some (.tup [st, .ref t]) ∧ StAt H st S ∧ H t = some (.tup us) ∧ Its H ts us
theorem RStAt.keep {H H' : Hp} {v : V} {S : Src} {ts : List It} {L : List Addr} (h : RStAt H v S ts) (o : Only L H H') : RStAt H' v S ts := by
  obtain ⟨a, st, t, us, h1, h2, h3, h4, h5⟩ := h
  exact ⟨a, st, t, us, h1, o.tups _ _ h2, h3.keep o, o.tups _ _ h4, h5.keep o⟩
def spRState (K : PySem.W.Frag) : Sp := fun vs H Q _ => ∃ r i l ts S, vs = [.ref r] ∧ RecAt K H r i l ts ∧ SrcAt K H i S ∧ S.Valid ∧ ∀ v H', Ex H H' → RStAt H' v S ts → Q v H'
def N_Recording_state : List Str := ["self"]
theorem sc_Recording_state : FnScope N_Recording_state ["self"] (defScope s_Recording_state) := ⟨rfl, rfl, rfl, by decide +kernel, rfl, by decide +kernel, by decide +kernel⟩
theorem h_Recording_state (T : Tx K mg) : HasP P w K mg base CX0 (ga K "Recording") "state" 4 (spRState K) :=
  T.hasP 30 45 rfl rfl rfl sc_Recording_state (fun vs H Q E h => by obtain ⟨r, i, l, ts, S, rfl, _⟩ := h; rfl) rfl (fun | _, _, _, _, _, _, [_], _ => rfl) fun cdv A outer s H vs Q E hr h => by
    obtain ⟨r, i, l, ts, S, rfl, ⟨dx, us, hp, hl, hi⟩, hs, hv, h⟩ := h
    refine ⟨_, (pss_one (ps_ret (pe_tup (pa_cons (pe_polyP T (pp_state T) (hr.mono (by decide)) (pe_fld (pv 0) rfl)) (pa_cons (pe_callTy call_tuple_of (by rfl) (T.fre 4 _ rfl) boot_tupleT (pa_cons (pe_fld (pv 0) rfl) pa_nil)) pa_nil))))), ?_⟩
    refine ev_state (fld_i T hp (ev_var rfl)) hs hv H (Ex.refl _) _ fun st H1 e1 hst => ?_
    refine eu_tuple (fld_m T (e1 _ _ hp) (ev_var (v := .ref r) rfl)) (e1 _ _ hl) H1 (Ex.refl _) _ fun t H2 _ e2 ht => ⟨sz_of (Nat.le_of_ble_eq_true rfl), fun a ha => ?_⟩
    have e3 : Ex H2 (upd H2 a (.tup [st, .ref t])) := Ex.new ha
    exact h _ _ (Ex.trans (Ex.trans e1 e2) e3) ⟨a, st, t, us, rfl, upd_same, (hst.ex e2).ex e3, e3 _ _ ht, hi.keep (L := []) (Only.ex (Ex.trans (Ex.trans e1 e2) e3))⟩
def spREmpty (K : PySem.W.Frag) : Sp := fun vs H Q _ => ∃ r i l ts, vs = [.ref r] ∧ RecAt K H r i l ts ∧ ∀ l' H', H l' = none → Only [r] H H' → RecAt K H' r i l' [] → Q .non H'
def N_Recording_empty : List Str := ["self"]
theorem sc_Recording_empty : FnScope N_Recording_empty ["self"] (defScope s_Recording_empty) := ⟨rfl, rfl, rfl, by decide +kernel, rfl, by decide +kernel, by decide +kernel⟩
theorem h_Recording_empty (T : Tx K mg) : HasM P w K mg base CX0 (ga K "Recording") "empty" 1 ["self"] (spREmpty K) :=
  T.hasM 39 32 rfl rfl rfl sc_Recording_empty (fun vs H Q E h => by obtain ⟨r, i, l, ts, rfl, _⟩ := h; rfl) rfl (fun | _, _, _, _, _, _, [_], _ => rfl) fun cdv A outer s H vs Q E hr h => by
    obtain ⟨r, i, l, ts, rfl, ⟨dx, us, hp, hl, hi⟩, h⟩ := h
    refine ⟨_, (pss_one (ps_fld (pv 0) (pe_lst pa_nil) rfl)), ?_⟩
    refine s_fldL (el_lst ea_nil (by decide)) (ev_var rfl) hp (T.cls 4 _ rfl) (T.noat 7 _ rfl) (Nat.le_of_ble_eq_true rfl) fun b H2 hb o2 hb2 hp2 => h b H2 hb o2 ⟨dx, [], hp2, hb2, .nil⟩
def N_words_on : List Str := ["tape", "item"]
theorem sc_words_on : FnScope N_words_on ["tape"] (defScope s_words_on) := ⟨rfl, rfl, rfl, by decide +kernel, rfl, by decide +kernel, by decide +kernel⟩
def wordsOf : List It → List Int
  | [] => []
  | .word i :: r => i :: wordsOf r
  | .move _ _ :: r => wordsOf r
def sp_words_on : Sp := fun vs H Q _ => ∃ a us ts, vs = [.ref a] ∧ H a = some (.tup us) ∧ Its H ts us ∧ OkIts ts ∧ RetU (iV (wordsOf ts)) H Q
theorem wordsOf_eq {H : Hp} : ∀ {ts : List It} {us : List V}, Its H ts us → (us.filter fun x => match x with | .int _ => true | _ => false).map (fun x => x) = iV (wordsOf ts)
  | _, _, .nil => rfl
  | .word i :: _, _, .cons a r => by
    obtain rfl := a
    have z := wordsOf_eq r
    rw [List.map_id'] at z ⊢
    show V.int i :: _ = V.int i :: _
    rw [z]
  | .move n s :: _, _, .cons a r => by
    obtain ⟨b, rfl, _⟩ := a
    have z := wordsOf_eq r
    exact z
theorem h_words_on (T : Tx K mg) : Has P w K mg base CX0 "words_on" 6 ["tape"] sp_words_on :=
  have h_need_tape := h_need_tape (P := P) (w := w) (base := base) T
  T.has 40 31 rfl rfl rfl sc_words_on (fun vs H Q E h => by obtain ⟨a, us, ts, rfl, _⟩ := h; rfl) rfl (fun | _, _, _, _, _, _, [_], _ => rfl) fun cdv A outer s H vs Q E hr h => by
    obtain ⟨a, us, ts, rfl, ha, hi, ok, h⟩ := h
    refine ⟨_, (pss_cons (ps_expr (pe_h h_need_tape (hr.mono (by decide)) pass0 (pa_cons (pv 0) pa_nil))) (pss_one (ps_ret (pe_callTy call_tuple_of (by rfl) (T.fre 4 _ rfl) boot_tupleT (pa_cons (pe_lc (own := [("item", 1)]) (g := gName 1) rfl sc_words_on.nd (pi_tup (pv 0)) (blkOk_by (own := [("item", 1)]) (N := N_words_on) (sc := defScope s_words_on) (by decide +kernel)) (fun _ _ _ _ _ => pg_name (i := 1) sc_words_on.nd rfl (Or.inl rfl)) (fun _ _ _ _ _ => pts_one (pt_not (pt_val (pe_isB T 4 rfl boot_tupleT (pv 1))))) (fun _ _ _ _ _ => (pv 1))) pa_nil))))), ?_⟩
    refine q_drop (v := .non) (ev_call (ea_cons (ev_var rfl) ea_nil) (fun H6 e6 Q' k' E' => ⟨a, us, ts, rfl, e6 _ _ ha, hi.keep (L := []) (Only.ex e6), ok, k'⟩)) fun H1 e1 => ?_
    refine s_retUE (eu_is (eu_tupleL (lc_t _ (fun x => x) (ev_var rfl) (e1 _ _ ha) (by have := hi.len; have := ok.1; omega) (fun x => rfl) (fun x m H2 e2 => ?_) (fun x m H2 e2 _ => ev_var rfl))) (wordsOf_eq hi)) (rau h e1)
    obtain ⟨t, _, ht⟩ := hi.mem m
    cases t with
    | word i =>
      obtain rfl : x = .int i := ht
      exact et_is (et_not (et_B (ev_isBit (ev_var rfl)))) rfl
    | move n s =>
      obtain ⟨b, rfl, hb⟩ := ht
      exact et_is (et_not (et_B (ev_isBtt (ev_var rfl) ((Ex.trans e1 e2) _ _ hb)))) rfl
end
end Kx
set_option Elab.async false
set_option linter.all false
set_option maxRecDepth 100000
set_option maxHeartbeats 2000000
namespace Kx
open PySem PySem.Spec PyProof.Rows L2 Evl
open He (ga ma)
/-! ### for i, x in enumerate(t), t a tuple -/
set_option maxHeartbeats 4000000 in
theorem en_new {v : Value} {ob : Obj} {C : Heap → Prop} (B : Begins v ob C) :
    Meets (Builtin.«enumerate.__new__» ⟨[.type "enumerate", v], []⟩) (fun _ R s => C s.heap ∧
      R (.ok (.ret (.ref (s.heap.push ob).objs.size))) { s with heap := (s.heap.push ob).push { cls := .type "enumerate", data := .fields #[.none, .bool false, .ref s.heap.objs.size, rawInt 0, .none, .none] } }) :=
  .of_wp fun prog w A R s z => by
    obtain ⟨hp, gs, dr, tk, os⟩ := s
    obtain ⟨z1, z⟩ := z
    have hsub := sub_enumerate
    have it0 : ∀ {A' : Around} {E : Value → Shared → Prop} {Q : Value → Shared → Prop}, Q (.ref hp.objs.size) ⟨hp.push ob, gs, dr, tk, os⟩ → wpAny (model prog w) A' (pyIter v) Q E ⟨hp, gs, dr, tk, os⟩ := fun q => B.iter prog w _ _ ⟨hp, gs, dr, tk, os⟩ _ z1 q
    wp_walk using it0
    refine wpAny_stack_any fun st => wpAny_pure ?_
    split
    · rename_i c _ _ _ _ _
      cases (c == Value.type "enumerate") <;> (wp_walk using it0; exact ⟨_, rfl, z⟩)
    · wp_walk using it0
      exact ⟨_, rfl, z⟩
section
variable {prog : Program} {w : World} {A : Around} {E : Value → Shared → Prop} {s : Shared}
theorem en_call {v : Value} {ob : Obj} {C : Heap → Prop} {Q : Value → Shared → Prop} (B : Begins v ob C) (h1 : C s.heap)
    (go : ∀ h', IsEnum h' (s.heap.objs.size + 1) s.heap.objs.size 0 .none → h'.get? s.heap.objs.size = some ob → (∀ b o, s.heap.get? b = some o → h'.get? b = some o) → Q (.ref (s.heap.objs.size + 1)) { s with heap := h' }) :
    wpAny (model prog w) A (call (.type "enumerate") [v]) Q E s := by
  refine callType_new F.called_enumerate (by decide) (F.typeCall_enumerate_1 _) (F.newCall_enumerate_1 _) (fun obj => F.args_object_init_2 obj _) F.entry_enumerate_new (en_new B) ⟨h1, ?_⟩
  have size1 : (s.heap.push ob).objs.size = s.heap.objs.size + 1 := Heap.size_push ..
  have there : IsEnum ((s.heap.push ob).push { cls := .type "enumerate", data := .fields #[.none, .bool false, .ref s.heap.objs.size, rawInt 0, .none, .none] }) (s.heap.objs.size + 1) s.heap.objs.size 0 .none := by
    have z := Heap.get?_push_size (s.heap.push ob) (o := { cls := .type "enumerate", data := .fields #[.none, .bool false, .ref s.heap.objs.size, rawInt 0, .none, .none] }) rfl
    rw [size1] at z
    exact z
  show _ ∧ _
  rw [size1]
  exact ⟨⟨_, there, rfl⟩, go _ there (Heap.get?_push_of_some _ (Heap.get?_push_size _ B.free)) fun b o x => Heap.get?_push_of_some _ (Heap.get?_push_of_some _ x)⟩
end
/-- the tuple at a, each item in a new pair with its number -/
def Iet (K : PySem.W.Frag) (a : Addr) : L2.It :=
  ⟨fun i H => ∃ xs x, SqT K H a xs ∧ xs[i]? = some x, fun i H v H' => ∃ T x, v = .ref T ∧ H T = none ∧ H' = upd H T (.tup [.int (i : Nat), x]) ∧ ∀ xs, SqT K H a xs → xs[i]? = some x, fun i H => ∃ xs, SqT K H a xs ∧ xs.length = i⟩
theorem turn_et {P : Program} {w : World} {K : PySem.W.Frag} {elts : List Expr} {kk : Nat} {tpos : Pos} (a e it : Addr) :
    Turn P w K (.Tuple elts kk tpos) (Iet K a) [e, it] e (fun i h => (∃ old, IsEnum h e it ((i : Nat) : Int) old) ∧ h.IsTupleIter it a i ∧ e ≠ it) where
  mem := List.mem_cons_self ..
  obj := fun i h st b hb => by
    obtain ⟨⟨old, he⟩, ⟨o, ho, _, hd⟩, _⟩ := st
    rcases List.mem_cons.mp hb with rfl | hb
    · exact ⟨_, he, fun v q => nomatch q⟩
    · rcases List.mem_singleton.mp hb with rfl
      exact ⟨o, ho, fun v q => by rw [hd] at q; cases q⟩
  keep := fun i h h' st k => by
    obtain ⟨⟨old, he⟩, hi, hne⟩ := st
    exact ⟨⟨old, k e (List.mem_cons_self ..) _ he⟩, hi.at fun o q => k it (List.mem_cons_of_mem _ (List.mem_cons_self ..)) o q, hne⟩
  item := by
    intro X hP hw hK hc i pins s σ H E I free st more
    subst hP hw hK
    obtain ⟨⟨old, he⟩, hit, hne⟩ := st
    obtain ⟨xs, x, hq, hx⟩ := more
    obtain ⟨its, rv, p, _⟩ := I.tuple hq
    have tp : s.heap.IsTuple a its.toArray := p
    obtain ⟨u, hu, ru⟩ := rv.get hx
    have e_lt : e < s.heap.objs.size := Heap.lt_size he
    have it_lt : it < s.heap.objs.size := by obtain ⟨_, q, _⟩ := hit; exact Heap.lt_size q
    have a_it : a ≠ it := fun z => by
      obtain ⟨o1, g1, c1, _⟩ := tp
      obtain ⟨o2, g2, c2, _⟩ := hit
      rw [z, g2] at g1
      cases g1
      rw [c2] at c1
      injection c1 with c1
      exact absurd c1 (by decide)
    have a_e : e ≠ a := fun z => by
      obtain ⟨o1, g1, c1, _⟩ := tp
      rw [← z, he] at g1
      cases g1
      injection c1 with c1
      exact absurd c1 (by decide)
    have lt : i < its.toArray.size := by
      have := (List.getElem?_eq_some_iff.mp hu).1
      simpa using this
    refine wpAny_pyNext_enum_itemD (Draws.tuple (A := X.A.in1) (I.ok.hd hc) it a a_it its.toArray) he ⟨hit, tp⟩ lt hne (fun z => ?_) fun y h' tk hy ho hit' hT hsz hk => ?_
    · rcases List.mem_cons.mp z with z | z
      · exact hne z
      · exact a_e (List.mem_singleton.mp z)
    have yu : y = u := by
      have z : its[i]? = some y := by simpa using hy
      rw [hu] at z
      exact (Option.some.inj z).symm
    subst yu
    refine ⟨_, rfl, wpAny_letOwnedTupleGo_enum (s := { s with heap := h', toks := tk + 1 }) ho fun h2 he2 sb => ?_⟩
    have T_at : h2.get? s.heap.objs.size = some { cls := .type "tuple", data := .seq #[.int i tk, y] } := (sb.2 _ (Nat.ne_of_gt e_lt)).trans hT
    have two : ObjOk X.prog X.w (upd H s.heap.objs.size (.tup [.int (i : Nat), x])) h2 s.heap.objs.size (.tup [.int (i : Nat), x]) :=
      ⟨sz_of (Nat.le_of_ble_eq_true rfl), [.int i tk, y], .cons ⟨_, rfl⟩ (.cons ru .nil), ⟨_, T_at, rfl, _, rfl⟩⟩
    have J : Inv X pins σ (upd H s.heap.objs.size (.tup [.int (i : Nat), x])) { s with heap := h2, toks := tk + 1 } :=
      I.turnedNew (ch := [e, it]) (fun b ob hb q => by
        have b1 : b ≠ e := fun z => hb (by rw [z]; exact List.mem_cons_self ..)
        have b2 : b ≠ it := fun z => hb (by rw [z]; exact List.mem_cons_of_mem _ (List.mem_cons_self ..))
        exact (sb.2 b b1).trans (hk b ob b1 b2 q)) free (Nat.le_refl _) two
    refine ⟨.ref s.heap.objs.size, _, J, rfl, ⟨_, x, rfl, I.hok.fresh (Nat.le_refl _), rfl, fun ys hy => by rw [I.tuple_inj hy hq]; exact hx⟩, ⟨⟨y, ?_⟩, hit'.1.at fun o q => (sb.2 it (Ne.symm hne)).trans q, hne⟩, fun b hb => ?_⟩
    · rw [show ((i + 1 : Nat) : Int) = (i : Int) + 1 by omega]
      exact he2
    · have b_lt : b < s.heap.objs.size := by
        rcases List.mem_cons.mp hb with rfl | hb
        · exact e_lt
        · rcases List.mem_singleton.mp hb with rfl
          exact it_lt
      rw [upd_ne (Nat.ne_of_lt b_lt)]
      exact (free b hb).1
  done := by
    intro X hP hw hK hc i pins s σ H E I free st more
    subst hP hw hK
    obtain ⟨⟨old, he⟩, hit, hne⟩ := st
    obtain ⟨xs, hq, hx⟩ := more
    obtain ⟨its, rv, p, _⟩ := I.tuple hq
    have tp : s.heap.IsTuple a its.toArray := p
    have a_it : a ≠ it := fun z => by
      obtain ⟨o1, g1, c1, _⟩ := tp
      obtain ⟨o2, g2, c2, _⟩ := hit
      rw [z, g2] at g1
      cases g1
      rw [c2] at c1
      injection c1 with c1
      exact absurd c1 (by decide)
    obtain ⟨f0, f1, f2, f3, f4, f5⟩ := free it (List.mem_cons_of_mem _ (List.mem_cons_self ..))
    have hl := rv.length
    have sz : its.toArray.size = i := by simp; omega
    have D := Draws.tuple (prog := X.prog) (w := X.w) (A := X.A.in1) (I.ok.hd hc) it a a_it its.toArray
    rw [sz] at D
    exact wpAny_pyNext_enum_endD D he ⟨hit, tp⟩ fun h' eb => ⟨rfl, I.turned (t' := s.toks) (fun b o hb q => eb b o hb q) f0 f1 f3 f4 f5⟩
  self := fun A i s Q E st h => by
    obtain ⟨⟨_, he⟩, _⟩ := st
    exact wpAny_pyIter_enum he h
def iEt (K : PySem.W.Frag) (ta : TA) : TI := fun σ H R => ta σ H fun vs H1 => ∃ a xs, vs = [.ref a] ∧ SqT K H1 a xs ∧ R (Iet K a) H1
theorem pi_et {X : Cx} {e : Expr} {ta : TA} {p pos tpos : Pos} {elts : List Expr} {kk : Nat} (hg : Gl X "enumerate") (hm : X.mg "enumerate" = none) (ha : PA X [e] ta) (hs : starEach [e] X.env = [(false, eval e X.env)] := by rfl) :
    PI X (.Tuple elts kk tpos) (.Call (.Name "enumerate" p) [e] [] pos) (iEt X.K ta) := by
  refine ⟨fun pins s σ H R I h => Call_ (ld_blt I hg hm boot_enumerate (PyProof.Rows.callWith_type1 (thn (ha.run pos pins s σ H _ I h) fun us s1 z => ?_) hs rfl))⟩
  obtain ⟨vs, H1, I1, r1, a, xs, rfl, hq, q⟩ := z
  cases r1 with
  | cons r rr =>
    cases rr
    cases r
    obtain ⟨its, rv, tp, _⟩ := I1.tuple hq
    refine en_call (begins_tuple a its.toArray) tp fun h' he hit hk => wpAny_pyIter_enum he ?_
    have J : Inv X pins σ H1 { s1 with heap := h' } := I1.kept (t' := s1.toks) hk
    refine ⟨s1.heap.objs.size + 1, [s1.heap.objs.size + 1, s1.heap.objs.size], _, _, H1, rfl, J, turn_et a (s1.heap.objs.size + 1) s1.heap.objs.size, ⟨⟨.none, he⟩, ⟨_, hit, rfl, rfl⟩, Nat.succ_ne_self _⟩, fun b hb => ?_, q⟩
    have le : s1.heap.objs.size ≤ b := by
      rcases List.mem_cons.mp hb with rfl | hb
      · omega
      · rcases List.mem_singleton.mp hb with rfl
        exact Nat.le_refl _
    exact I1.fpOk le (I1.hok.fresh le)
/-- the loop over a tracked tuple -/
theorem q_forEt {K : PySem.W.Frag} {σ : L2.St} {H : Hp} {D : Ends} {te : TE} {g : TG} {tu tz : TS} {a : Addr} {xs : List V} (h : Ev te σ H (.ref a)) (hx : H a = some (.tup xs)) (Pv : Nat → L2.St → Hp → Prop) (h0 : ∀ H1, Ex H H1 → Pv 0 σ H1) (hl : ∀ i σ' H', Pv i σ' H' → H' a = some (.tup xs))
    (hs : ∀ i x T σ' H', xs[i]? = some x → Pv i σ' H' → H' T = none → g (.ref T) σ' (upd H' T (.tup [.int (i : Nat), x])) fun σ2 H2 => tu { D with nx := Pv (i + 1), ct := Pv (i + 1), bk := tz D } σ2 H2) (hd : ∀ σ' H', Pv xs.length σ' H' → tz D σ' H') :
    tSeq (tFor (iEt K (tCons te tNil)) g tu) tz D σ H := by
  refine h H (Ex.refl _) _ fun H1 e1 => ⟨a, xs, rfl, SqT.of (e1 _ _ hx), fun i m σ' H' => Pv i σ' H' ∧ m = xs.length - i ∧ i ≤ xs.length, ⟨_, h0 H1 e1, rfl, Nat.zero_le _⟩, fun i m σ' H' W => ?_⟩
  obtain ⟨pv, rfl, le⟩ := W
  by_cases c : i < xs.length
  · refine .inr ⟨⟨xs, xs[i], SqT.of (hl _ _ _ pv), List.getElem?_eq_getElem c⟩, Pv (i + 1), fun σ2 H2 p => ⟨xs.length - (i + 1), by omega, p, rfl, by omega⟩, fun v H2 y => ?_⟩
    obtain ⟨T, x, rfl, hT, rfl, hx2⟩ := y
    exact hs i x T σ' H' (hx2 xs (SqT.of (hl _ _ _ pv))) pv hT
  · have e : i = xs.length := by omega
    subst e
    exact .inl ⟨⟨xs, SqT.of (hl _ _ _ pv), rfl⟩, hd _ _ pv⟩
end Kx
set_option Elab.async false
set_option linter.all false
set_option maxRecDepth 100000
set_option maxHeartbeats 2000000
namespace Kx
open PySem PySem.Spec PyProof.Rows L2 Evl
open He (ga ma)
section
variable {P : Program} {w : World} {K : PySem.W.Frag} {mg : Str → Option Value} {base : Heap}
/-! ### Recording, further -/
def spRCopy (K : PySem.W.Frag) : Sp := fun vs H Q _ => ∃ r i l ts S, vs = [.ref r] ∧ RecAt K H r i l ts ∧ SrcAt K H i S ∧ S.Valid ∧ ∀ r' i' l' H', H r' = none → H i' = none → H l' = none → Ex H H' → RecAt K H' r' i' l' ts → SrcAt K H' i' S → Q (.ref r') H'
def N_Recording_copy : List Str := ["self", "found"]
theorem sc_Recording_copy : FnScope N_Recording_copy ["self"] (defScope s_Recording_copy) := ⟨rfl, rfl, rfl, by decide +kernel, rfl, by decide +kernel, by decide +kernel⟩
theorem h_Recording_copy (T : Tx K mg) : HasM P w K mg base CX0 (ga K "Recording") "copy" 8 ["self"] (spRCopy K) :=
  have h_Recording_init := h_Recording_init (P := P) (w := w) (base := base) T
  T.hasM 37 29 rfl rfl rfl sc_Recording_copy (fun vs H Q E h => by obtain ⟨r, i, l, ts, S, rfl, _⟩ := h; rfl) rfl (fun | _, _, _, _, _, _, [_], _ => rfl) fun cdv A outer s H vs Q E hr h => by
    obtain ⟨r, i, l, ts, S, rfl, ⟨dx, us, hp, hl, hi⟩, hs, hv, h⟩ := h
    refine ⟨_, (pss_cons (ps_set (i := 1) sc_Recording_copy.nd rfl (Or.inl rfl) (pe_hi h_Recording_init (hr.mono (by decide)) (T.glo 30 _ rfl) pass0 (pa_cons (pe_poly0 (E := E0) T (pm_copy T) (hr.mono (by decide)) (pe_fld (pv 0) rfl)) pa_nil))) (pss_cons (ps_fld (pv 1) (pe_callTy call_list_of (by rfl) (T.fre 5 _ rfl) boot_listT (pa_cons (pe_fld (pv 0) rfl) pa_nil)) rfl) (pss_one (ps_ret (pv 1))))), ?_⟩
    refine rd_copy (fld_i T hp (ev_var rfl)) hs hv fun i' H1 hi' e1 hs1 x dy hx hdy ne => ?_
    have e2 : Ex H1 (upd (upd H1 dy (.own x)) x (.ins (ga K "Recording") dy [])) := Ex.mut (Ex.new hdy) hx
    refine ⟨x, dy, i', S, rfl, upd_same, hs1.ex e2, fun l0 H3 hl0 o3 hrec3 => ⟨rfl, ?_⟩⟩
    have e13 : Ex H1 H3 := ((Only.ex e2).trans o3).new fun y m => by rw [List.mem_singleton.mp m]; exact hx
    obtain ⟨dz, us3, hx3, _, _⟩ := hrec3
    refine q_fldL (el_listL (fld_m T (e13 _ _ (e1 _ _ hp)) (ev_var rfl)) (e13 _ _ (e1 _ _ hl))) (ev_var rfl) hx3 (T.cls 4 _ rfl) (T.noat 7 _ rfl) (Nat.le_of_ble_eq_true rfl) fun b H4 hb o4 hb4 hx4 => ?_
    have e14 : Ex H1 H4 := ((Only.ex e13).trans o4).new fun y m => by rw [List.mem_singleton.mp m]; exact hx
    refine s_ret (ev_var rfl) fun H5 e5 => h x i' b H5 (fresh_back e1 hx) hi' (fresh_back (Ex.trans e1 e13) hb) (Ex.trans (Ex.trans e1 e14) e5) ⟨dz, us, e5 _ _ hx4, e5 _ _ hb4, hi.keep (L := []) (Only.ex (Ex.trans (Ex.trans e1 e14) e5))⟩ ((hs1.ex e14).ex e5)
/-! data of items -/
def It.data : It → PyData
  | .word i => .int i
  | .move n s => .tuple [.str n, .int s]
theorem dp_item {H : Hp} {v : V} {t : It} (h : ItAt H v t) : Dp K H v t.data := by
  cases t with
  | word i =>
    obtain rfl : v = .int i := h
    exact .int i
  | move n s =>
    obtain ⟨a, rfl, h2⟩ := h
    exact .tup (SqT.of h2) (.cons (.str n) (.cons (.int s) .nil))
theorem dp_items {H : Hp} : ∀ {ts : List It} {vs : List V}, Its H ts vs → DpAll K H vs (ts.map It.data)
  | _, _, .nil => .nil
  | _, _, .cons a r => .cons (dp_item a) (dp_items r)
theorem dn_item {t : It} (h : t.Ok) : Dn 1 t.data := by
  cases t with
  | word i => exact dn_int.up (by decide)
  | move n s =>
    refine dn_tup fun d m => ?_
    rcases List.mem_cons.mp m with rfl | m
    · rcases h.1 with rfl | rfl
      · exact ⟨by rw [PyData.canLay0]; decide +kernel, by rw [PyData.depth]; exact Nat.le_refl _⟩
      · exact ⟨by rw [PyData.canLay0]; decide +kernel, by rw [PyData.depth]; exact Nat.le_refl _⟩
    · rcases List.mem_singleton.mp m with rfl
      exact dn_int
theorem dn_items {ts : List It} (h : ∀ t, t ∈ ts → t.Ok) : Dn 2 (.list (ts.map It.data)) := dn_lst fun d m => by
  obtain ⟨t, h1, rfl⟩ := List.mem_map.mp m
  exact dn_item (h t h1)
theorem dn_itemsT {ts : List It} (h : ∀ t, t ∈ ts → t.Ok) : Dn 2 (.tuple (ts.map It.data)) := dn_tup fun d m => by
  obtain ⟨t, h1, rfl⟩ := List.mem_map.mp m
  exact dn_item (h t h1)
theorem eqvAll_len : ∀ {xs ys : List PyData}, xs.length ≠ ys.length → PyData.eqvAll xs ys = false
  | [], [], h => absurd rfl h
  | [], _ :: _, _ => by simp [PyData.eqvAll]
  | _ :: _, [], _ => by simp [PyData.eqvAll]
  | x :: xs, y :: ys, h => by
    rw [PyData.eqvAll, eqvAll_len (xs := xs) (ys := ys) fun e => h (by rw [List.length_cons, List.length_cons, e]), Bool.and_false]
theorem ev_neD {σ : L2.St} {H : Hp} {ta tb : TE} {x y : V} {d e : PyData} {n : Nat} (hx : Ev ta σ H x) (hy : Ev tb σ H y) (dx : ∀ H1, Ex H H1 → Dp K H1 x d) (dy : ∀ H1, Ex H H1 → Dp K H1 y e) (sh : Dn n d) (sh2 : Dn n e) (hn : n ≤ 64) : Ev (tOp (rNeD K) ta tb) σ H (.bl (!PyData.eqv d e)) :=
  fun H1 e1 Q q => hx H1 e1 _ fun H2 e2 => hy H2 (e1.trans e2) _ fun H3 e3 => ⟨d, e, dx H3 ((e1.trans e2).trans e3), dy H3 ((e1.trans e2).trans e3), sh.shaped hn, sh2.shaped hn, q H3 (e2.trans e3)⟩
theorem Tx.recTy {H : Hp} {r dx : Addr} {fs : List (Str × V)} (T : Tx K mg) (h : H r = some (.ins (ga K "Recording") dx fs)) : TyX K H (.ref r) (.ref (ga K "Recording")) := T.instO 4 76 rfl rfl h
def spRSame (K : PySem.W.Frag) : Sp := fun vs H Q _ => ∃ r o i l ts b, vs = [.ref r, .ref o] ∧ RecAt K H r i l ts ∧ OkIts ts ∧
  ((∃ S, SrcAt K H o S ∧ b = false) ∨ (∃ j m us, RecAt K H o j m us ∧ OkIts us ∧ ts.length ≠ us.length ∧ b = false) ∨ (∃ j m S, RecAt K H o j m ts ∧ SrcAt K H i S ∧ SrcAt K H j S ∧ S.Valid ∧ b = true)) ∧ RetV (.bl b) H Q
def N_Recording_same_state : List Str := ["self", "other"]
theorem sc_Recording_same_state : FnScope N_Recording_same_state ["self", "other"] (defScope s_Recording_same_state) := ⟨rfl, rfl, rfl, by decide +kernel, rfl, by decide +kernel, by decide +kernel⟩
theorem h_Recording_same_state (T : Tx K mg) : HasM P w K mg base CX0 (ga K "Recording") "same_state" 2 ["self", "other"] (spRSame K) :=
  T.hasM 38 30 rfl rfl rfl sc_Recording_same_state (fun vs H Q E h => by obtain ⟨r, o, i, l, ts, b, rfl, _⟩ := h; rfl) rfl (fun | _, _, _, _, _, _, [_, _], _ => rfl) fun cdv A outer s H vs Q E hr h => by
    obtain ⟨r, o, i, l, ts, b, rfl, ⟨dx, us, hp, hl, hi⟩, ok, ways, h⟩ := h
    refine ⟨_, (pss_cons (ps_if (PW.pt (pw_or (pt_not (pt_val (pe_isC T 30 rfl (pv 1)))) (pw_or1 (pt_cmpR (op_neD hr.units) (pe_fld (pv 0) rfl) (pe_fld (pv 1) rfl) (nomark _))))) (pss_one (ps_ret pe_bl)) pss_nil) (pss_one (ps_ret (pe_poly1 (E := E0) T (pm_same T) (hr.mono (by decide)) (pe_fld (pv 0) rfl) (pa_cons (pe_fld (pv 1) rfl) pa_nil))))), ?_⟩
    rcases ways with ⟨S, hs, rfl⟩ | ⟨j, m, us2, ⟨dy, ws, hq, hm, hj⟩, ok2, ne, rfl⟩ | ⟨j, m, S, ⟨dy, ws, hq, hm, hj⟩, hs, hs2, hv, rfl⟩
    · refine q_when (b := true) (et_is (a := !false || true) (et_or (et_not (et_B (ev_isO (ev_var rfl) (fun H1 e => T.srcTy (hs.ex e)) (T.kitR S)))) (fun z => by cases z)) rfl) (fun _ H1 e1 => s_ret ev_c fun H2 e2 => h _ (Ex.trans e1 e2)) (fun q => nomatch q)
    · refine q_when (b := true) (et_is (et_or0 (et_not (et_B (ev_isO (ev_var rfl) (fun H1 e => T.recTy (e _ _ hq)) (T.kit 93 rfl)))) (et_test (ev_neD (fld_m T hp (ev_var rfl)) (fld_m T hq (ev_var rfl)) (fun H1 e => .lst (SqL.of (e _ _ hl)) (dp_items (hi.keep (L := []) (Only.ex e)))) (fun H1 e => .lst (SqL.of (e _ _ hm)) (dp_items (hj.keep (L := []) (Only.ex e)))) (dn_items ok.2) (dn_items ok2.2) (by decide)))) ?_) (fun _ H1 e1 => s_ret ev_c fun H2 e2 => h _ (Ex.trans e1 e2)) (fun q => nomatch q)
      rw [PyData.eqv, eqvAll_len (by rw [List.length_map, List.length_map]; exact ne)]
      rfl
    · refine q_when (b := false) (et_is (et_or0 (et_not (et_B (ev_isO (ev_var rfl) (fun H1 e => T.recTy (e _ _ hq)) (T.kit 93 rfl)))) (et_test (ev_neD (fld_m T hp (ev_var rfl)) (fld_m T hq (ev_var rfl)) (fun H1 e => .lst (SqL.of (e _ _ hl)) (dp_items (hi.keep (L := []) (Only.ex e)))) (fun H1 e => .lst (SqL.of (e _ _ hm)) (dp_items (hj.keep (L := []) (Only.ex e)))) (dn_items ok.2) (dn_items ok.2) (by decide)))) ?_) (fun q => nomatch q) (fun _ H1 e1 => ?_)
      · rw [SeqAt.eqv_refl _ (dn_items ok.2).1]
        rfl
      · exact s_retE (ev_same (fld_i T (e1 _ _ hp) (ev_var rfl)) (fld_i T (e1 _ _ hq) (ev_var rfl)) (hs.ex e1) (hs2.ex e1) hv) (ra h e1)
def spRSet (K : PySem.W.Frag) : Sp := fun vs H Q _ => ∃ r i l ts0 S0 v S ts, vs = [.ref r, v] ∧ RecAt K H r i l ts0 ∧ SrcAt K H i S0 ∧ RStAt H v S ts ∧ S.Valid ∧ S.cls = S0.cls ∧ OkIts ts ∧ ∀ l' H', H l' = none → Only [r, i] H H' → RecAt K H' r i l' ts → SrcAt K H' i S → Q .non H'
def N_Recording_set_state : List Str := ["self", "state", "is_good"]
theorem sc_Recording_set_state : FnScope N_Recording_set_state ["self", "state"] (defScope s_Recording_set_state) := ⟨rfl, rfl, rfl, by decide +kernel, rfl, by decide +kernel, by decide +kernel⟩
theorem h_Recording_set_state (T : Tx K mg) : HasM P w K mg base CX0 (ga K "Recording") "set_state" 6 ["self", "state"] (spRSet K) :=
  have h_is_tape := h_is_tape (P := P) (w := w) (base := base) T
  T.hasM 31 31 rfl rfl rfl sc_Recording_set_state (fun vs H Q E h => by obtain ⟨r, i, l, ts0, S0, v, S, ts, rfl, _⟩ := h; rfl) rfl (fun | _, _, _, _, _, _, [_, _], _ => rfl) fun cdv A outer s H vs Q E hr h => by
    obtain ⟨r, i, l, ts0, S0, v, S, ts, rfl, hrec, hs0, ⟨a, st, t, us, rfl, ha, hst, ht, hi⟩, hv, hc, ok, h⟩ := h
    refine ⟨_, (pss_cons (ps_if (PW.pt (pw_or (pt_not (pt_val (pe_isB T 4 rfl boot_tupleT (pv 1)))) (pw_or (pt_cmpR op_ne (pe_callB call_len (by rfl) (T.fre 1 _ rfl) PySem.boot_len (pa_cons (pv 1) pa_nil)) pe_int (nomark _)) (pw_or1 (pt_not (pt_val (pe_h h_is_tape (hr.mono (by decide)) pass0 (pa_cons (pe_ix ix_tup (pv 1) pe_int (fun _ _ => rfl)) pa_nil)))))))) (pss_one ps_never) pss_nil) (pss_cons (ps_set (i := 2) sc_Recording_set_state.nd rfl (Or.inl rfl) pe_bl) (pss_cons (ps_try_thru0 (pss_one (ps_expr (pe_poly1 (E := E0) T (pm_set T) (hr.mono (by decide)) (pe_fld (pv 0) rfl) (pa_cons (pe_ix ix_tup (pv 1) pe_int (fun _ _ => rfl)) pa_nil))))) (pss_cons (ps_if (pt_not (pt_val (pv 2))) (pss_one ps_never) pss_nil) (pss_one (ps_fld (pv 0) (pe_callTy call_list_of (by rfl) (T.fre 5 _ rfl) boot_listT (pa_cons (pe_ix ix_tup (pv 1) pe_int (fun _ _ => rfl)) pa_nil)) rfl)))))), ?_⟩
    refine q_when (b := false) (et_is (et_or0 (et_not (et_B (ev_isBtt (ev_var rfl) ha))) (et_or0 (et_test (ev_op (ev_lenT (ev_var rfl) ha) ev_c (rv_ne rfl))) (et_not (et_B (ev_call (ea_cons (ev_ixT (ev_var rfl) ha ev_c rfl) ea_nil) (fun H6 e6 Q' k' E' => ⟨t, us, ts, rfl, e6 _ _ ht, hi.keep (L := []) (Only.ex e6), ok, k'⟩)))))) rfl) (fun q => nomatch q) fun _ H1 e1 => ?_
    refine q_asg (v := .bl true) ev_c fun H2 e2 => ?_
    have e12 := Ex.trans e1 e2
    have hrec2 := hrec.ex e12
    have hs2 := hs0.ex e12
    have ir := rec_ne_src hrec2 hs2
    obtain ⟨dx, us0, hp, hl, hi0⟩ := hrec2
    refine rd_set (fld_i T hp (ev_var rfl)) (ev_ixT (ev_var rfl) (e12 _ _ ha) ev_c rfl) hs2 (hst.ex e12) hv hc fun H3 o3 hs3 => ?_
    have hp3 := o3.keep _ _ hp (fun m => ir (List.mem_singleton.mp m).symm)
    refine q_when (b := false) (et_is (et_not (et_B (ev_var rfl))) rfl) (fun q => nomatch q) fun _ H4 e4 => ?_
    have ht4 := e4 _ _ (o3.tups _ _ (e12 _ _ ht))
    have ha4 := e4 _ _ (o3.tups _ _ (e12 _ _ ha))
    have o04 : Only [i] H H4 := ((Only.ex e12).trans o3).trans (Only.ex e4)
    refine s_fldL (el_listT (ev_ixT (ev_var rfl) ha4 ev_c rfl) ht4) (ev_var rfl) (e4 _ _ hp3) (T.cls 4 _ rfl) (T.noat 7 _ rfl) (Nat.le_of_ble_eq_true rfl) fun b H5 hb o5 hb5 hp5 => ?_
    have o05 : Only [r, i] H H5 := (o04.mono (fun x m => List.mem_cons_of_mem _ m)).trans (o5.mono (fun x m => by rw [List.mem_singleton.mp m]; exact List.mem_cons_self ..))
    refine h b H5 ?_ o05 ⟨dx, us, hp5, hb5, hi.keep o05⟩ ((hs3.ex e4).keep o5 (fun m => ir (List.mem_singleton.mp m)))
    cases z : H b with
    | none => rfl
    | some ob =>
      by_cases c : b = i
      · obtain ⟨dy, fs, s4⟩ := (hs3.ex e4).ins
        rw [c, s4] at hb
        cases hb
      · rw [o04.keep _ _ z (fun m => c (List.mem_singleton.mp m))] at hb
        cases hb
/-! ### along a tape -/
def It.Law : It → Prop
  | .word i => isWord i = true
  | .move n s => (n = "jump" ∨ n = "back") ∧ LawSteps s
theorem It.Law.ok {t : It} (h : t.Law) : t.Ok := by
  cases t with
  | word i => exact h
  | move n s => exact ⟨h.1, h.2.ok⟩
/-- S goes along t to S' -/
def Goes1 (t : It) (S S' : Src) : Prop := match t with
  | .word i => S.next = .ok i S'
  | .move n s => (n = "jump" ∧ S.jump s = .ok () S') ∨ (n = "back" ∧ S.back s = .ok () S')
def spFits (K : PySem.W.Frag) : Sp := fun vs H Q _ => ∃ p S v t S', vs = [.ref p, v] ∧ SrcAt K H p S ∧ S.Valid ∧ ItAt H v t ∧ t.Law ∧ Goes1 t S S' ∧ ∀ H', Only [p] H H' → SrcAt K H' p S' → Q (.bl true) H'
def N_s7_fits : List Str := ["source", "item"]
theorem sc_s7_fits : FnScope N_s7_fits ["source", "item"] (defScope s_s7_fits) := ⟨rfl, rfl, rfl, by decide +kernel, rfl, by decide +kernel, by decide +kernel⟩
theorem h_s7_fits (T : Tx K mg) : Has P w K mg base CX0 "s7_fits" 8 ["source", "item"] (spFits K) :=
  T.has 41 32 rfl rfl rfl sc_s7_fits (fun vs H Q E h => by obtain ⟨p, S, v, t, S', rfl, _⟩ := h; rfl) rfl (fun | _, _, _, _, _, _, [_, _], _ => rfl) fun cdv A outer s H vs Q E hr h => by
    obtain ⟨p, S, v, t, S', rfl, hs, hv, ht, law, go, h⟩ := h
    refine ⟨_, (pss_cons (ps_try_thru0 (pss_cons (ps_if (pt_not (pt_val (pe_isB T 4 rfl boot_tupleT (pv 1)))) (pss_one (ps_ret (pe_cmpR op_eq (pe_poly0 T (pm_next T passL) (hr.mono (by decide)) (pv 0)) (pv 1) (nomark _)))) pss_nil) (pss_one (ps_if (pt_cmpR op_eq (pe_ix ix_tup (pv 1) pe_int (fun _ _ => rfl)) pe_str (nomark _)) (pss_one (ps_expr (pe_poly1 T (pm_jump T passL) (hr.mono (by decide)) (pv 0) (pa_cons (pe_ix ix_tup (pv 1) pe_int (fun _ _ => rfl)) pa_nil)))) (pss_one (ps_expr (pe_poly1 T (pm_back T passL) (hr.mono (by decide)) (pv 0) (pa_cons (pe_ix ix_tup (pv 1) pe_int (fun _ _ => rfl)) pa_nil)))))))) (pss_one (ps_ret pe_bl))), ?_⟩
    cases t with
    | word i =>
      obtain rfl : v = .int i := ht
      refine q_when (b := true) (et_is (et_not (et_B (ev_isBit (ev_var rfl)))) rfl) (fun _ H1 e1 => ?_) (fun q => nomatch q)
      refine rd_next (ev_var rfl) (hs.ex e1) hv ?_
      rw [show S.next = .ok i S' from go]
      intro H2 o2 hs2
      refine ⟨.int i, rfl, rfl, ?_⟩
      rw [decide_eq_true rfl]
      exact h H2 ((Only.ex e1).trans o2) hs2
    | move n st =>
      obtain ⟨a, rfl, ha⟩ := ht
      refine q_when (b := false) (et_is (et_not (et_B (ev_isBtt (ev_var rfl) ha))) rfl) (fun q => nomatch q) (fun _ H1 e1 => ?_)
      have ha1 := e1 _ _ ha
      rcases go with ⟨rfl, go⟩ | ⟨rfl, go⟩
      · refine s_if (b := true) (et_is (et_test (ev_op (ev_ixT (ev_var rfl) ha1 ev_c rfl) ev_c (rv_eq rfl))) (by decide)) (fun _ H2 e2 => ?_) (fun q => nomatch q)
        refine rd_jump (ev_var rfl) (ev_ixT (ev_var rfl) (e2 _ _ ha1) ev_c rfl) (hs.ex (Ex.trans e1 e2)) hv law.2 ?_
        rw [go]
        exact fun H3 o3 hs3 => (s_ret ev_c fun H4 e4 => h H4 (((Only.ex (Ex.trans e1 e2)).trans o3).trans (Only.ex e4)) (hs3.ex e4) : tRet (tC (.bl true)) { nx := fun _ H' => Q .non H', rt := Q } (L2.start N_s7_fits [.ref p, .ref a]) H3)
      · refine s_if (b := false) (et_is (et_test (ev_op (ev_ixT (ev_var rfl) ha1 ev_c rfl) ev_c (rv_eq rfl))) (by decide)) (fun q => nomatch q) (fun _ H2 e2 => ?_)
        refine rd_back (ev_var rfl) (ev_ixT (ev_var rfl) (e2 _ _ ha1) ev_c rfl) (hs.ex (Ex.trans e1 e2)) hv law.2 ?_
        rw [go]
        exact fun H3 o3 hs3 => (s_ret ev_c fun H4 e4 => h H4 (((Only.ex (Ex.trans e1 e2)).trans o3).trans (Only.ex e4)) (hs3.ex e4) : tRet (tC (.bl true)) { nx := fun _ H' => Q .non H', rt := Q } (L2.start N_s7_fits [.ref p, .ref a]) H3)
theorem s_ifNotC {σ : L2.St} {H : Hp} {sp : Sp} {dvs vs : List V} {E : XK} {t : TA} {tu tw : TS} {D : Ends} (h : EvA t σ H vs) (k : ∀ H1, Ex H H1 → sp (vs ++ dvs) H1 (fun x H2 => ∃ c, x = .bl c ∧ if (!c) = true then tu D σ H2 else tw D σ H2) E) : tIfS (tNot (tB (tCall sp dvs E t))) tu tw D σ H := h H (Ex.refl _) _ k
/-- S goes along the tape to S', by good states -/
inductive Goes : List It → Src → Src → Prop where
  | nil (S : Src) : Goes [] S S
  | cons {t : It} {ts : List It} {S S1 S' : Src} (g : Goes1 t S S1) (law : t.Law) (v : S1.Valid) (r : Goes ts S1 S') : Goes (t :: ts) S S'
theorem Goes.at : ∀ {ts : List It} {S S' : Src} {n : Nat} {t : It}, Goes ts S S' → S.Valid → ts[n]? = some t → ∃ S1 S2, Goes (ts.take n) S S1 ∧ S1.Valid ∧ Goes1 t S1 S2 ∧ t.Law ∧ S2.Valid ∧ Goes (ts.take (n + 1)) S S2
  | _, _, _, 0, _, .cons g law v r, hv, e => by
    obtain rfl := Option.some.inj e
    exact ⟨_, _, .nil _, hv, g, law, v, .cons g law v (.nil _)⟩
  | _, _, _, n + 1, _, .cons g law v r, hv, e => by
    obtain ⟨S1, S2, h1, h2, h3, h4, h5, h6⟩ := Goes.at r v e
    exact ⟨S1, S2, .cons g law v h1, h2, h3, h4, h5, .cons g law v h6⟩
  | _, _, _, 0, _, .nil _, _, e => by cases e
  | _, _, _, _ + 1, _, .nil _, _, e => by cases e
theorem Goes1.det {t : It} {S A B : Src} (h : Goes1 t S A) (k : Goes1 t S B) : A = B := by
  cases t with
  | word i =>
    have e := h.symm.trans k
    injection e
  | move n s =>
    rcases h with ⟨rfl, h⟩ | ⟨rfl, h⟩
    · rcases k with ⟨_, k⟩ | ⟨z, _⟩
      · have e := h.symm.trans k
        injection e
      · exact absurd z (by decide)
    · rcases k with ⟨z, _⟩ | ⟨_, k⟩
      · exact absurd z (by decide)
      · have e := h.symm.trans k
        injection e
theorem Goes.det : ∀ {ts : List It} {S A B : Src}, Goes ts S A → Goes ts S B → A = B
  | _, _, _, _, .nil _, .nil _ => rfl
  | _, _, _, _, .cons g _ _ r, .cons g' _ _ r' => by
    obtain rfl := g.det g'
    exact r.det r'
theorem Goes.law : ∀ {ts : List It} {S A : Src}, Goes ts S A → ∀ t, t ∈ ts → t.Law
  | _, _, _, .nil _, _, m => by cases m
  | _, _, _, .cons _ l _ r, t, m => by
    rcases List.mem_cons.mp m with rfl | m
    · exact l
    · exact r.law t m
theorem Its.get {H : Hp} : ∀ {ts : List It} {vs : List V} {n : Nat} {v : V}, Its H ts vs → vs[n]? = some v → ∃ t, ts[n]? = some t ∧ ItAt H v t
  | _, _, _, _, .nil, e => by cases e
  | _, _, 0, _, .cons a _, e => by
    obtain rfl := Option.some.inj e
    exact ⟨_, rfl, a⟩
  | _, _, n + 1, _, .cons _ r, e => Its.get (n := n) r e
def spFirst (K : PySem.W.Frag) : Sp := fun vs H Q _ => ∃ p S a us ts S', vs = [.ref p, .ref a] ∧ SrcAt K H p S ∧ S.Valid ∧ H a = some (.tup us) ∧ Its H ts us ∧ ts.length ≤ 1000 ∧ Goes ts S S' ∧ RetV .non H Q
def N_first_difference : List Str := ["source", "tape", "twin", "place", "item"]
theorem sc_first_difference : FnScope N_first_difference ["source", "tape"] (defScope s_first_difference) := ⟨rfl, rfl, rfl, by decide +kernel, rfl, by decide +kernel, by decide +kernel⟩
theorem h_first_difference (T : Tx K mg) : Has P w K mg base CX0 "first_difference" 9 ["source", "tape"] (spFirst K) :=
  have h_need_source := h_need_source (P := P) (w := w) (base := base) T
  have h_need_tape := h_need_tape (P := P) (w := w) (base := base) T
  have h_s7_fits := h_s7_fits (P := P) (w := w) (base := base) T
  T.has 42 33 rfl rfl rfl sc_first_difference (fun vs H Q E h => by obtain ⟨p, S, a, us, ts, S', rfl, _⟩ := h; rfl) rfl (fun | _, _, _, _, _, _, [_, _], _ => rfl) fun cdv A outer s H vs Q E hr h => by
    obtain ⟨p, S, a, us, ts, S', rfl, hs, hv, ha, hi, len, go, h⟩ := h
    refine ⟨_, (pss_cons (ps_expr (pe_h h_need_source (hr.mono (by decide)) pass0 (pa_cons (pv 0) pa_nil))) (pss_cons (ps_expr (pe_h h_need_tape (hr.mono (by decide)) pass0 (pa_cons (pv 1) pa_nil))) (pss_cons (ps_set (i := 2) sc_first_difference.nd rfl (Or.inl rfl) (pe_poly0 (E := E0) T (pm_copy T) (hr.mono (by decide)) (pv 0))) (pss_cons (ps_for PassesOwn.never rfl (pi_et (by rfl) (T.fre 6 _ rfl) (pa_cons (pv 1) pa_nil)) (pg_tup rfl (pgs_cons (pg_name (i := 3) sc_first_difference.nd rfl (Or.inl rfl)) (pgs_cons (pg_name (i := 4) sc_first_difference.nd rfl (Or.inl rfl)) pgs_nil))) (pss_one (ps_if (pt_not (pt_val (pe_h h_s7_fits (hr.mono (by decide)) pass0 (pa_cons (pv 2) (pa_cons (pv 4) pa_nil))))) (pss_one (ps_ret (pv 3))) pss_nil))) (pss_one (ps_ret pe_non)))))), ?_⟩
    refine q_drop (v := .non) (ev_call (ea_cons (ev_var rfl) ea_nil) (fun H6 e6 Q' k' E' => ⟨p, S, rfl, hs.ex e6, k'⟩)) fun H1 e1 => ?_
    refine q_drop (v := .non) (ev_call (ea_cons (ev_var rfl) ea_nil) (fun H6 e6 Q' k' E' => ⟨a, us, ts, rfl, e6 _ _ (e1 _ _ ha), hi.keep (L := []) (Only.ex (Ex.trans e1 e6)), ⟨len, fun t m => (go.law t m).ok⟩, k'⟩)) fun H2 e2 => ?_
    have e12 := Ex.trans e1 e2
    refine rd_copy (ev_var rfl) (hs.ex e12) hv fun x H3 hx e3 hs3 => ?_
    have e13 := Ex.trans e12 e3
    have hl := hi.len
    refine q_forEt (ev_var rfl) (e13 _ _ ha) (fun n σ' H' => Only [x] H3 H' ∧ Ex H H' ∧ (∃ S1, Goes (ts.take n) S S1 ∧ SrcAt K H' x S1) ∧ ∃ y z, σ' = [some (.ref p), some (.ref a), some (.ref x), y, z]) (fun H4 e4 => ⟨Only.ex e4, Ex.trans e13 e4, ⟨S, .nil _, hs3.ex e4⟩, none, none, rfl⟩) (fun n σ' H' W => W.2.1 _ _ ha) (fun n v T σ' H4 hv' W hT => ?_) (fun σ' H4 W => ?_)
    · obtain ⟨o4, e4, ⟨S1, g1, hs4⟩, y, z, rfl⟩ := W
      obtain ⟨t, ht, hvt⟩ := hi.get hv'
      obtain ⟨S1', S2, k1, k2, k3, k4, k5, k6⟩ := go.at hv ht
      obtain rfl := g1.det k1
      have e5 : Ex H4 (upd H4 T (.tup [.int (n : Nat), v])) := Ex.new hT
      refine ⟨T, [.int (n : Nat), v], rfl, SqT.of upd_same, rfl, .int (n : Nat), [v], rfl, v, [], rfl, rfl, ?_⟩
      have hs5 := hs4.ex e5
      refine s_ifNotC (ea_cons (ev_var rfl) (ea_cons (ev_var rfl) ea_nil)) fun H6 e6 => ⟨x, S1, v, t, S2, rfl, hs5.ex e6, k2, hvt.keep (L := []) (Only.ex (Ex.trans (Ex.trans e4 e5) e6)), k4, k3, fun H7 o7 hs7 => ?_⟩
      refine ⟨true, rfl, ?_⟩
      rw [if_neg (by decide)]
      have o47 : Only [x] H4 H7 := (Only.ex (Ex.trans e5 e6)).trans o7
      refine ⟨o4.trans o47, ?_, ⟨S2, k6, hs7⟩, _, _, rfl⟩
      exact ((Only.ex (L := [x]) e13).trans (o4.trans o47)).new fun y m => by rw [List.mem_singleton.mp m]; exact fresh_back e12 hx
    · obtain ⟨o4, e4, _, y, z, rfl⟩ := W
      exact s_ret ev_c fun H5 e5 => h H5 (Ex.trans e4 e5)
end
end Kx
set_option Elab.async false
set_option linter.all false
set_option maxRecDepth 100000
set_option maxHeartbeats 2000000
namespace Kx
open PySem PySem.Spec PyProof.Rows L2 Evl
open He (ga ma)
theorem Only.dK {H : Hp} {p : Addr} {kvs : List (Key × V)} {o : HO} (h : H p = some (.dK kvs)) : Only [p] H (L2.upd H p o) := Only.upd (not_tup h fun _ e => by cases e)
/-! ### dicts as targets, loops over enumerate(list) -/
def rSetD : TSet := fun o i v H Q => ∃ a H', o = .ref a ∧ DPut H a i v H' ∧ Q H'
theorem set_dict {X : Cx} (hu : X.A.units + 1 < cLine) : PSet X rSetD := by
  intro pins s σ H o i v ov iv u Q I ro ri rv h
  obtain ⟨a, H', rfl, g, q⟩ := h
  cases ro
  exact d_setItem hu I g ri rv fun s' I' => ⟨H', I', q⟩
section
variable {K : PySem.W.Frag} {σ : L2.St} {H H1 : Hp} {te tb tl ta : TE} {t : TT} {j : Nat} {vs : List Nat} {a : Addr} {g : TG} {tu tz : TS} {D : Ends}
theorem q_forEn {xs : List V} (h : Ev te σ H (.ref a)) (hx : SqL K H a xs) (Pv : Nat → L2.St → Hp → Prop) (h0 : ∀ H1, Ex H H1 → Pv 0 σ H1) (hl : ∀ i σ' H', Pv i σ' H' → SqL K H' a xs)
    (hs : ∀ i x T σ' H', xs[i]? = some x → Pv i σ' H' → H' T = none → g (.ref T) σ' (upd H' T (.tup [.int (i : Nat), x])) fun σ2 H2 => tu { D with nx := Pv (i + 1), ct := Pv (i + 1), bk := tz D } σ2 H2) (hd : ∀ σ' H', Pv xs.length σ' H' → tz D σ' H') :
    tSeq (tFor (iEnum K (tCons te tNil)) g tu) tz D σ H := by
  refine h H (Ex.refl _) _ fun H1 e1 => ⟨a, xs, rfl, ex_l e1 hx, fun i m σ' H' => Pv i σ' H' ∧ m = xs.length - i ∧ i ≤ xs.length, ⟨_, h0 H1 e1, rfl, Nat.zero_le _⟩, fun i m σ' H' W => ?_⟩
  obtain ⟨pv, rfl, le⟩ := W
  by_cases c : i < xs.length
  · refine .inr ⟨⟨xs, xs[i], hl _ _ _ pv, List.getElem?_eq_getElem c⟩, Pv (i + 1), fun σ2 H2 p => ⟨xs.length - (i + 1), by omega, p, rfl, by omega⟩, fun v H2 y => ?_⟩
    obtain ⟨T, x, rfl, hT, rfl, hx2⟩ := y
    exact hs i x T σ' H' (hx2 xs (hl _ _ _ pv)) pv hT
  · have e : i = xs.length := by omega
    subst e
    exact .inl ⟨⟨xs, hl _ _ _ pv, Nat.le_refl _⟩, hd _ _ pv⟩
/-- [.. for x in l ..] over a list that is to be read -/
theorem lc_s {xs : List V} (p : V → Bool) (g : V → V) (h : Ev tl σ H (.ref a)) (hx : SqL K H a xs) (hz : xs.length ≤ 40000) (hw : ∀ x, wipe ((wipe σ vs).set j (some x)) vs = wipe σ vs)
    (ht : ∀ x, x ∈ xs → ∀ H1, Ex H H1 → EvT t ((wipe σ vs).set j (some x)) H1 (p x)) (he : ∀ x, x ∈ xs → ∀ H1, Ex H H1 → p x = true → Ev te ((wipe σ vs).set j (some x)) H1 (g x)) :
    EvL (tLc (iList K tl) (gName j) t te vs) σ H ((xs.filter p).map g) := by
  intro H0 e Q q
  refine h H0 e _ fun H1 e1 => ⟨a, rfl, ⟨xs, ex_l (e.trans e1) hx⟩, fun D hD => ?_⟩
  refine lc_list (xs := xs) (fun i H' => CI H1 D (((xs.take i).filter p).map g) H') ⟨hD, Ex.new hD, upd_same⟩ (fun i H' _ c => ex_l c.ex (ex_l (e.trans e1) hx)) (fun i x H' hi c => ?_) (fun H' c => ?_)
  · have m : x ∈ xs := List.mem_of_getElem? hi
    exact ⟨hw x, c.turn (take_size p g xs i hz) (ht x m H1 (e.trans e1)) (he x m H1 (e.trans e1)) (take_step p g hi)⟩
  · refine q D H' (fresh_back e1 c.new) (e1.trans c.ex) ?_
    have z := c.at_
    rw [List.take_length] at z
    exact z
theorem ev_lenS {xs : List V} (h : Ev te σ H (.ref a)) (k : SqL K H a xs) : Ev (tCB (fun xs H Q => ∃ x n, xs = [x] ∧ LenV K x H n ∧ Q (.int n) H) (tCons te tNil)) σ H (.int (xs.length : Nat)) :=
  fun H1 e Q q => h H1 e _ fun H2 e2 => ⟨.ref a, xs.length, rfl, .inl ⟨xs, ex_l (e.trans e2) k, rfl⟩, q H2 e2⟩
/-- d[k] -/
theorem ev_dget {kvs : List (Key × V)} {k : Key} {v : V} (h : Ev ta σ H (.ref a)) (hk : Ev tb σ H (kV k)) (hd : H a = some (.dK kvs)) (hv : valV kvs k = some v) : Ev (tDGet ta tb) σ H v :=
  fun H1 e Q q => h H1 e _ fun H2 e2 => hk H2 (e.trans e2) _ fun H3 e3 => ⟨a, v, rfl, by rw [← hv]; exact DGet.k (((e.trans e2).trans e3) _ _ hd), q H3 (e2.trans e3)⟩
/-- d[k] = e -/
theorem q_dput {kvs : List (Key × V)} {k : Key} {v : V} (h : Ev te σ H v) (ho : Ev ta σ H (.ref a)) (hk : Ev tb σ H (kV k)) (hd : H a = some (.dK kvs)) (l : kvs.length < 1000) (q : ∀ H1, Ex H H1 → tz D σ (upd H1 a (.dK (putK kvs k v)))) : tSeq (sDPut ta tb te) tz D σ H :=
  h H (Ex.refl _) _ fun H1 e1 => ho H1 e1 _ fun H2 e2 => hk H2 (e1.trans e2) _ fun H3 e3 => ⟨a, _, rfl, DPut.k (((e1.trans e2).trans e3) _ _ hd) (small1000 (Nat.le_of_lt l)), q H3 ((e1.trans e2).trans e3)⟩
/-- max, min of two ints -/
theorem ev_max {i k : Int} (h : Ev ta σ H (.int i)) (h2 : Ev tb σ H (.int k)) : Ev (tCB (fun xs H Q => ∃ i j, xs = [.int i, .int j] ∧ Q (.int (if j > i then j else i)) H) (tCons ta (tCons tb tNil))) σ H (.int (if k > i then k else i)) :=
  fun H1 e Q q => h H1 e _ fun H2 e2 => h2 H2 (e.trans e2) _ fun H3 e3 => ⟨i, k, rfl, q H3 (e2.trans e3)⟩
theorem ev_min {i k : Int} (h : Ev ta σ H (.int i)) (h2 : Ev tb σ H (.int k)) : Ev (tCB (fun xs H Q => ∃ i j, xs = [.int i, .int j] ∧ Q (.int (if j < i then j else i)) H) (tCons ta (tCons tb tNil))) σ H (.int (if k < i then k else i)) :=
  fun H1 e Q q => h H1 e _ fun H2 e2 => h2 H2 (e.trans e2) _ fun H3 e3 => ⟨i, k, rfl, q H3 (e2.trans e3)⟩
end
/-- {a: v, b: [..], c: u} -/
theorem rd_disp3 {σ : L2.St} {H : Hp} {t1 t2 t3 : TE} {a b c : Str} {v u : V} {xs : List V} {Q : VK} (h1 : Ev t1 σ H v) (h2 : EvL t2 σ H xs) (h3 : Ev t3 σ H u) (hm : ∀ g, mergeK [] [(Sum.inr a, v), (Sum.inr b, .ref g), (Sum.inr c, u)] = [(Sum.inr a, v), (Sum.inr b, .ref g), (Sum.inr c, u)])
    (k : ∀ d g H', Ex H H' → H d = none → H g = none → H' d = some (.dK [(Sum.inr a, v), (Sum.inr b, .ref g), (Sum.inr c, u)]) → H' g = some (.lst xs) → Q (.ref d) H') : tDisp [(tC (.str a), t1), (tC (.str b), t2), (tC (.str c), t3)] σ H Q := by
  intro d hd
  have e0 : Ex H (upd H d (.dK [])) := Ex.new hd
  refine h1 _ e0 _ fun H1 e1 => h2 H1 (e0.trans e1) _ fun g H2 hg e2 hg2 => h3 H2 ((e0.trans e1).trans e2) _ fun H3 e3 => ?_
  have e03 := ((e0.trans e1).trans e2).trans e3
  have gd : g ≠ d := fun z => by
    have : H1 d = some (.dK []) := e1 _ _ upd_same
    rw [z, this] at hg
    cases hg
  refine ⟨(e1.trans (e2.trans e3)) _ _ upd_same, [(Sum.inr a, v), (Sum.inr b, .ref g), (Sum.inr c, u)], rfl, Nat.le_of_ble_eq_true rfl, ?_⟩
  rw [hm g]
  refine k d g _ (Ex.mut e03 hd) hd (fresh_back (e0.trans e1) hg) upd_same ?_
  rw [upd_ne gd]
  exact e3 _ _ hg2
/-- d[k], x = v, y -/
theorem q_asgTS {K : PySem.W.Frag} {te ta tb : TE} {σ : L2.St} {H : Hp} {D : Ends} {tz : TS} {v y : V} {a : Addr} {k : Key} {kvs : List (Key × V)} {i : Nat} (h : EvW te σ H [v, y]) (h1 : ∀ H', Ev ta σ H' (.ref a)) (h2 : ∀ H', Ev tb σ H' (kV k)) (hd : H a = some (.dK kvs)) (l : kvs.length < 1000)
    (q : ∀ H1, Only [a] H H1 → H1 a = some (.dK (putK kvs k v)) → tz D (σ.set i (some y)) H1) : tSeq (tAsg te (gTup K 2 (gCons (gSub ta tb rSetD) (gCons (gName i) gNil)))) tz D σ H :=
  h H (Ex.refl _) _ fun t H1 e1 ht => ⟨t, [v, y], rfl, SqT.of ht, rfl, v, [y], rfl, h1 H1 H1 (Ex.refl _) _ fun H2 e2 => h2 H2 H2 (Ex.refl _) _ fun H3 e3 => ⟨a, _, rfl, DPut.k (((e1.trans e2).trans e3) _ _ hd) (small1000 (Nat.le_of_lt l)), y, [], rfl, rfl,
    q _ ((Only.ex ((e1.trans e2).trans e3)).trans (Only.dK (((e1.trans e2).trans e3) _ _ hd))) upd_same⟩⟩
/-- return l[i], l a new list, i anything -/
theorem s_retIxL {K : PySem.W.Frag} {te tb : TE} {σ : L2.St} {H : Hp} {D : Ends} {xs : List V} (h : EvL te σ H xs) (k : ∀ p H1, H p = none → Ex H H1 → H1 p = some (.lst xs) → ∀ Q' : VK, (∀ (i : Int) H2, H2 p = some (.lst xs) → (∃ v, atI xs i = some v ∧ D.rt v H2) → Q' (.int i) H2) → tb σ H1 Q') : tRet (tOp (rIxL K) te tb) D σ H :=
  h H (Ex.refl _) _ fun p H1 hp e1 hp1 => k p H1 hp e1 hp1 _ fun i H2 hp2 z => by
    obtain ⟨v, hv, q⟩ := z
    exact ⟨p, xs, i, v, rfl, rfl, SqL.of hp2, hv, q⟩
/-- x = a op (what is not plain) -/
theorem s_asgOp {r : R2} {ta tb : TE} {σ : L2.St} {H : Hp} {D : Ends} {g : TG} {v : V} (h : Ev ta σ H v) (k : ∀ H1, Ex H H1 → tb σ H1 fun y H2 => r v y H2 fun z H3 => g z σ H3 D.nx) : tAsg (tOp r ta tb) g D σ H := h H (Ex.refl _) _ k
/-- target = l[i], l a new list, i anything -/
theorem q_asgIx {K : PySem.W.Frag} {te tb : TE} {σ : L2.St} {H : Hp} {D : Ends} {g : TG} {tz : TS} {xs : List V} (h : EvL te σ H xs) (k : ∀ p H1, H p = none → Ex H H1 → H1 p = some (.lst xs) → ∀ Q' : VK, (∀ (i : Int) v H2, H2 p = some (.lst xs) → atI xs i = some v → g v σ H2 (tz D) → Q' (.int i) H2) → tb σ H1 Q') : tSeq (tAsg (tOp (rIxL K) te tb) g) tz D σ H :=
  h H (Ex.refl _) _ fun p H1 hp e1 hp1 => k p H1 hp e1 hp1 _ fun i v H2 hp2 hv q => ⟨p, xs, i, v, rfl, rfl, SqL.of hp2, hv, q⟩
/-! ### the draw -/
def kMix : Key := Sum.inr "mixed"
def kGrt : Key := Sum.inr "great"
def kTrn : Key := Sum.inr "turn"
def DrawAt (H : Hp) (d g : Addr) : Prop := ∃ (m t : Int) (gs : List Int), H d = some (.dK [(kMix, .int m), (kGrt, .ref g), (kTrn, .int t)]) ∧ H g = some (.lst (iV gs)) ∧ gs.length ≤ 1000
theorem DrawAt.keep {H H' : Hp} {d g : Addr} {L : List Addr} (h : DrawAt H d g) (o : Only L H H') (n1 : d ∉ L) (n2 : g ∉ L) : DrawAt H' d g := by
  obtain ⟨m, t, gs, h1, h2, h3⟩ := h
  exact ⟨m, t, gs, o.keep _ _ h1 n1, o.keep _ _ h2 n2, h3⟩
theorem DrawAt.ex {H H' : Hp} {d g : Addr} (h : DrawAt H d g) (e : Ex H H') : DrawAt H' d g := h.keep (Only.ex (L := []) e) (by simp) (by simp)
end Kx
set_option Elab.async false
set_option linter.all false
set_option maxRecDepth 100000
set_option maxHeartbeats 2000000
namespace Kx
open PySem PySem.Spec PyProof.Rows L2 Evl
open He (ga ma)
section
variable {P : Program} {w : World} {K : PySem.W.Frag} {mg : Str → Option Value} {base : Heap}
/-! ### the law's own defs -/
def stirIt (ns : List Int) : Nat → Int
  | 0 => 32452843 + 41 * (ns.length : Int)
  | i + 1 => (stirIt ns i * 998244353 + ns.getD i 0 + 104723 * (i : Int)) % 2305843009213693951
theorem great_eq (ns : List Int) : ((iV ns).filter fun x => match x with | .int i => decide (10 ^ (18 : Int).toNat ≤ i) | _ => false).map (fun x => x) = iV (ns.filter fun i => decide (10 ^ (18 : Int).toNat ≤ i)) := by
  rw [List.map_id']
  induction ns with
  | nil => rfl
  | cons x r ih =>
    show (V.int x :: iV r).filter _ = iV ((x :: r).filter _)
    rw [List.filter_cons, List.filter_cons]
    by_cases c : decide ((10 : Int) ^ (18 : Int).toNat ≤ x) = true
    · rw [if_pos c, if_pos c, ih]
      rfl
    · rw [if_neg c, if_neg c, ih]
theorem draw_merge {a b c : V} : mergeK [] [(kMix, a), (kGrt, b), (kTrn, c)] = [(kMix, a), (kGrt, b), (kTrn, c)] := by
  rfl
def N_law_begun : List Str := ["_law_script", "_law_stirred", "_law_k", "_law_cell"]
theorem sc_law_begun : FnScope N_law_begun ["_law_script"] (defScope s_law_begun) := ⟨rfl, rfl, rfl, by decide +kernel, rfl, by decide +kernel, by decide +kernel⟩
def sp_begun (K : PySem.W.Frag) : Sp := fun vs H Q _ => ∃ a ns, vs = [.ref a] ∧ SqL K H a (iV ns) ∧ ns.length ≤ 63 ∧ ∀ d g H', Ex H H' → H d = none → H g = none → DrawAt H' d g → Q (.ref d) H'
theorem h_law_begun (T : Tx K mg) : Has P w K mg base CX0 "_law_begun" 1 ["_law_script"] (sp_begun K) :=
  T.has 92 59 rfl rfl rfl sc_law_begun (fun vs H Q E h => by obtain ⟨a, ns, rfl, _⟩ := h; rfl) rfl (fun | _, _, _, _, _, _, [_], _ => rfl) fun cdv A outer s H vs Q E hr h => by
    obtain ⟨a, ns, rfl, ha, len, h⟩ := h
    refine ⟨_, (pss_cons (ps_set (i := 1) sc_law_begun.nd rfl (Or.inl rfl) (pe_op op_add pe_int (pe_op (op_mulL (m := 41) (by decide) (by decide)) pe_int (pe_callB call_len (by rfl) (T.fre 1 _ rfl) PySem.boot_len (pa_cons (pv 0) pa_nil))))) (pss_cons (ps_for PassesOwn.never rfl (pi_enum (by rfl) (T.fre 6 _ rfl) (pa_cons (pv 0) pa_nil)) (pg_tup rfl (pgs_cons (pg_name (i := 2) sc_law_begun.nd rfl (Or.inl rfl)) (pgs_cons (pg_name (i := 3) sc_law_begun.nd rfl (Or.inl rfl)) pgs_nil))) (pss_one (ps_set (i := 1) sc_law_begun.nd rfl (Or.inl rfl) (pe_op (op_modK (m := 2305843009213693951) (by decide)) (pe_op op_add (pe_op op_add (pe_op (op_mulK (m := 998244353) (by decide) (by decide)) (pv 1) pe_int) (pv 3)) (pe_op (op_mulL (m := 104723) (by decide) (by decide)) pe_int (pv 2))) pe_int)))) (pss_one (ps_ret (pe_disp (pps_cons pe_str (pv 1) (pps_cons pe_str (pe_lc (own := [("_law_cell", 3)]) (g := gName 3) rfl sc_law_begun.nd (pi_list (pv 0)) (blkOk_by (own := [("_law_cell", 3)]) (N := N_law_begun) (sc := defScope s_law_begun) (by decide +kernel)) (fun _ _ _ _ _ => pg_name (i := 3) sc_law_begun.nd rfl (Or.inl rfl)) (fun _ _ _ _ _ => pts_one (pt_cmpR op_ge (pv 3) (pe_op op_pow pe_int pe_int) (nomark _))) (fun _ _ _ _ _ => (pv 3))) (pps_cons pe_str pe_int pps_nil))) (by rfl) (by rfl) (fun z => by cases z) (by decide)))))), ?_⟩
    refine q_asg (v := .int (stirIt ns 0)) (ev_is (ev_op ev_c (ev_op ev_c (ev_lenS (ev_var rfl) ha) rv_mulL) rv_I0) (by rw [iV_len]; rfl)) fun H1 e1 => ?_
    refine q_forEn (ev_var rfl) (ex_l e1 ha) (fun i σ' H' => Ex H H' ∧ ∃ x y, σ' = [some (.ref a), some (.int (stirIt ns i)), x, y]) (fun H2 e2 => ⟨Ex.trans e1 e2, none, none, rfl⟩) (fun i σ' H' W => ex_l W.1 ha) (fun i x tt σ' H2 hx W hT => ?_) (fun σ' H2 W => ?_)
    · obtain ⟨e2, x0, y0, rfl⟩ := W
      have lt : i < ns.length := by
        have := (List.getElem?_eq_some_iff.mp hx).1
        rw [iV_len] at this
        exact this
      have hx' : x = .int (ns.getD i 0) := by
        rw [List.getElem?_map, List.getElem?_eq_getElem lt] at hx
        rw [List.getD_eq_getElem?_getD, List.getElem?_eq_getElem lt]
        exact (Option.some.inj hx).symm
      subst hx'
      have e3 : Ex H2 (upd H2 tt (.tup [.int (i : Nat), .int (ns.getD i 0)])) := Ex.new hT
      refine ⟨tt, [.int (i : Nat), .int (ns.getD i 0)], rfl, SqT.of upd_same, rfl, .int (i : Nat), _, rfl, .int (ns.getD i 0), [], rfl, rfl, ?_⟩
      refine s_asg (v := .int (stirIt ns (i + 1))) ?_ fun H4 e4 => ⟨Ex.trans (Ex.trans e2 e3) e4, _, _, rfl⟩
      exact ev_is (ev_op (ev_op (ev_op (ev_op (ev_var rfl) ev_c rv_mulK) (ev_var rfl) rv_I0) (ev_op ev_c (ev_var rfl) rv_mulL) rv_I0) ev_c rv_modK) rfl
    · obtain ⟨e2, x0, y0, rfl⟩ := W
      refine rd_disp3 (v := .int (stirIt ns ns.length)) (u := .int 0) (xs := iV (ns.filter fun i => decide (10 ^ (18 : Int).toNat ≤ i))) ?_ (el_is (lc_s _ (fun x => x) (ev_var rfl) (ex_l e2 ha) (by rw [iV_len]; omega) (fun x => rfl) (fun x m H4 e4 => ?_) (fun x m H4 e4 _ => ev_var rfl)) (great_eq ns)) ev_c (fun g => draw_merge) fun d g H4 e4 hd hg hd4 hg4 => h d g H4 (Ex.trans e2 e4) (fresh_back e2 hd) (fresh_back e2 hg) ⟨_, _, _, hd4, hg4, ?_⟩
      · exact ev_var (by rw [← iV_len (ws := ns)]; rfl)
      · obtain ⟨i, _, rfl⟩ := mem_iV m
        exact et_test (ev_op (ev_var rfl) (ev_op ev_c ev_c (rv_I (cpow (by decide) (by decide) (by decide)))) rv_I0)
      · have := List.length_filter_le (fun i => decide ((10 : Int) ^ (18 : Int).toNat ≤ i)) ns
        omega
end
end Kx
set_option Elab.async false
set_option linter.all false
set_option maxRecDepth 100000
set_option maxHeartbeats 2000000
namespace Kx
open PySem PySem.Spec PyProof.Rows L2 Evl
open He (ga ma)
section
variable {P : Program} {w : World} {K : PySem.W.Frag} {mg : Str → Option Value} {base : Heap}
theorem ds_t (H : Hp) {d : Addr} {m t : Int} {g : V} (h : H d = some (.dK [(kMix, .int m), (kGrt, g), (kTrn, .int t)])) {σ : L2.St} {te : TE} (he : Ev te σ H (.ref d)) : Ev (tDGet te (tC (.str "turn"))) σ H (.int t) := ev_dget (k := kTrn) he ev_c h rfl
theorem ds_g (H : Hp) {d : Addr} {m t : Int} {g : V} (h : H d = some (.dK [(kMix, .int m), (kGrt, g), (kTrn, .int t)])) {σ : L2.St} {te : TE} (he : Ev te σ H (.ref d)) : Ev (tDGet te (tC (.str "great"))) σ H g := ev_dget (k := kGrt) he ev_c h rfl
theorem ds_m (H : Hp) {d : Addr} {m t : Int} {g : V} (h : H d = some (.dK [(kMix, .int m), (kGrt, g), (kTrn, .int t)])) {σ : L2.St} {te : TE} (he : Ev te σ H (.ref d)) : Ev (tDGet te (tC (.str "mixed"))) σ H (.int m) := ev_dget (k := kMix) he ev_c h rfl
theorem put_t {a b c v : V} : putK [(kMix, a), (kGrt, b), (kTrn, c)] kTrn v = [(kMix, a), (kGrt, b), (kTrn, v)] := rfl
theorem put_m {a b c v : V} : putK [(kMix, a), (kGrt, b), (kTrn, c)] kMix v = [(kMix, v), (kGrt, b), (kTrn, c)] := rfl
/-- a number is drawn below the int -/
def RetD (d g : Addr) (C : V → Prop) (H : Hp) (Q : VK) : Prop := ∀ v H', C v → Only [d, g] H H' → DrawAt H' d g → Q v H'
theorem RetD.back {d g : Addr} {C : V → Prop} {H H1 : Hp} {Q : VK} (h : RetD d g C H Q) (e : Ex H H1) : RetD d g C H1 Q := fun v H' c o => h v H' c ((Only.ex e).trans o)
theorem RetD.go {d g : Addr} {C : V → Prop} {H H1 : Hp} {Q : VK} (h : RetD d g C H Q) (o : Only [d, g] H H1) : RetD d g C H1 Q := fun v H' c o2 => h v H' c (o.trans o2)
def Below (b : Int) (v : V) : Prop := ∃ i, v = .int i ∧ 0 ≤ i ∧ i < b
def spDraw (lim : Int) : Sp := fun vs H Q _ => ∃ d g b, vs = [.ref d, .int b] ∧ DrawAt H d g ∧ (1 ≤ b ∧ b ≤ lim) ∧ RetD d g (Below b) H Q
def N_law_next : List Str := ["_law_draw", "_law_below", "_law_great", "_law_at", "_law_found", "_law_stirred"]
theorem sc_law_next : FnScope N_law_next ["_law_draw", "_law_below"] (defScope s_law_next) := ⟨rfl, rfl, rfl, by decide +kernel, rfl, by decide +kernel, by decide +kernel⟩
theorem h_law_next (T : Tx K mg) : Has P w K mg base CX0 "_law_next" 1 ["_law_draw", "_law_below"] (spDraw 65536) :=
  T.has 93 60 rfl rfl rfl sc_law_next (fun vs H Q E h => by obtain ⟨a, g, b, rfl, _⟩ := h; rfl) rfl (fun | _, _, _, _, _, _, [_, _], _ => rfl) fun cdv A outer s H vs Q E hr h => by
    obtain ⟨d, g, b, rfl, ⟨m, t, gs, hd, hg, len⟩, ⟨b1, b2⟩, h⟩ := h
    refine ⟨_, (pss_cons (ps_asg (pe_tup (pa_cons (pe_op op_add (pe_dget (hu_of hr) (pv 0) pe_str (fun _ _ => rfl)) pe_int) (pa_cons (pe_dget (hu_of hr) (pv 0) pe_str (fun _ _ => rfl)) pa_nil))) (pg_tup rfl (pgs_cons (pg_sub (pv 0) pe_str (set_dict (hu_of hr))) (pgs_cons (pg_name (i := 2) sc_law_next.nd rfl (Or.inl rfl)) pgs_nil)))) (pss_cons (ps_set (i := 3) sc_law_next.nd rfl (Or.inl rfl) (pe_op op_mod (pe_dget (hu_of hr) (pv 0) pe_str (fun _ _ => rfl)) (pe_callB (call_max2 rfl) (by rfl) (T.fre 8 _ rfl) boot_maxB (pa_cons pe_int (pa_cons (pe_callB call_len (by rfl) (T.fre 1 _ rfl) PySem.boot_len (pa_cons (pv 2) pa_nil)) pa_nil))))) (pss_cons (ps_if (PW.pt (pw_and (pt_cmpR (op_neD hr.units) (pv 2) (pe_lst pa_nil) (nomark _)) (pw_and1 (pt_cmpR op_gt (pe_ix ix_list (pv 2) (pv 3) (fun _ _ => rfl)) pe_int (nomark _))))) (pss_cons (ps_set (i := 4) sc_law_next.nd rfl (Or.inl rfl) (pe_op op_mod (pe_ix ix_list (pv 2) (pv 3) (fun _ _ => rfl)) (pv 1))) (pss_cons (ps_asg (pe_op op_fdiv (pe_ix ix_list (pv 2) (pv 3) (fun _ _ => rfl)) (pv 1)) (pg_sub (pv 2) (pv 3) set_list)) (pss_one (ps_ret (pv 4))))) pss_nil) (pss_cons (ps_set (i := 5) sc_law_next.nd rfl (Or.inl rfl) (pe_op op_add (pe_op op_add (pe_op (op_mulK (m := 6364136223846793) (by decide) (by decide)) (pe_dget (hu_of hr) (pv 0) pe_str (fun _ _ => rfl)) pe_int) (pe_op (op_mulL (m := 1442695040888963) (by decide) (by decide)) pe_int (pe_dget (hu_of hr) (pv 0) pe_str (fun _ _ => rfl)))) pe_int)) (pss_cons (ps_dput (hu_of hr) (pv 0) pe_str (pe_op (op_modK (m := 2305843009213693951) (by decide)) (pv 5) pe_int) rfl) (pss_one (ps_ret (pe_op op_mod (pe_op (op_fdivK (m := 32749) (by decide) (by decide)) (pe_dget (hu_of hr) (pv 0) pe_str (fun _ _ => rfl)) pe_int) (pv 1))))))))), ?_⟩
    have gd : g ≠ d := fun z => by rw [z, hd] at hg; cases hg
    have od : d ∈ [d, g] := List.mem_cons_self ..
    have og : g ∈ [d, g] := List.mem_cons_of_mem _ (List.mem_cons_self ..)
    have o1 : ∀ {x : Addr} {A B : Hp}, x ∈ [d, g] → Only [x] A B → Only [d, g] A B := fun hx o => o.mono fun y m => by rw [List.mem_singleton.mp m]; exact hx
    refine q_asgTS (v := .int (t + 1)) (y := .ref g) (a := d) (k := kTrn) (ew_tup (ea_cons (ev_op (ds_t H hd (ev_var rfl)) ev_c rv_I0) (ea_cons (ds_g H hd (ev_var rfl)) ea_nil)) (Nat.le_of_ble_eq_true rfl)) (fun _ => ev_var rfl) (fun _ => ev_c) hd (Nat.le_of_ble_eq_true rfl) fun H1 p1 hd1 => ?_
    rw [put_t] at hd1
    have hg1 := p1.keep _ _ hg (fun z => gd (List.mem_singleton.mp z))
    have hn : (0 : Int) < (if ((gs.length : Nat) : Int) > 1 then ((gs.length : Nat) : Int) else 1) := by split <;> omega
    refine q_asg (v := .int ((t + 1) % (if ((gs.length : Nat) : Int) > 1 then ((gs.length : Nat) : Int) else 1))) ?_ fun H2 e2 => ?_
    · refine ev_op (ds_t H1 hd1 (ev_var rfl)) (ev_is (ev_max ev_c (ev_lenL (ev_var rfl) hg1)) ?_) (rv_I hn)
      rw [iV_len]
    generalize hat : (t + 1) % (if ((gs.length : Nat) : Int) > 1 then ((gs.length : Nat) : Int) else 1) = at_
    have at0 : 0 ≤ at_ := by rw [← hat]; exact Int.emod_nonneg _ (by omega)
    have atn : gs ≠ [] → at_ < gs.length := by
      intro ne
      have l1 : 0 < gs.length := List.length_pos_iff.mpr ne
      have := Int.emod_lt_of_pos (t + 1) hn
      rw [hat] at this
      split at this <;> omega
    have hd2 := e2 _ _ hd1
    have hg2 := e2 _ _ hg1
    have o2 : Only [d, g] H H2 := (o1 od p1).trans (Only.ex e2)
    have atc : ((at_.toNat : Nat) : Int) = at_ := by omega
    have item : gs ≠ [] → (iV gs)[at_.toNat]? = some (.int (gs.getD at_.toNat 0)) := fun ne => by
      have lt : at_.toNat < gs.length := by have := atn ne; omega
      rw [List.getElem?_map, List.getElem?_eq_getElem lt, List.getD_eq_getElem?_getD, List.getElem?_eq_getElem lt]
      rfl
    have neE : ∀ z, (!PyData.eqv (.list (gs.map PyData.int)) (.list [])) = z → (z = true → gs ≠ []) := by
      intro z hz hz1 e
      subst e
      rw [hz1] at hz
      rw [show PyData.eqv (.list ([].map PyData.int)) (.list []) = true from SeqAt.eqv_refl _ (by rw [PyData.canLay0]; rfl)] at hz
      cases hz
    refine q_when (b := (!PyData.eqv (.list (gs.map PyData.int)) (.list [])) && decide (0 < gs.getD at_.toNat 0)) (et_and (et_test (ev_opL (ev_var rfl) (el_lst ea_nil (by decide)) (fun p H3 hp3 e3 => fun H4 e4 Q' k' => ?_))) (fun z => et_test (ev_op (ev_ixL (ev_var rfl) hg2 (ev_var rfl) ?_) ev_c rv_I0))) (fun z H3 e3 => ?_) (fun z H3 e3 => ?_)
    · exact ⟨.list (gs.map PyData.int), .list [], .lst (SqL.of ((Ex.trans e3 e4) _ _ hg2)) dp_iV, .lst (SqL.of (e4 _ _ hp3)) .nil, (dn_lst (n := 0) fun x m => by
        obtain ⟨i, _, rfl⟩ := List.mem_map.mp m
        exact dn_int).shaped (by decide), (dn_lst (n := 0) fun x m => by cases m).shaped (by decide), k' H4 (Ex.refl _)⟩
    · rw [← atc]
      exact atI_nat (item (neE _ rfl z))
    · obtain ⟨z1, z2⟩ := Bool.and_eq_true_iff.mp z
      have ne := neE _ rfl z1
      have lt : at_.toNat < (iV gs).length := by rw [iV_len]; have := atn ne; omega
      have hg3 := e3 _ _ hg2
      have hd3 := e3 _ _ hd2
      have it : atI (iV gs) at_ = some (.int (gs.getD at_.toNat 0)) := by
        rw [← atc]
        exact atI_nat (item ne)
      refine q_asg (v := .int (gs.getD at_.toNat 0 % b)) (ev_op (ev_ixL (ev_var rfl) hg3 (ev_var rfl) it) (ev_var rfl) (rv_I (by omega))) fun H4 e4 => ?_
      have hg4 := e4 _ _ hg3
      refine q_setL (j := at_.toNat) (v := .int (gs.getD at_.toNat 0 / b)) hg4 (ev_op (ev_ixL (ev_var rfl) hg4 (ev_var rfl) it) (ev_var rfl) (rv_I ⟨by omega, by omega⟩)) (ev_var rfl) (ev_var (by rw [atc]; rfl)) lt fun H5 e5 => ?_
      have o5 : Only [d, g] H (upd H5 g (.lst ((iV gs).set at_.toNat (.int (gs.getD at_.toNat 0 / b))))) := (o2.trans (Only.ex (Ex.trans (Ex.trans e3 e4) e5))).trans (o1 og (Only.lst (e5 _ _ hg4)))
      refine s_ret (ev_var rfl) fun H6 e6 => h _ H6 ⟨_, rfl, Int.emod_nonneg _ (by omega), Int.emod_lt_of_pos _ (by omega)⟩ (o5.trans (Only.ex e6)) (DrawAt.ex ⟨m, t + 1, gs.set at_.toNat (gs.getD at_.toNat 0 / b), ?_, ?_, ?_⟩ e6)
      · rw [upd_ne (Ne.symm gd)]
        exact e5 _ _ (e4 _ _ hd3)
      · rw [upd_same]
        exact congrArg (fun z => some (HO.lst z)) (List.map_set ..).symm
      · rw [List.length_set]; exact len
    · have hd3 := e3 _ _ hd2
      refine q_asg (v := .int (m * 6364136223846793 + 1442695040888963 * (t + 1) + 11)) (ev_op (ev_op (ev_op (ds_m H3 hd3 (ev_var rfl)) ev_c rv_mulK) (ev_op ev_c (ds_t H3 hd3 (ev_var rfl)) rv_mulL) rv_I0) ev_c rv_I0) fun H4 e4 => ?_
      have hd4 := e4 _ _ hd3
      refine q_dput (k := kMix) (v := .int ((m * 6364136223846793 + 1442695040888963 * (t + 1) + 11) % 2305843009213693951)) (ev_op (ev_var rfl) ev_c rv_modK) (ev_var rfl) ev_c hd4 (Nat.le_of_ble_eq_true rfl) fun H5 e5 => ?_
      rw [put_m]
      have hd5 : (upd H5 d (.dK [(kMix, .int ((m * 6364136223846793 + 1442695040888963 * (t + 1) + 11) % 2305843009213693951)), (kGrt, .ref g), (kTrn, .int (t + 1))])) d = some (.dK [(kMix, .int ((m * 6364136223846793 + 1442695040888963 * (t + 1) + 11) % 2305843009213693951)), (kGrt, .ref g), (kTrn, .int (t + 1))]) := upd_same
      have o5 : Only [d, g] H (upd H5 d (.dK [(kMix, .int ((m * 6364136223846793 + 1442695040888963 * (t + 1) + 11) % 2305843009213693951)), (kGrt, .ref g), (kTrn, .int (t + 1))])) := (o2.trans (Only.ex (Ex.trans (Ex.trans e3 e4) e5))).trans (o1 od (Only.dK (e5 _ _ hd4)))
      refine s_ret (ev_op (ev_op (ds_m _ hd5 (ev_var rfl)) ev_c rv_divK) (ev_var rfl) (rv_I (by omega))) fun H6 e6 => h _ H6 ⟨_, rfl, Int.emod_nonneg _ (by omega), Int.emod_lt_of_pos _ (by omega)⟩ (o5.trans (Only.ex e6)) (DrawAt.ex ⟨_, t + 1, gs, hd5, ?_, len⟩ e6)
      rw [upd_ne gd]
      exact e5 _ _ (e4 _ _ (e3 _ _ hg2))
end
end Kx
set_option Elab.async false
set_option linter.all false
set_option maxRecDepth 100000
set_option maxHeartbeats 2000000
namespace Kx
open PySem PySem.Spec PyProof.Rows L2 Evl
open He (ga ma)
section
variable {P : Program} {w : World} {K : PySem.W.Frag} {mg : Str → Option Value} {base : Heap}
theorem Only.newUpd {L : List Addr} {H H' : Hp} {p : Addr} {o : HO} (a : Only L H H') (n : H p = none) : Only L H (L2.upd H' p o) :=
  ⟨fun x u hx m => by rw [upd_ne (fun z => by rw [z, n] at hx; cases hx)]; exact a.keep x u hx m, fun x xs hx => by rw [upd_ne (fun z => by rw [z, n] at hx; cases hx)]; exact a.tups x xs hx⟩
theorem rd_draw {σ : L2.St} {H : Hp} {ta tb : TE} {d g : Addr} {b lim : Int} {Q : VK} (h1 : Ev ta σ H (.ref d)) (h2 : Ev tb σ H (.int b)) (hd : DrawAt H d g) (hb : 1 ≤ b ∧ b ≤ lim) (k : RetD d g (Below b) H Q) : tCall (spDraw lim) [] E0 (tCons ta (tCons tb tNil)) σ H Q :=
  ea_cons h1 (ea_cons h2 ea_nil) H (Ex.refl _) _ fun H1 e1 => ⟨d, g, b, rfl, hd.ex e1, hb, k.back e1⟩
theorem not_dg {H : Hp} {d g p : Addr} {o : HO} (h : DrawAt H d g) (hp : H p = none) : p ∉ [d, g] := by
  obtain ⟨m, t, gs, h1, h2, _⟩ := h
  intro z
  rcases List.mem_cons.mp z with rfl | z
  · rw [hp] at h1; cases h1
  · rcases List.mem_singleton.mp z with rfl
    rw [hp] at h2; cases h2
def IsStep (v : V) : Prop := ∃ s, v = .int s ∧ LawSteps s
def spSteps : Sp := fun vs H Q _ => ∃ d g, vs = [.ref d] ∧ DrawAt H d g ∧ RetD d g IsStep H Q
def N_law_steps : List Str := ["_law_draw"]
theorem sc_law_steps : FnScope N_law_steps ["_law_draw"] (defScope s_law_steps) := ⟨rfl, rfl, rfl, by decide +kernel, rfl, by decide +kernel, by decide +kernel⟩
theorem h_law_steps (T : Tx K mg) : Has P w K mg base CX0 "_law_steps" 2 ["_law_draw"] spSteps :=
  have h_law_next := h_law_next (P := P) (w := w) (base := base) T
  T.has 98 65 rfl rfl rfl sc_law_steps (fun vs H Q E h => by obtain ⟨a, g, rfl, _⟩ := h; rfl) rfl (fun | _, _, _, _, _, _, [_], _ => rfl) fun cdv A outer s H vs Q E hr h => by
    obtain ⟨d, g, rfl, hd, h⟩ := h
    refine ⟨_, (pss_one (ps_ret (pe_ix ix_list (pe_lst (pa_cons pe_int (pa_cons pe_int (pa_cons pe_int (pa_cons pe_int (pa_cons pe_int (pa_cons pe_int pa_nil))))))) (pe_h h_law_next (hr.mono (by decide)) pass0 (pa_cons (pv 0) (pa_cons pe_int pa_nil))) (fun _ _ => rfl)))), ?_⟩
    have L : EvL (tLst (tCons (tC (.int 0)) (tCons (tC (.int 1)) (tCons (tC (.int 2)) (tCons (tC (.int 5)) (tCons (tC (.int 1000003)) (tCons (tC (.int 18446744073709551616)) tNil))))))) (L2.start N_law_steps [.ref d]) H [.int 0, .int 1, .int 2, .int 5, .int 1000003, .int 18446744073709551616] := by
      refine el_lst ?_ (by decide)
      (repeat' first
  | with_reducible exact ev_c | ((with_reducible apply ev_var) <;> exact rfl) | with_reducible exact rv_I0 | with_reducible exact rv_mask | with_reducible exact rv_divK | with_reducible exact rv_modK | with_reducible exact rv_shrK | with_reducible exact rv_mulK | with_reducible exact rv_mulL | with_reducible exact ea_nil
  | with_reducible apply ev_isB | (exact fun _ _ => isB_ii) | (exact fun _ _ => isB_ib) | (exact fun _ _ => isB_it) | (exact fun _ _ => isB_ss)
  | with_reducible apply ev_rng | with_reducible apply ev_chain | with_reducible apply ev_bits | with_reducible apply ev_ifI | with_reducible apply ev_op | with_reducible apply ev_un | with_reducible apply ev_and0 | with_reducible apply ev_or0 | with_reducible apply ev_notV
  | with_reducible apply et_B | with_reducible apply et_test | with_reducible apply et_and0 | with_reducible apply et_or0 | with_reducible apply et_not | with_reducible apply ea_cons | with_reducible apply ev_call
  | with_reducible exact rv_eq rfl | with_reducible exact rv_ne rfl | (refine spv1 ?_ <;> first | trivial | assumption) | (refine spv2 ?_ <;> first | trivial | assumption) | (refine spv3 ?_ <;> first | trivial | assumption))
    refine s_retIxL L (fun p H1 hp e1 hp1 Q' k' => rd_draw (ev_var rfl) ev_c (hd.ex e1) ⟨by decide, by decide⟩ fun v H2 c o2 hd2 => ?_)
    obtain ⟨i, rfl, i0, i6⟩ := c
    have pn : p ∉ [d, g] := not_dg (o := .tup []) hd hp
    refine k' i H2 (o2.keep _ _ hp1 pn) ?_
    have fin : ∀ x, LawSteps x → h.go ((Only.ex e1).trans o2) = h.go ((Only.ex e1).trans o2) → Q (.int x) H2 := fun x lx _ => h (.int x) H2 ⟨x, rfl, lx⟩ ((Only.ex e1).trans o2) hd2
    have cases6 : i = 0 ∨ i = 1 ∨ i = 2 ∨ i = 3 ∨ i = 4 ∨ i = 5 := by omega
    rcases cases6 with rfl | rfl | rfl | rfl | rfl | rfl
    · exact ⟨_, rfl, fin 0 (.inl rfl) rfl⟩
    · exact ⟨_, rfl, fin 1 (.inr (.inl rfl)) rfl⟩
    · exact ⟨_, rfl, fin 2 (.inr (.inr (.inl rfl))) rfl⟩
    · exact ⟨_, rfl, fin 5 (.inr (.inr (.inr (.inl rfl)))) rfl⟩
    · exact ⟨_, rfl, fin 1000003 (.inr (.inr (.inr (.inr (.inl rfl))))) rfl⟩
    · exact ⟨_, rfl, fin 18446744073709551616 (.inr (.inr (.inr (.inr (.inr rfl))))) rfl⟩
def spWide : Sp := fun vs H Q _ => ∃ d g b, vs = [.ref d, .int b] ∧ DrawAt H d g ∧ 1 ≤ b ∧ RetD d g (Below b) H Q
def N_law_wide : List Str := ["_law_draw", "_law_top", "_law_way", "_law_found", "_law_turn"]
theorem sc_law_wide : FnScope N_law_wide ["_law_draw", "_law_top"] (defScope s_law_wide) := ⟨rfl, rfl, rfl, by decide +kernel, rfl, by decide +kernel, by decide +kernel⟩
theorem h_law_wide (T : Tx K mg) : Has P w K mg base CX0 "_law_wide" 2 ["_law_draw", "_law_top"] spWide :=
  have h_law_next := h_law_next (P := P) (w := w) (base := base) T
  T.has 94 61 rfl rfl rfl sc_law_wide (fun vs H Q E h => by obtain ⟨a, g, b, rfl, _⟩ := h; rfl) rfl (fun | _, _, _, _, _, _, [_, _], _ => rfl) fun cdv A outer s H vs Q E hr h => by
    obtain ⟨d, g, b, rfl, hd, b1, h⟩ := h
    refine ⟨_, (pss_cons (ps_set (i := 2) sc_law_wide.nd rfl (Or.inl rfl) (pe_h h_law_next (hr.mono (by decide)) pass0 (pa_cons (pv 0) (pa_cons pe_int pa_nil)))) (pss_cons (ps_if (pt_cmpR op_lt (pv 2) pe_int (nomark _)) (pss_one (ps_ret (pe_ix ix_list (pe_lst (pa_cons pe_int (pa_cons (pe_op op_sub (pv 1) pe_int) pa_nil))) (pv 2) (fun _ _ => rfl)))) pss_nil) (pss_cons (ps_set (i := 3) sc_law_wide.nd rfl (Or.inl rfl) pe_int) (pss_cons (ps_for PassesOwn.never rfl (pi_range1 (by rfl) (T.fre 3 _ rfl) (pa_cons pe_int pa_nil)) (pg_name (i := 4) sc_law_wide.nd rfl (Or.inl rfl)) (pss_one (ps_set (i := 3) sc_law_wide.nd rfl (Or.inl rfl) (pe_op op_add (pe_op (op_mulK (m := 65536) (by decide) (by decide)) (pv 3) pe_int) (pe_h h_law_next (hr.mono (by decide)) pass0 (pa_cons (pv 0) (pa_cons pe_int pa_nil))))))) (pss_one (ps_ret (pe_op op_mod (pv 3) (pv 1)))))))), ?_⟩
    refine rd_draw (ev_var rfl) ev_c hd ⟨by decide, by decide⟩ fun v H1 c o1 hd1 => ?_
    obtain ⟨way, rfl, w0, w4⟩ := c
    refine q_when (b := decide (way < 2)) (et_test (ev_op (ev_var rfl) ev_c rv_I0)) (fun z H2 e2 => ?_) (fun z H2 e2 => ?_)
    · have z := of_decide_eq_true z
      refine s_retIxL (el_lst (ea_cons ev_c (ea_cons (ev_op (ev_var rfl) ev_c rv_I0) ea_nil)) (Nat.le_of_ble_eq_true rfl)) (fun p H3 hp e3 hp3 Q' k' => ?_)
      refine ⟨.int way, rfl, k' way H3 hp3 ?_⟩
      have w2 : way = 0 ∨ way = 1 := by omega
      rcases w2 with rfl | rfl
      · exact ⟨_, rfl, h _ H3 ⟨0, rfl, by omega, by omega⟩ (o1.trans (Only.ex (Ex.trans e2 e3))) (hd1.ex (Ex.trans e2 e3))⟩
      · exact ⟨_, rfl, h _ H3 ⟨b - 1, rfl, by omega, by omega⟩ (o1.trans (Only.ex (Ex.trans e2 e3))) (hd1.ex (Ex.trans e2 e3))⟩
    · refine q_asg (v := .int 0) ev_c fun H3 e3 => ?_
      refine q_forR1 (n := 5) (ea_cons ev_c ea_nil) (by decide) (fun i σ' H' => Only [d, g] H H' ∧ DrawAt H' d g ∧ ∃ f x, σ' = [some (.ref d), some (.int b), some (.int way), some (.int f), x]) (fun H4 e4 => ⟨o1.trans (Only.ex (Ex.trans (Ex.trans e2 e3) e4)), hd1.ex (Ex.trans (Ex.trans e2 e3) e4), 0, none, rfl⟩) (fun i σ' H4 hi W => ?_) (fun σ' H4 W => ?_)
      · obtain ⟨o4, hd4, f, x, rfl⟩ := W
        refine s_asgOp (ev_op (ev_var rfl) ev_c rv_mulK) fun H5 e5 => rd_draw (ev_var rfl) ev_c (hd4.ex e5) ⟨by decide, by decide⟩ fun v H6 c o6 hd6 => ?_
        obtain ⟨j, rfl, _, _⟩ := c
        exact ⟨_, _, rfl, rfl, (o4.trans (Only.ex e5)).trans o6, hd6, _, _, rfl⟩
      · obtain ⟨o4, hd4, f, x, rfl⟩ := W
        exact s_ret (ev_op (ev_var rfl) (ev_var rfl) (rv_I (by omega))) fun H5 e5 => h _ H5 ⟨_, rfl, Int.emod_nonneg _ (by omega), Int.emod_lt_of_pos _ (by omega)⟩ (o4.trans (Only.ex e5)) (hd4.ex e5)
theorem rd_wide {σ : L2.St} {H : Hp} {ta tb : TE} {d g : Addr} {b : Int} {Q : VK} (h1 : Ev ta σ H (.ref d)) (h2 : Ev tb σ H (.int b)) (hd : DrawAt H d g) (hb : 1 ≤ b) (k : RetD d g (Below b) H Q) : tCall spWide [] E0 (tCons ta (tCons tb tNil)) σ H Q :=
  ea_cons h1 (ea_cons h2 ea_nil) H (Ex.refl _) _ fun H1 e1 => ⟨d, g, b, rfl, hd.ex e1, hb, k.back e1⟩
end
end Kx
set_option Elab.async false
set_option linter.all false
set_option maxRecDepth 100000
set_option maxHeartbeats 2000000
namespace Kx
open PySem PySem.Spec PyProof.Rows L2 Evl
open He (ga ma)
section
variable {P : Program} {w : World} {K : PySem.W.Frag} {mg : Str → Option Value} {base : Heap}
theorem s_retT2 {ta tb : TE} {σ : L2.St} {H : Hp} {D : Ends} {v : V} (h : Ev ta σ H v) (k : ∀ H1, Ex H H1 → tb σ H1 fun y H2 => [v, y].length ≤ sizeLine ∧ ∀ p, H2 p = none → D.rt (.ref p) (upd H2 p (.tup [v, y]))) : tRet (tTup (tCons ta (tCons tb tNil))) D σ H := h H (Ex.refl _) _ k
def KindOf (k : Str) (S : Src) : Prop := S.kind = k
/-- a state of that kind is drawn -/
def spLState : Sp := fun vs H Q _ => ∃ d g k, vs = [.ref d, .str k] ∧ DrawAt H d g ∧ (k = "linear" ∨ k = "counter" ∨ k = "twisted" ∨ k = "script") ∧ ∀ v S H', S.Valid → S.kind = k → Only [d, g] H H' → DrawAt H' d g → StAt H' v S → Q v H'
theorem below_num {i : Int} (h0 : 0 ≤ i) (h1 : i < 281474976710656) : isNum i = true := isNum_iff.mpr ⟨h0, h1⟩
theorem row_set {row : List Nat} {j x : Nat} (hl : row.length = 31) (hw : OkNat row) (hj : j < 31) (x0 : x ≠ 0) (x1 : x < 4294967296) : OkRow (row.set j x) := by
  refine ⟨by rw [List.length_set]; exact hl, fun n m => ?_, x, ?_, x0⟩
  · rcases List.mem_or_eq_of_mem_set m with m | rfl
    · exact hw n m
    · exact x1
  · exact List.mem_iff_getElem?.mpr ⟨j, by rw [List.getElem?_set_self (by omega)]⟩
def N_law_state : List Str := ["_law_draw", "_law_kind_so", "_law_row", "_law_base", "_law_by", "_law_n", "_law_script_so"]
theorem sc_law_state : FnScope N_law_state ["_law_draw", "_law_kind_so"] (defScope s_law_state) := ⟨rfl, rfl, rfl, by decide +kernel, rfl, by decide +kernel, by decide +kernel⟩
theorem h_law_state (T : Tx K mg) : Has P w K mg base CX0 "_law_state" 3 ["_law_draw", "_law_kind_so"] spLState :=
  have h_law_next := h_law_next (P := P) (w := w) (base := base) T
  have h_law_wide := h_law_wide (P := P) (w := w) (base := base) T
  T.has 95 62 rfl rfl rfl sc_law_state (fun vs H Q E h => by obtain ⟨a, g, b, rfl, _⟩ := h; rfl) rfl (fun | _, _, _, _, _, _, [_, _], _ => rfl) fun cdv A outer s H vs Q E hr h => by
    obtain ⟨d, g, k, rfl, hd, hk, h⟩ := h
    refine ⟨_, (pss_cons (ps_if (pt_cmpR op_eq (pv 1) pe_str (nomark _)) (pss_one (ps_ret (pe_tup (pa_cons (pe_h h_law_wide (hr.mono (by decide)) pass0 (pa_cons (pv 0) (pa_cons pe_int pa_nil))) pa_nil)))) pss_nil) (pss_cons (ps_if (pt_cmpR op_eq (pv 1) pe_str (nomark _)) (pss_one (ps_ret (pe_tup (pa_cons (pe_h h_law_wide (hr.mono (by decide)) pass0 (pa_cons (pv 0) (pa_cons pe_int pa_nil))) (pa_cons (pe_h h_law_wide (hr.mono (by decide)) pass0 (pa_cons (pv 0) (pa_cons pe_int pa_nil))) (pa_cons (pe_h h_law_next (hr.mono (by decide)) pass0 (pa_cons (pv 0) (pa_cons pe_int pa_nil))) pa_nil)))))) pss_nil) (pss_cons (ps_if (pt_cmpR op_eq (pv 1) pe_str (nomark _)) (pss_cons (ps_asg (pe_tup (pa_cons (pe_h h_law_next (hr.mono (by decide)) pass0 (pa_cons (pv 0) (pa_cons pe_int pa_nil))) (pa_cons (pe_op op_add pe_int (pe_h h_law_next (hr.mono (by decide)) pass0 (pa_cons (pv 0) (pa_cons pe_int pa_nil)))) pa_nil))) (pg_tup rfl (pgs_cons (pg_name (i := 3) sc_law_state.nd rfl (Or.inr rfl)) (pgs_cons (pg_name (i := 4) sc_law_state.nd rfl (Or.inr rfl)) pgs_nil)))) (pss_cons (ps_setLc (i := 2) (own := [("_law_n", 5)]) (g := gName 5) (tt := tYes) rfl sc_law_state.nd rfl rfl (sw_true rfl rfl rfl (by decide +kernel)) (pi_range1 (by rfl) (T.fre 3 _ rfl) (pa_cons pe_int pa_nil)) (blkOk_by (own := [("_law_n", 5)]) (N := N_law_state) (sc := defScope s_law_state) (by decide +kernel)) (fun _ _ _ _ _ => pg_name (i := 5) sc_law_state.nd rfl (Or.inl rfl)) (fun _ _ _ _ _ => pts_nil) (fun _ _ _ _ _ => (pe_op (op_modK (m := 4294967296) (by decide)) (pe_op op_add (pv 3) (pe_op (op_mulK (m := 2654435761) (by decide) (by decide)) (pe_op op_mul (pv 4) (pv 5)) pe_int)) pe_int))) (pss_cons (ps_asg (pe_ix ix_list (pe_lst (pa_cons pe_int (pa_cons pe_int pa_nil))) (pe_h h_law_next (hr.mono (by decide)) pass0 (pa_cons (pv 0) (pa_cons pe_int pa_nil))) (fun _ _ => rfl)) (pg_sub (pv 2) (pe_h h_law_next (hr.mono (by decide)) pass0 (pa_cons (pv 0) (pa_cons pe_int pa_nil))) set_list)) (pss_one (ps_ret (pe_callTy call_tuple_of (by rfl) (T.fre 4 _ rfl) boot_tupleT (pa_cons (pv 2) pa_nil))))))) pss_nil) (pss_cons (ps_set (i := 6) sc_law_state.nd rfl (Or.inl rfl) (pe_callTy call_tuple_of (by rfl) (T.fre 4 _ rfl) boot_tupleT (pa_cons (pe_lc (own := [("_law_n", 5)]) (g := gName 5) (tt := tYes) rfl sc_law_state.nd (pi_range1 (by rfl) (T.fre 3 _ rfl) (pa_cons (pe_h h_law_next (hr.mono (by decide)) pass0 (pa_cons (pv 0) (pa_cons pe_int pa_nil))) pa_nil)) (blkOk_by (own := [("_law_n", 5)]) (N := N_law_state) (sc := defScope s_law_state) (by decide +kernel)) (fun _ _ _ _ _ => pg_name (i := 5) sc_law_state.nd rfl (Or.inl rfl)) (fun _ _ _ _ _ => pts_nil) (fun _ _ _ _ _ => (pe_h h_law_wide (hr.mono (by decide)) pass0 (pa_cons (pv 0) (pa_cons pe_int pa_nil))))) pa_nil))) (pss_one (ps_ret (pe_tup (pa_cons (pv 6) (pa_cons (pe_h h_law_next (hr.mono (by decide)) pass0 (pa_cons (pv 0) (pa_cons (pe_op op_add (pe_callB call_len (by rfl) (T.fre 1 _ rfl) PySem.boot_len (pa_cons (pv 6) pa_nil)) pe_int) pa_nil))) pa_nil))))))))), ?_⟩
    have test : ∀ (x : Str) (H1 : Hp) (b : Bool), decide (V.str k = V.str x) = b → EvT (tTest (tOp rEq (tVar 1) (tC (.str x)))) (L2.start N_law_state [.ref d, .str k]) H1 b := fun x H1 b e => et_is (et_test (ev_op (ev_var rfl) ev_c (rv_eq rfl))) e
    rcases hk with rfl | rfl | rfl | rfl
    · refine q_when (b := true) (test _ _ _ (by decide)) (fun _ H1 e1 => ?_) (fun q => nomatch q)
      refine rd_wide (ev_var rfl) ev_c (hd.ex e1) (by decide) fun v H2 c o2 hd2 => ⟨sz_of (Nat.le_of_ble_eq_true rfl), fun p hp => ?_⟩
      obtain ⟨i, rfl, i0, i1⟩ := c
      exact h _ (.lin i) _ (below_num i0 i1) rfl (((Only.ex e1).trans o2).trans (Only.ex (Ex.new hp))) (hd2.ex (Ex.new hp)) ⟨p, rfl, upd_same⟩
    · refine q_when (b := false) (test _ _ _ (by decide)) (fun q => nomatch q) (fun _ H0 e0 => ?_)
      refine q_when (b := true) (test _ _ _ (by decide)) (fun _ H1 e1 => ?_) (fun q => nomatch q)
      have e01 := Ex.trans e0 e1
      refine rd_wide (ev_var rfl) ev_c (hd.ex e01) (by decide) fun v H2 c o2 hd2 => rd_wide (ev_var rfl) ev_c hd2 (by decide) fun v3 H3 c3 o3 hd3 => rd_draw (ev_var rfl) ev_c hd3 ⟨by decide, by decide⟩ fun v4 H4 c4 o4 hd4 => ⟨sz_of (Nat.le_of_ble_eq_true rfl), fun p hp => ?_⟩
      obtain ⟨i, rfl, i0, i1⟩ := c
      obtain ⟨j, rfl, j0, j1⟩ := c3
      obtain ⟨b, rfl, b0, b1⟩ := c4
      refine h _ (.cnt i (2 * j + b)) _ ⟨isKey_iff.mpr ⟨i0, i1⟩, by omega, by omega⟩ rfl (((((Only.ex e01).trans o2).trans o3).trans o4).trans (Only.ex (Ex.new hp))) (hd4.ex (Ex.new hp)) ⟨p, rfl, ?_⟩
      rw [upd_same, show (2 * j + b) / 2 = j by omega, show (2 * j + b) % 2 = b by omega]
    · refine q_when (b := false) (test _ _ _ (by decide)) (fun q => nomatch q) (fun _ H0 e0 => ?_)
      refine q_when (b := false) (test _ _ _ (by decide)) (fun q => nomatch q) (fun _ H1 e1 => ?_)
      refine q_when (b := true) (test _ _ _ (by decide)) (fun _ H2 e2 => ?_) (fun q => nomatch q)
      have e02 := Ex.trans (Ex.trans e0 e1) e2
      refine rd_draw (ev_var rfl) ev_c (hd.ex e02) ⟨by decide, by decide⟩ fun v H3 c o3 hd3 => rd_draw (ev_var rfl) ev_c hd3 ⟨by decide, by decide⟩ fun v4 H4 c4 o4 hd4 => ?_
      obtain ⟨bs, rfl, bs0, bs1⟩ := c
      obtain ⟨by_, rfl, by0, by1⟩ := c4
      refine ⟨1, by_, rfl, rfl, sz_of (Nat.le_of_ble_eq_true rfl), fun t ht => ⟨t, _, rfl, SqT.of upd_same, rfl, _, _, rfl, _, _, rfl, rfl, ?_⟩⟩
      have o5 : Only [d, g] H (upd H4 t (.tup [.int bs, .int (1 + by_)])) := (((Only.ex e02).trans o3).trans o4).trans (Only.ex (Ex.new ht))
      have hd5 := hd4.ex (Ex.new (o := .tup [.int bs, .int (1 + by_)]) ht)
      generalize (upd H4 t (.tup [.int bs, .int (1 + by_)])) = H5 at o5 hd5
      refine q_asgL (xs := nV ((List.range 31).map fun (n : Nat) => ((bs + (1 + by_) * (n : Int) * 2654435761) % 4294967296).toNat)) (el_is (lc_r0 (n := 31) (fun n => .int ((bs + (1 + by_) * (n : Int) * 2654435761) % 4294967296)) (ea_cons ev_c ea_nil) (by decide) (fun x => rfl) (fun n hn H6 e6 => ?_)) ?_) fun r H6 hr6 e6 h6 => ?_
      · exact ev_op (ev_op (ev_var rfl) (ev_op (ev_op (ev_var rfl) (ev_var rfl) (rv_I (.inl ⟨by omega, by omega⟩))) ev_c rv_mulK) rv_I0) ev_c rv_modK
      · rw [nV, List.map_map]
        refine List.map_congr_left fun n m => ?_
        show V.int _ = V.int _
        rw [Int.toNat_of_nonneg (Int.emod_nonneg _ (by omega))]
      generalize hrow : ((List.range 31).map fun (n : Nat) => ((bs + (1 + by_) * (n : Int) * 2654435761) % 4294967296).toNat) = row at h6
      have rl : row.length = 31 := by rw [← hrow, List.length_map, List.length_range]
      have rw_ : OkNat row := fun n m => by
        rw [← hrow] at m
        obtain ⟨q, _, rfl⟩ := List.mem_map.mp m
        have := Int.emod_lt_of_pos (bs + (1 + by_) * (q : Int) * 2654435761) (b := 4294967296) (by decide)
        have := Int.emod_nonneg (bs + (1 + by_) * (q : Int) * 2654435761) (b := 4294967296) (by decide)
        omega
      have hd6 := hd5.ex e6
      have rn : r ∉ [d, g] := not_dg (o := .tup []) hd5 hr6
      refine q_asgIx (el_lst (ea_cons ev_c (ea_cons ev_c ea_nil)) (by decide)) fun p H7 hp7 e7 hp7' Q' k' => rd_draw (ev_var rfl) ev_c (hd6.ex e7) ⟨by decide, by decide⟩ fun v8 H8 c8 o8 hd8 => ?_
      obtain ⟨i8, rfl, i80, i81⟩ := c8
      have pn : p ∉ [d, g] := not_dg (o := .tup []) hd6 hp7
      have val : ∃ x : Nat, x ≠ 0 ∧ x < 4294967296 ∧ atI [V.int 1, V.int 4294967295] i8 = some (.int (x : Int)) := by
        have : i8 = 0 ∨ i8 = 1 := by omega
        rcases this with rfl | rfl
        · exact ⟨1, by decide, by decide, rfl⟩
        · exact ⟨4294967295, by decide, by decide, rfl⟩
      obtain ⟨x, x0, x1, hx⟩ := val
      refine k' i8 _ H8 (o8.keep _ _ hp7' pn) hx ?_
      have h8 : H8 r = some (.lst (nV row)) := o8.keep _ _ (e7 _ _ h6) rn
      refine (ev_var (v := .ref r) rfl) H8 (Ex.refl _) _ fun H9 e9 => rd_draw (ev_var rfl) ev_c (hd8.ex e9) ⟨by decide, by decide⟩ fun v10 H10 c10 o10 hd10 => ?_
      obtain ⟨j, rfl, j0, j1⟩ := c10
      have h10 : H10 r = some (.lst (nV row)) := o10.keep _ _ (e9 _ _ h8) rn
      refine ⟨r, nV row, j, j.toNat, rfl, rfl, h10, ?_, ?_⟩
      · have := ixN_nat (n := (nV row).length) (j := j.toNat) (by rw [nV_len, rl]; omega)
        rw [show ((j.toNat : Nat) : Int) = j by omega] at this
        exact this
      have o11 : Only [d, g] H (upd H10 r (.lst ((nV row).set j.toNat (.int (x : Int))))) := ((((o5.trans (Only.ex (Ex.trans e6 e7))).trans o8).trans (Only.ex e9)).trans o10).newUpd (by
        cases z : H r with
        | none => rfl
        | some ob =>
          rw [o5.keep _ _ z rn] at hr6
          cases hr6)
      have hd11 : DrawAt (upd H10 r (.lst ((nV row).set j.toNat (.int (x : Int))))) d g := hd10.keep (Only.lst h10) (fun z => rn (List.mem_singleton.mp z ▸ List.mem_cons_self ..)) (fun z => rn (List.mem_singleton.mp z ▸ List.mem_cons_of_mem _ (List.mem_cons_self ..)))
      refine s_retU (eu_tuple (xs := nV (row.set j.toNat x)) (ev_var (v := .ref r) rfl) ?_) fun t2 H12 _ e12 h12 => h _ (.twi (row.set j.toNat x)) H12 (row_set rl rw_ (by omega) x0 x1) rfl (o11.trans (Only.ex e12)) (hd11.ex e12) ⟨t2, rfl, h12⟩
      rw [upd_same]
      exact congrArg (fun z => some (HO.lst z)) (List.map_set ..).symm
    · refine q_when (b := false) (test _ _ _ (by decide)) (fun q => nomatch q) (fun _ H0 e0 => ?_)
      refine q_when (b := false) (test _ _ _ (by decide)) (fun q => nomatch q) (fun _ H1 e1 => ?_)
      refine q_when (b := false) (test _ _ _ (by decide)) (fun q => nomatch q) (fun _ H2 e2 => ?_)
      have e02 := Ex.trans (Ex.trans e0 e1) e2
      refine rd_draw (ev_var rfl) ev_c (hd.ex e02) ⟨by decide, by decide⟩ fun v H3 c o3 hd3 => ?_
      obtain ⟨n, rfl, n0, n9⟩ := c
      refine ⟨n, rfl, by omega, by omega, fun D hD => ?_⟩
      have o3' : Only [d, g] H H3 := (Only.ex e02).trans o3
      have Dn : D ∉ [d, g] := not_dg (o := .tup []) hd3 hD
      refine lc_range (lo := 0) (n := n.toNat) (fun i H' => ∃ ws, ws.length = i ∧ OkWords ws ∧ H' D = some (.lst (iV ws)) ∧ Only [d, g] H3 H' ∧ DrawAt H' d g) ⟨[], rfl, fun i m => (by cases m), upd_same, Only.ex (Ex.new hD), hd3.ex (Ex.new hD)⟩ (fun i H' hi W => ?_) (fun H' W => ?_)
      · obtain ⟨ws, wl, wo, wd, ow, hdw⟩ := W
        refine ⟨rfl, ?_⟩
        refine rd_wide (ev_var (v := .ref d) rfl) ev_c hdw (by decide) fun v4 H4 c4 o4 hd4 => ?_
        obtain ⟨x, rfl, x0, x1⟩ := c4
        have wd4 := o4.keep _ _ wd Dn
        refine ⟨iV ws, wd4, by rw [iV_len]; exact sz_lt (by omega), ws ++ [x], by rw [List.length_append, wl]; rfl, fun y m => ?_, ?_, (ow.trans o4).newUpd hD, hd4.keep (Only.lst wd4) (fun z => Dn (List.mem_singleton.mp z ▸ List.mem_cons_self ..)) (fun z => Dn (List.mem_singleton.mp z ▸ List.mem_cons_of_mem _ (List.mem_cons_self ..)))⟩
        · rcases List.mem_append.mp m with m | m
          · exact wo y m
          · rcases List.mem_singleton.mp m with rfl
            unfold isWord
            rw [decide_eq_true x0, decide_eq_true x1]
            rfl
        · rw [upd_same]
          simp [iV]
      · obtain ⟨ws, wl, wo, wd, ow, hdw⟩ := W
        refine ⟨D, iV ws, rfl, .inl ⟨SqL.of wd, fun t ht => ?_⟩⟩
        have e5 : Ex H' (upd H' t (.tup (iV ws))) := Ex.new ht
        have ht5 : (upd H' t (.tup (iV ws))) t = some (.tup (iV ws)) := upd_same
        have hd5 := hdw.ex e5
        have o5 : Only [d, g] H (upd H' t (.tup (iV ws))) := (o3'.trans ow).trans (Only.ex e5)
        generalize (upd H' t (.tup (iV ws))) = H5 at e5 ht5 hd5 o5
        refine s_retT2 (ev_var (v := .ref t) rfl) fun H6 e6 => ?_
        refine rd_draw (lim := 65536) (b := (ws.length : Int) + 1) (ev_var (v := .ref d) rfl) (ev_is (ev_op (ev_lenT (ev_var (v := .ref t) rfl) (e6 _ _ ht5)) ev_c rv_I0) (show V.int (((iV ws).length : Int) + 1) = V.int ((ws.length : Int) + 1) by rw [iV_len])) (hd5.ex e6) ⟨by omega, by omega⟩ fun v7 H7 c7 o7 hd7 => ⟨sz_of (Nat.le_of_ble_eq_true rfl), fun p hp => ?_⟩
        obtain ⟨pl, rfl, pl0, pl1⟩ := c7
        have ht7 := o7.tups _ _ (e6 _ _ ht5)
        have e8 : Ex H7 (upd H7 p (.tup [.ref t, .int pl])) := Ex.new hp
        refine h _ (.scr ws pl.toNat) _ ⟨⟨by omega, wo⟩, by omega⟩ rfl (((o5.trans (Only.ex e6)).trans o7).trans (Only.ex e8)) (hd7.ex e8) ⟨p, t, rfl, ?_, e8 _ _ ht7⟩
        rw [upd_same, show ((pl.toNat : Nat) : Int) = pl by omega]
def N_law_source : List Str := ["_law_kind_so", "_law_state_so"]
theorem sc_law_source : FnScope N_law_source ["_law_kind_so", "_law_state_so"] (defScope s_law_source) := ⟨rfl, rfl, rfl, by decide +kernel, rfl, by decide +kernel, by decide +kernel⟩
def spLSource (K : PySem.W.Frag) : Sp := fun vs H Q _ => ∃ v k S, vs = [.str k, v] ∧ S.kind = k ∧ StAt H v S ∧ S.Valid ∧ RetN K S H Q
theorem h_law_source (T : Tx K mg) : Has P w K mg base CX0 "_law_source" 8 ["_law_kind_so", "_law_state_so"] (spLSource K) :=
  have h_Linear_at_state := h_Linear_at_state (P := P) (w := w) (base := base) T
  have h_Counter_at_state := h_Counter_at_state (P := P) (w := w) (base := base) T
  have h_Twisted_at_state := h_Twisted_at_state (P := P) (w := w) (base := base) T
  have h_Scripted_at_state := h_Scripted_at_state (P := P) (w := w) (base := base) T
  T.has 96 63 rfl rfl rfl sc_law_source (fun vs H Q E h => by obtain ⟨v, k, S, rfl, _⟩ := h; rfl) rfl (fun | _, _, _, _, _, _, [_, _], _ => rfl) fun cdv A outer s H vs Q E hr h => by
    obtain ⟨v, k, S, rfl, hk, hst, hv, h⟩ := h
    refine ⟨_, (pss_cons (ps_if (pt_cmpR op_eq (pv 0) pe_str (nomark _)) (pss_one (ps_ret (pe_hc h_Linear_at_state (hr.mono (by decide)) pass0 (pe_glo T 47 rfl) (pa_cons (pv 1) pa_nil)))) pss_nil) (pss_cons (ps_if (pt_cmpR op_eq (pv 0) pe_str (nomark _)) (pss_one (ps_ret (pe_hc h_Counter_at_state (hr.mono (by decide)) pass0 (pe_glo T 39 rfl) (pa_cons (pv 1) pa_nil)))) pss_nil) (pss_one (ps_ret (pe_ifExp (pt_cmpR op_eq (pv 0) pe_str (nomark _)) (pe_hc h_Twisted_at_state (hr.mono (by decide)) pass0 (pe_glo T 58 rfl) (pa_cons (pv 1) pa_nil)) (pe_hc h_Scripted_at_state (hr.mono (by decide)) pass0 (pe_glo T 26 rfl) (pa_cons (pv 1) pa_nil))))))), ?_⟩
    have test : ∀ (x : Str) (H1 : Hp) (b : Bool), decide (V.str k = V.str x) = b → EvT (tTest (tOp rEq (tVar 0) (tC (.str x)))) (L2.start N_law_source [.str k, v]) H1 b := fun x H1 b e => et_is (et_test (ev_op (ev_var rfl) ev_c (rv_eq rfl))) e
    have go : ∀ (c : Str) (te : TE) (H1 : Hp) (D : Ends), Ex H H1 → S.cls = c → Ev te (L2.start N_law_source [.str k, v]) H1 (.ref (ga K c)) → (∀ x, RetN K S H x → RetN K S H x) → ClX.tCMeth (ga K c) (spAt K c) E0 te (tCons (tVar 1) tNil) (L2.start N_law_source [.str k, v]) H1 Q := fun c te H1 D e1 hc he _ =>
      he H1 (Ex.refl _) _ fun H2 e2 => ⟨rfl, (ev_var (v := v) rfl) H2 (Ex.refl _) _ fun H3 e3 => ⟨v, S, rfl, hst.ex (Ex.trans (Ex.trans e1 e2) e3), hv, hc, h.back (Ex.trans (Ex.trans e1 e2) e3)⟩⟩
    cases S with
    | lin x =>
      obtain rfl : "linear" = k := hk
      exact q_when (b := true) (test _ _ _ (by decide)) (fun _ H1 e1 => go "Linear" _ H1 { nx := fun _ _ => True, rt := Q } e1 rfl ev_c (fun _ z => z)) (fun q => nomatch q)
    | cnt a b =>
      obtain rfl : "counter" = k := hk
      refine q_when (b := false) (test _ _ _ (by decide)) (fun q => nomatch q) (fun _ H0 e0 => ?_)
      exact q_when (b := true) (test _ _ _ (by decide)) (fun _ H1 e1 => go "Counter" _ H1 { nx := fun _ _ => True, rt := Q } (Ex.trans e0 e1) rfl ev_c (fun _ z => z)) (fun q => nomatch q)
    | twi r =>
      obtain rfl : "twisted" = k := hk
      refine q_when (b := false) (test _ _ _ (by decide)) (fun q => nomatch q) (fun _ H0 e0 => ?_)
      refine q_when (b := false) (test _ _ _ (by decide)) (fun q => nomatch q) (fun _ H1 e1 => ?_)
      refine (test "twisted" H1 true (by decide)) H1 (Ex.refl _) _ fun H2 e2 => ?_
      exact go "Twisted" _ H2 { nx := fun _ _ => True, rt := Q } (Ex.trans (Ex.trans e0 e1) e2) rfl ev_c (fun _ z => z)
    | scr ws pl =>
      obtain rfl : "script" = k := hk
      refine q_when (b := false) (test _ _ _ (by decide)) (fun q => nomatch q) (fun _ H0 e0 => ?_)
      refine q_when (b := false) (test _ _ _ (by decide)) (fun q => nomatch q) (fun _ H1 e1 => ?_)
      refine (test "twisted" H1 false (by decide)) H1 (Ex.refl _) _ fun H2 e2 => ?_
      exact go "Scripted" _ H2 { nx := fun _ _ => True, rt := Q } (Ex.trans (Ex.trans e0 e1) e2) rfl ev_c (fun _ z => z)
end
end Kx
set_option Elab.async false
set_option linter.all false
set_option maxRecDepth 100000
set_option maxHeartbeats 2000000
namespace Kx
open PySem PySem.Spec PyProof.Rows L2 Evl
open He (ga ma)
/-! ### several except clauses 'except C as n', the same name n (slot i) -/
abbrev TSx := Addr → Value → Option Addr → TS
/-- behind a suite the name is gone -/
def endsAs (i : Nat) (D : Ends) : Ends := { nx := fun τ G => D.nx (τ.set i none) G, rt := D.rt, bk := fun τ G => D.bk (τ.set i none) G, ct := fun τ G => D.ct (τ.set i none) G }
def wAsM (K : PySem.W.Frag) (i : Nat) (Wout : WX) (D : Ends) : List (Value × TSx) → WX
  | [] => Wout
  | (c, ts) :: r => fun cls d τ G => ∃ b, PySem.W.exmOne K cls c = some b ∧ (b = true → ∀ a, G a = none → ts a cls d (endsAs i D) (τ.set i (some (.ref a))) G) ∧ (b = false → wAsM K i Wout D r cls d τ G)
inductive HdsAs (X : Cx) (n : Str) : List ExceptHandler → List (Value × TSx) → Prop
  | nil : HdsAs X n [] []
  | cons {x : Str} {c : Value} {ts : TSx} {b₀ : Stmt} {suite : List Stmt} {np pos' : Pos} {hds : List ExceptHandler} {l : List (Value × TSx)} (hc : Names X x c)
      (hsu : ∀ (a : Addr) (oe : Obj) (cls : Value) (d : Option Addr) (pn : List (Addr × Obj)), Zc cls d oe → (∃ us, oe.data = .fields us) → PSs (X.suite a ((a, oe) :: pn)) (b₀ :: suite) (ts a cls d)) (r : HdsAs X n hds l) :
      HdsAs X n (.ExceptHandler (some (.Name x np)) (some n) (b₀ :: suite) pos' :: hds) ((c, ts) :: l)
section
variable {X : Cx} {n : Str} {i : Nat} {body : List Stmt} {h₀ : ExceptHandler} {hds : List ExceptHandler} {l : List (Value × TSx)} {pos : Pos} {tb : WX → TS} {Wout : WX}
theorem ps_try_asM (hs : X.stack = X.env :: X.outer) (hf : X.env.frame = some X.env.locals) (nodup : X.N.Nodup) (slot : X.N[i]? = some n) (loc : X.env.kindOf n = some .local) (tk : Takes X Wout)
    (hb : ∀ (W : WX) (pn : List (Addr × Obj)) (xe : Value → Shared → Prop), Takes (X.tr pn xe) W → PassesOwn (model X.prog X.w) X.A X.env xe → PSs (X.tr pn xe) body (tb W)) (hh : HdsAs X n (h₀ :: hds) l) :
    PS X (.Try body (h₀ :: hds) [] [] pos) (fun D τ G => tb (wAsM X.K i Wout D l) D τ G) := by
  refine ⟨fun pins st τ G D inv h => ?_⟩
  have good := inv.ok
  have frs_ : X.A.frames = some (X.env :: X.outer) := by rw [good.frames, hs]
  have stored : Loc X.env.scope n := .inl loc
  refine wpAny_Try_except (wpAny_mono ((hb (wAsM X.K i Wout D l) (X.pn ++ pins) (fun e s₁ => wpAny (model X.prog X.w) X.A (noteFrame e X.env) (fun _ s₂ => wpAny (model X.prog X.w) X.A (setFlight e none) (fun _ s₃ =>
    wpAny (model X.prog X.w) X.A (handleBy e X.env (h₀ :: hds)) (SP X pins D) X.xe s₃) X.xe s₂) X.xe s₁) (fun u caught xx => ?_) PassesOwn.looking).run [] st τ G D (inv.toTry _) h) (fun fl s1 hsp => ?_) (fun e s1 he => he))
  · obtain ⟨a, B, at_, pins', τ', G', cls, d, rfl, J0, nb, up, sky, na, os, ag, wish⟩ := xx
    have J : Inv X pins τ' G' at_ := J0.ofTry good
    have sky2 : Sky B (X.env :: X.outer) a (Zc cls d) X.env.locals caught.heap := by rw [← hs]; exact sky
    show wpAny (model X.prog X.w) X.A (noteFrame (.ref a) X.env) _ _ _
    refine Sky.land Zc.steady frs_ hf sky2 fun h3 fl3 up3 => ?_
    have J3 : Inv X pins τ' G' { caught with heap := h3 } := J.landed nb fl3.1 (up.trans up3) os ag
    obtain ⟨oe3, us3, he3, hz3, hd3⟩ := fl3.there
    have nfr : a ∉ frs (X.env :: X.outer) := fun hm => by
      obtain ⟨_, o', e', hnf⟩ := fl3.2.2.1.mem hm
      rw [he3] at e'
      cases e'
      exact hnf _ hd3
    have nL : a ≠ X.env.locals := fun z => nfr (List.mem_filterMap.mpr ⟨X.env, List.mem_cons_self .., by rw [hf, z]⟩)
    have nF : a ∉ X.fs := fun hm => by
      obtain ⟨e, he, q⟩ := List.mem_filterMap.mp hm
      exact nfr (List.mem_filterMap.mpr ⟨e, List.mem_cons_of_mem _ he, q⟩)
    have S3 := J3.suite he3 hd3 na nL nF
    have each : ∀ {hds' : List ExceptHandler} {l' : List (Value × TSx)}, HdsAs X n hds' l' → wAsM X.K i Wout D l' cls d τ' G' → wpAny (model X.prog X.w) X.A (handleBy (.ref a) X.env hds') (SP X pins D) X.xe { caught with heap := h3 } := by
      intro hds' l' hk
      induction hk with
      | nil =>
        intro wish
        refine wpAny_handleBy_nil ?_
        obtain ⟨k1, k2, k3, oe, us, TT, oT, ts', he, hz, hd, h1, hr⟩ := id fl3
        unfold PySem.passOn
        refine wpAny_bind (wpAny_field he hd h1 ?_)
        rw [if_neg (show ¬ ((Value.ref TT == Value.none) = true) from by simp)]
        have last : wpAny (model X.prog X.w) X.A (setFlight (.ref a) X.env.frame) (fun _ s4 => wpAny (model X.prog X.w) X.A (throw (.ref a) : Sem Flow) (SP X pins D) X.xe s4) X.xe { caught with heap := h3 } := by
          rw [hf]
          exact HandSPX.setFlight_upZ fl3 fun h4 hh4 up4 => wpAny_throw (tk _ _ ⟨a, B, at_, pins, τ', G', cls, d, rfl, J, nb, (up.trans up3).trans up4, .inr (.inr (by rw [hs]; exact hh4)), na, os, ag, wish⟩)
        first
          | exact wpAny_bind (wpAny_pure (wpAny_bind last))
          | exact wpAny_bind last
      | @cons x c ts b₀ suite np pos' hds2 l2 hc hsu r ih =>
        intro wish
        obtain ⟨b, hb1, hyes, hno⟩ := wish
        refine wpAny_handleBy_cons (codeAny_handlers_test ?_) (by intro q; cases q)
        have see_ty : PySem.W.Looks (model X.prog X.w) h3 (typeOf (.ref a)) cls := fun A Q E s k q => wpAny_typeOf_ref (k _ _ he3) (by rw [hz3.1]; exact q)
        have see := PySem.W.exm_one (M := model X.prog X.w) (J3.kIn) see_ty hb1
        have name : ∀ {Q : Value → Shared → Prop} {E : Value → Shared → Prop}, Q c { caught with heap := h3 } → wpAny (model X.prog X.w) (X.A.mark (some (.ref a))) (eval (.Name x np) X.env) Q E { caught with heap := h3 } := fun {Q E} q => by
          obtain ⟨hg, hdbg, hm | ⟨hm, hv, hnn⟩⟩ := hc
          · exact ld_glob (X := X.suite a ((a, oe3) :: (X.pn ++ pins))) S3 hg hm q hdbg
          · exact ld_blt (X := X.suite a ((a, oe3) :: (X.pn ++ pins))) S3 hg hm hv q hnn hdbg
        refine name (see.here ?_)
        cases b with
        | false =>
          show wpAny _ X.A (handleBy (.ref a) X.env hds2) _ _ _
          exact ih (hno rfl)
        | true =>
          refine codeAny_handlers_suite_as (HandSPX.lands_againZ fl3 fun h4 fl4 up4 => ?_)
          have J4 : Inv X pins τ' G' { caught with heap := h4 } := J.landed nb fl4.1 ((up.trans up3).trans up4) os ag
          obtain ⟨oe4, us4, he4, hz4, hd4⟩ := fl4.there
          have S4 := J4.suite he4 hd4 na nL nF
          refine store_ok (X := X.suite a ((a, oe4) :: (X.pn ++ pins))) (v := .ref a) S4 nodup slot stored rfl (fun s5 S5 => ?_) (.inr loc)
          refine wpAny_mono ((hsu a oe4 cls d (X.pn ++ pins) hz4 ⟨_, hd4⟩).run [] s5 _ G' _ S5 (hyes rfl a na)) (fun fl6 s6 hsp => ?_) (fun _ _ z => False.elim z)
          have gone : ∀ {τ6 : L2.St} {G6 : Hp} {Q : Shared → Prop}, Inv (X.suite a ((a, oe4) :: (X.pn ++ pins))) [] τ6 G6 s6 → (∀ s7, Inv X pins (τ6.set i none) G6 s7 → Q s7) →
              wpAny (model X.prog X.w) X.A (do bindName X.env n .none; unbindBehindTheSuite X.env n pos') (fun _ s7 => Q s7) X.xe s6 := fun {τ6 G6 Q} S6 hq => gone_ok (S6.unsuite good) nodup slot loc hq
          cases fl6 with
          | next =>
            obtain ⟨τ6, G6, S6, q6⟩ := hsp
            exact gone S6 fun s7 J7 => ⟨_, _, J7, q6⟩
          | brk =>
            obtain ⟨τ6, G6, S6, q6⟩ := hsp
            exact gone S6 fun s7 J7 => ⟨_, _, J7, q6⟩
          | cont =>
            obtain ⟨τ6, G6, S6, q6⟩ := hsp
            exact gone S6 fun s7 J7 => ⟨_, _, J7, q6⟩
          | ret u =>
            obtain ⟨v6, τ6, G6, S6, r6, q6⟩ := hsp
            exact gone S6 fun s7 J7 => ⟨_, _, _, J7, r6, q6⟩
    exact each hh wish
  · cases fl with
    | next =>
      obtain ⟨τ', G', J', q⟩ := hsp
      exact wpAny_execs_nil ⟨τ', G', J'.ofTry good, q⟩
    | brk =>
      obtain ⟨τ', G', J', q⟩ := hsp
      exact ⟨τ', G', J'.ofTry good, q⟩
    | cont =>
      obtain ⟨τ', G', J', q⟩ := hsp
      exact ⟨τ', G', J'.ofTry good, q⟩
    | ret u =>
      obtain ⟨v, τ', G', J', r, q⟩ := hsp
      exact ⟨v, τ', G', J'.ofTry good, r, q⟩
end
end Kx
set_option Elab.async false
set_option linter.all false
set_option maxRecDepth 100000
set_option maxHeartbeats 2000000
namespace Kx
open PySem PySem.Spec PyProof.Rows L2 Evl
open He (ga ma)
section
variable {P : Program} {w : World} {K : PySem.W.Frag} {mg : Str → Option Value} {base : Heap}
/-! ### _law_told(a lambda) -/
def ToldV (Q : VK) : VK := fun v H' => ∃ v', (some (some v) : Option (Option V)) = some (some v') ∧ [v'].length ≤ sizeLine ∧ ∀ p, H' p = none → Q (.ref p) (upd H' p (.lst [v']))
theorem toldV {Q : VK} {v : V} {H' : Hp} (h : ∀ p, H' p = none → Q (.ref p) (upd H' p (.lst [v]))) : ToldV Q v H' := ⟨v, rfl, sz_of (Nat.le_of_ble_eq_true rfl), h⟩
def TTold2 (K : PySem.W.Frag) : (XK → Hp → VK → Prop) → Hp → VK → Prop := fun tl H Q =>
  tl (fun cls d H' => (cls = .ref (ga K "Exhausted") ∧ ∃ dd m, d = some dd ∧ H' dd = some (.xd [("missing", .int m)]) ∧ RetU [.str "exhausted", .int m] H' Q) ∨
    (cls = .ref (ga K "BadSteps") ∧ ∃ dd m, d = some dd ∧ H' dd = some (.xd [("given", .int m)]) ∧ RetU [.str "steps", .int m] H' Q)) H (ToldV Q)
theorem takes_len {X : Cx} {W : WX} (tk : Takes X W) : Takes X (fun cls d σ H => σ.length = X.N.length → W cls d σ H) := fun u s' z => by
  obtain ⟨a, B, sI, pins, σ, H, cls, d, e, I, nb, up, sky, na, os, ag, w⟩ := z
  exact tk u s' ⟨a, B, sI, pins, σ, H, cls, d, e, I, nb, up, sky, na, os, ag, w I.len⟩
def N_law_told : List Str := ["_law_call", "e", "_law_found"]
theorem sc_law_told : FnScope N_law_told ["_law_call"] (defScope s_law_told) := ⟨rfl, rfl, rfl, by decide +kernel, rfl, by decide +kernel, by decide +kernel⟩
theorem told2 {X : Cx} (T : Tx X.K X.mg) {g : Addr} {cdg : Value} {q : Str} : LamX.GivesTo X N_law_told "_law_told" (defScope s_law_told) g cdg (defBody s_law_told) "_law_call" q (TTold2 X.K) := by
  intro f c' s H Q tl act hc h
  have xE := xfB_ok T.oexE.2.2.2
  have xB := xfB_ok T.oexB.2.2.2
  refine ⟨_, pss_cons (ps_try_asM (X := (cxOf C8.CX0 X.prog X.w X.K X.mg X.base N_law_told "_law_told" (defScope s_law_told) g cdg X.A X.stack s H C8.E0).nox) (i := 1)
      (tb := fun W D σ H => ∃ Ech : XK, (∀ cls d σ' H', σ'.length = N_law_told.length → Ech cls d H' → W cls d σ' H') ∧ σ[0]? = some (some (.ref f)) ∧ H c' = some (LamX.CodeO c' q) ∧ tl Ech H (fun v H2 => D.nx (σ.set 2 (some v)) H2))
      rfl rfl sc_law_told.nd rfl rfl LamX.takes0 (fun W pn xe tk _ => ?_)
      (.cons (c := .ref (ga X.K "Exhausted")) ⟨rfl, by decide, .inl (T.glo 9 _ rfl)⟩ (fun a oe cls d pn hz hf => pss_one (ps_ret (pe_tup (pa_cons pe_str (pa_cons (pe_xf xE (T.noat 9 _ rfl) hz hf (pv 1)) pa_nil)))))
        (.cons (c := .ref (ga X.K "BadSteps")) ⟨rfl, by decide, .inl (T.glo 4 _ rfl)⟩ (fun a oe cls d pn hz hf => pss_one (ps_ret (pe_tup (pa_cons pe_str (pa_cons (pe_xf xB (T.noat 8 _ rfl) hz hf (pv 1)) pa_nil))))) .nil)))
    (pss_one (ps_ret (pe_lst (pa_cons (pv 2) pa_nil)))), ?_⟩
  · refine ⟨fun pins s' σ H' D I h' => ?_⟩
    obtain ⟨Ech, hW, h1, h2, h3⟩ := h'
    have hp := fun p1 p2 => act _ pn xe Ech p1 p2 (takes_len tk) (fun cls d σ' H' z len => hW cls d σ' H' len z)
    exact (pss_one (ps_set (i := 2) sc_law_told.nd rfl (Or.inl rfl) (hp _ _))).run pins s' σ H' D I ⟨h1, h2, h3⟩
  · refine ⟨_, fun cls d σ' H' len z => ?_, rfl, hc, h⟩
    have at1 : ∀ a : Addr, (σ'.set 1 (some (V.ref a)))[1]? = some (some (V.ref a)) := fun a => List.getElem?_set_self (by rw [len]; decide)
    rcases z with ⟨rfl, dd, m, rfl, hd, k⟩ | ⟨rfl, dd, m, rfl, hd, k⟩
    · refine ⟨true, of_decide_eq_true (T.fac 84 _ rfl), fun _ a ha => ?_, fun q => nomatch q⟩
      exact ⟨.ref a, at1 a, rfl, rfl, dd, _, .int m, rfl, hd, rfl, sz_of (Nat.le_of_ble_eq_true rfl), fun t ht => k t _ (Ex.new ht) upd_same⟩
    · refine ⟨false, of_decide_eq_true (T.fac 85 _ rfl), (fun q => nomatch q), fun _ => ⟨true, of_decide_eq_true (T.fac 86 _ rfl), fun _ a ha => ?_, fun q => nomatch q⟩⟩
      exact ⟨.ref a, at1 a, rfl, rfl, dd, _, .int m, rfl, hd, rfl, sz_of (Nat.le_of_ble_eq_true rfl), fun t ht => k t _ (Ex.new ht) upd_same⟩
end
end Kx
set_option Elab.async false
set_option linter.all false
set_option maxRecDepth 100000
set_option maxHeartbeats 2000000
namespace Kx
open PySem PySem.Spec PyProof.Rows
/-! ### a run that cannot wake the sleeping generators of the table it begins with -/
def plainFrame : Frame → Frame
  | .gen _ _ l c p => .ret (fun _ => .unsupported "") none false l c p []
  | f => f
def dead (gs : GenState) : GenState := match gs with
  | .suspended _ l c p fs cl => .suspended (fun _ => .unsupported "") l c p (fs.map plainFrame) cl
  | x => x
def sleepy (gs : GenState) : Bool := match gs with
  | .suspended .. => true
  | _ => false
theorem seen_dead (gs : GenState) : (dead gs).seen = gs.seen := by
  cases gs with
  | suspended k l c p fs cl =>
    show (GenStatus.suspended, some ((c, p) :: (fs.map plainFrame).map Frame.where_)) = (GenStatus.suspended, some ((c, p) :: fs.map Frame.where_))
    rw [List.map_map]
    have : (Frame.where_ ∘ plainFrame) = Frame.where_ := by funext f; cases f <;> rfl
    rw [this]
  | _ => rfl
theorem bare_dead (gs : GenState) : (dead gs).bare = gs.bare := by cases gs <;> rfl
/-- no generator's frame -/
def FreeF (fs : List Frame) : Prop := splitAtGen fs = none
theorem free_plain (fs : List Frame) : FreeF (fs.map plainFrame) := by
  induction fs with
  | nil => rfl
  | cons f r ih =>
    cases f with
    | ret k h g l c p kp => exact (by show (splitAtGen (r.map plainFrame)).map _ = none; rw [show splitAtGen (r.map plainFrame) = none from ih]; rfl)
    | gen g k l c p => exact (by show (splitAtGen (r.map plainFrame)).map _ = none; rw [show splitAtGen (r.map plainFrame) = none from ih]; rfl)
theorem FreeF.append {a b : List Frame} (h : FreeF a) (k : FreeF b) : FreeF (a ++ b) := by
  unfold FreeF at *
  rw [splitAtGen_append_none b h, k]; rfl
theorem FreeF.tail {k : Result → Sem PySem.Fin} {h : Option Value} {g : Bool} {l : List Value} {c : Code} {p : Pos} {kp : List Value} {fs : List Frame} (x : FreeF (.ret k h g l c p kp :: fs)) : FreeF fs := by
  have y : (splitAtGen fs).map (fun (a : List Frame × (Nat × (GenResult → Sem PySem.Fin) × Code × Pos) × List Frame) => (Frame.ret k h g l c p kp :: a.1, a.2.1, a.2.2)) = none := x
  cases q : splitAtGen fs with
  | none => exact q
  | some v => rw [q] at y; cases y
def freeG : GenState → Prop
  | .suspended _ _ _ _ fs _ => FreeF fs
  | _ => True
def freeE : End → Prop
  | .susp _ _ _ _ _ _ fs => FreeF fs
  | _ => True
theorem freeG_end {e : End} (h : freeE e) : freeG e.genState := by cases e <;> first | trivial | exact h
theorem freeG_dead (gs : GenState) : freeG (dead gs) := by
  cases gs with
  | suspended k l c p fs cl => exact free_plain fs
  | _ => trivial
theorem dead_runs {M : Model} {Γ : PySem.Ctx} {p : Pos} : ∀ {t : Sem PySem.Fin} {fs : List Frame} {s s' : Shared} {e : End}, Runs M Γ p t fs s e s' → t = .unsupported "" → False := by
  intro t fs s s' e h
  induction h with
  | segRet _ _ i _ => intro q; exact i q
  | segGen _ _ i _ => intro q; exact i q
  | segSuspOut _ _ i => intro q; exact i q
  | segSuspGen _ _ _ _ i _ => intro q; exact i q
  | _ => intro q; cases q

/-- the real table behind the dead one -/
def mrg (T0 T : Array GenState) : Array GenState := T.mapIdx fun i x => match T0[i]? with
  | some gs => if sleepy gs then gs else x
  | none => x
structure Dd (T0 T : Array GenState) : Prop where
  sz : T0.size ≤ T.size
  at_ : ∀ (i : Nat) gs, T0[i]? = some gs → sleepy gs = true → T[i]? = some (dead gs)
  free : ∀ (i : Nat) x, T[i]? = some x → freeG x
theorem mrg_size {T0 T : Array GenState} : (mrg T0 T).size = T.size := by simp [mrg]
theorem mrg_get {T0 T : Array GenState} (i : Nat) : (mrg T0 T)[i]? = (T[i]?).map fun x => match T0[i]? with
  | some gs => if sleepy gs then gs else x
  | none => x := by simp [mrg]
theorem mrg_some {T0 T : Array GenState} {i : Nat} {x : GenState} (h : T[i]? = some x) (n : ∀ gs, T0[i]? = some gs → sleepy gs = false) : (mrg T0 T)[i]? = some x := by
  rw [mrg_get, h]
  show some _ = _
  cases q : T0[i]? with
  | none => rfl
  | some gs => simp [n gs q]
theorem mrg_sleep {T0 T : Array GenState} (D : Dd T0 T) {i : Nat} {gs : GenState} (h : T0[i]? = some gs) (n : sleepy gs = true) : (mrg T0 T)[i]? = some gs := by
  rw [mrg_get, D.at_ i gs h n, h]
  show some _ = _
  simp [n]
theorem mrg_push {T0 T : Array GenState} {x : GenState} (h : T0.size ≤ T.size) : mrg T0 (T.push x) = (mrg T0 T).push x := by
  apply Array.ext_getElem?
  intro i
  rw [mrg_get, Array.getElem?_push, Array.getElem?_push, mrg_size]
  by_cases e : i = T.size
  · rw [if_pos e, if_pos e]
    have : T0[i]? = none := by rw [Array.getElem?_eq_none_iff]; omega
    rw [this]; rfl
  · rw [if_neg e, if_neg e, mrg_get]
theorem mrg_set {T0 T : Array GenState} {g : Nat} {x : GenState} (n : ∀ gs, T0[g]? = some gs → sleepy gs = false) : mrg T0 (T.setIfInBounds g x) = (mrg T0 T).setIfInBounds g x := by
  apply Array.ext_getElem?
  intro i
  by_cases e : g = i
  · subst e
    by_cases hl : g < T.size
    · rw [mrg_some (x := x) (by simp [hl]) n]
      simp [mrg_size, hl]
    · rw [mrg_get]
      have h1 : (T.setIfInBounds g x)[g]? = none := by rw [Array.getElem?_eq_none_iff]; simp; omega
      have h2 : ((mrg T0 T).setIfInBounds g x)[g]? = none := by rw [Array.getElem?_eq_none_iff]; simp [mrg_size]; omega
      rw [h1, h2]; rfl
  · rw [mrg_get, Array.getElem?_setIfInBounds_ne e, Array.getElem?_setIfInBounds_ne e, mrg_get]
theorem Dd.push {T0 T : Array GenState} (D : Dd T0 T) (c : Code) : Dd T0 (T.push (.fresh c)) := by
  refine ⟨by simp; exact Nat.le_succ_of_le D.sz, fun i gs h n => ?_, fun i x h => ?_⟩
  · have hl := (Array.getElem?_eq_some_iff.mp h).1
    rw [Array.getElem?_push, if_neg (Nat.ne_of_lt (Nat.lt_of_lt_of_le hl D.sz))]
    exact D.at_ i gs h n
  · rw [Array.getElem?_push] at h
    split at h
    · cases h; trivial
    · exact D.free i x h
theorem Dd.set {T0 T : Array GenState} (D : Dd T0 T) {g : Nat} {x : GenState} (n : ∀ gs, T0[g]? = some gs → sleepy gs = false) (f : freeG x) : Dd T0 (T.setIfInBounds g x) := by
  refine ⟨by simp; exact D.sz, fun i gs h m => ?_, fun i y h => ?_⟩
  · by_cases e : g = i
    · subst e; rw [n gs h] at m; cases m
    · rw [Array.getElem?_setIfInBounds_ne e]; exact D.at_ i gs h m
  · by_cases e : g = i
    · subst e
      by_cases hl : g < T.size
      · have : (T.setIfInBounds g x)[g]? = some x := by simp [hl]
        rw [this] at h; cases h; exact f
      · have h1 : (T.setIfInBounds g x)[g]? = none := by rw [Array.getElem?_eq_none_iff]; simp; omega
        rw [h1] at h; cases h
    · rw [Array.getElem?_setIfInBounds_ne e] at h; exact D.free i y h
/-- the real state -/
def real (T0 : Array GenState) (s : Shared) : Shared := { s with gens := mrg T0 s.gens }
theorem real_set {T0 : Array GenState} {s : Shared} {g : Nat} {x : GenState} (n : ∀ gs, T0[g]? = some gs → sleepy gs = false) : real T0 (s.setGen g x) = (real T0 s).setGen g x := by
  show ({ s with gens := mrg T0 (s.gens.setIfInBounds g x) } : Shared) = { s with gens := (mrg T0 s.gens).setIfInBounds g x }
  rw [mrg_set n]
theorem Dd.awake {T0 T : Array GenState} (D : Dd T0 T) {g : Nat} {x : GenState} (h : T[g]? = some x) (n : sleepy x = false) : ∀ gs, T0[g]? = some gs → sleepy gs = false := fun gs q => by
  cases z : sleepy gs with
  | false => rfl
  | true =>
    have := D.at_ g gs q z
    rw [h] at this
    cases this
    cases gs <;> first | exact n | cases z
theorem runs_real {M : Model} (T0 : Array GenState) : ∀ {Γ : PySem.Ctx} {p : Pos} {t : Sem PySem.Fin} {fs : List Frame} {s s' : Shared} {e : End}, Runs M Γ p t fs s e s' → FreeF fs → Dd T0 s.gens →
    (freeE e ∧ Dd T0 s'.gens) ∧ Runs M Γ p t fs (real T0 s) e (real T0 s') := by
  intro Γ p t fs s s' e h
  induction h with
  | done => intro f d; exact ⟨⟨trivial, d⟩, .done⟩
  | raise => intro f d; exact ⟨⟨trivial, d⟩, .raise⟩
  | again hq _ i => intro f d; exact ⟨(i f d).1, .again hq (i f d).2⟩
  | rule _ i => intro f d; exact ⟨(i f d).1, .rule (i f d).2⟩
  | «at» _ i => intro f d; exact ⟨(i f d).1, .at (i f d).2⟩
  | load h0 _ i => intro f d; exact ⟨(i f d).1, .load h0 (i f d).2⟩
  | update h0 _ i => intro f d; exact ⟨(i f d).1, .update h0 (i f d).2⟩
  | loadIfAlive _ i => intro f d; exact ⟨(i f d).1, .loadIfAlive (i f d).2⟩
  | point _ i => intro f d; exact ⟨(i f d).1, .point (i f d).2⟩
  | alloc _ i => intro f d; exact ⟨(i f d).1, .alloc (i f d).2⟩
  | fresh _ i => intro f d; exact ⟨(i f d).1, .fresh (i f d).2⟩
  | ask _ i => intro f d; exact ⟨(i f d).1, .ask (i f d).2⟩
  | choose h0 _ i => intro f d; exact ⟨(i f d).1, .choose h0 (i f d).2⟩
  | os _ i => intro f d; exact ⟨(i f d).1, .os (i f d).2⟩
  | handled _ i => intro f d; exact ⟨(i f d).1, .handled (i f d).2⟩
  | stack _ i => intro f d; exact ⟨(i f d).1, .stack (i f d).2⟩
  | thread _ i => intro f d; exact ⟨(i f d).1, .thread (i f d).2⟩
  | @genState g' st Γ p k s e s' h0 _ i =>
    intro f d
    obtain ⟨q1, q2⟩ := i f d
    refine ⟨q1, ?_⟩
    cases q : T0[g']? with
    | none => exact .genState (mrg_some h0 fun gs z => by rw [q] at z; cases z) q2
    | some gs =>
      cases z : sleepy gs with
      | false => exact .genState (mrg_some h0 fun gs' z' => by rw [q] at z'; cases z'; exact z) q2
      | true =>
        have e1 := d.at_ g' gs q z
        rw [h0] at e1
        cases e1
        rw [seen_dead] at q2
        exact .genState (mrg_sleep d q z) q2
  | @newGen Γ p k s e s' c _ i =>
    intro f d
    obtain ⟨q1, q2⟩ := i f (d.push c)
    refine ⟨q1, .newGen ?_⟩
    show Runs _ _ _ (k (mrg T0 s.gens).size) [] ({ s with gens := (mrg T0 s.gens).push (.fresh c) } : Shared) _ _
    rw [mrg_size, ← mrg_push d.sz]
    exact q2
  | call _ _ i j => intro f d; obtain ⟨q1, q2⟩ := i rfl d; obtain ⟨q3, q4⟩ := j f q1.2; exact ⟨q3, .call q2 q4⟩
  | callSusp _ i => intro f d; obtain ⟨q1, q2⟩ := i rfl d; exact ⟨⟨FreeF.append q1.1 rfl, q1.2⟩, .callSusp q2⟩
  | yield => intro f d; exact ⟨⟨rfl, d⟩, .yield⟩
  | @resumeFresh Γ p g' l k s c e₁ s₁ e s' h0 h1 hq h2 i j =>
    intro f d
    have aw := d.awake h0 rfl
    obtain ⟨q1, q2⟩ := i rfl (d.set aw trivial)
    obtain ⟨q3, q4⟩ := j f (q1.2.set aw (freeG_end q1.1))
    rw [real_set aw] at q2 q4
    exact ⟨q3, .resumeFresh (mrg_some h0 aw) q2 hq q4⟩
  | @resumeSuspended Γ p g' r l k s k₀ l₀ c₀ p₀ fs₀ cl e₁ s₁ e s' h0 h1 hq h2 i j =>
    intro f d
    have aw : ∀ gs, T0[g']? = some gs → sleepy gs = false := fun gs q => by
      cases z : sleepy gs with
      | false => rfl
      | true =>
        have e1 := d.at_ g' gs q z
        rw [h0] at e1
        cases gs with
        | suspended k1 l1 c1 p1 fs1 cl1 =>
          cases e1
          exact (dead_runs h1 rfl).elim
        | _ => cases z
    obtain ⟨q1, q2⟩ := i (d.free _ _ h0) (d.set aw trivial)
    obtain ⟨q3, q4⟩ := j f (q1.2.set aw (freeG_end q1.1))
    rw [real_set aw] at q2 q4
    exact ⟨q3, .resumeSuspended (mrg_some h0 aw) q2 hq q4⟩
  | resumeJustStarted h0 hv _ i =>
    intro f d
    exact ⟨(i f d).1, .resumeJustStarted (mrg_some h0 (d.awake h0 rfl)) hv (i f d).2⟩
  | resumeThrowFresh h0 _ i =>
    intro f d
    have aw := d.awake h0 rfl
    obtain ⟨q1, q2⟩ := i f (d.set aw trivial)
    rw [real_set aw] at q2
    exact ⟨q1, .resumeThrowFresh (mrg_some h0 aw) q2⟩
  | resumeRunning h0 _ i =>
    intro f d
    exact ⟨(i f d).1, .resumeRunning (mrg_some h0 (d.awake h0 rfl)) (i f d).2⟩
  | resumeFinished h0 _ i =>
    intro f d
    exact ⟨(i f d).1, .resumeFinished (mrg_some h0 (d.awake h0 rfl)) (i f d).2⟩
  | segRet _ _ i j => intro f d; obtain ⟨q1, q2⟩ := i rfl d; obtain ⟨q3, q4⟩ := j f.tail q1.2; exact ⟨q3, .segRet q2 q4⟩
  | segGen _ _ _ _ => intro f d; cases f
  | segSuspOut h0 _ i => intro f d; obtain ⟨q1, q2⟩ := i rfl d; exact ⟨⟨FreeF.append q1.1 f, q1.2⟩, .segSuspOut h0 q2⟩
  | segSuspGen h0 _ _ _ _ _ => intro f d; rw [show splitAtGen _ = none from f] at h0; cases h0
/-- .. for a piece of a run -/
theorem wp_real {M : Model} (T0 : Array GenState) {α : Type} {Γ : PySem.Ctx} (t : Sem α) : ∀ {Q : α → Pos → Shared → Prop} {E : Value → Pos → Shared → Prop} {p : Pos} {s : Shared}, Dd T0 s.gens → Sem.wp M Γ t Q E p s →
    Sem.wp M Γ t (fun a p' s' => ∃ s1, s' = real T0 s1 ∧ Dd T0 s1.gens ∧ Q a p' s1) (fun x p' s' => ∃ s1, s' = real T0 s1 ∧ Dd T0 s1.gens ∧ E x p' s1) p (real T0 s) := by
  induction t with
  | pure a => intro Q E p s d h; exact ⟨s, rfl, d, h⟩
  | raise e => intro Q E p s d h; exact ⟨s, rfl, d, h⟩
  | unsupported _ => intro Q E p s _ h; exact h
  | finish _ => intro Q E p s _ h; exact h
  | rule _ k ih => intro Q E p s d h; exact ih () d h
  | «at» p' k ih => intro Q E p s d h; exact ih () d h
  | load a _ k ih => intro Q E p s d h; obtain ⟨o, ho, h⟩ := h; exact ⟨o, ho, ih o d h⟩
  | update a _ f k ih => intro Q E p s d h; exact ⟨h.1, ih () (s := { s with heap := s.heap.update a f }) d h.2⟩
  | loadIfAlive a k ih => intro Q E p s d h; exact ih _ d h
  | point _ k ih => intro Q E p s d h; exact ih () d h
  | register _ _ => intro Q E p s _ h; exact h
  | alloc o k ih => intro Q E p s d h; exact ih _ (s := { s with heap := s.heap.push o }) d h
  | fresh k ih => intro Q E p s d h; exact ih _ (s := { s with toks := s.toks + 1 }) d h
  | ask k ih => intro Q E p s d h; exact ih _ d h
  | choose src m k ih => intro Q E p s d h; exact ⟨h.1, ih _ (s := { s with drawn := s.drawn.bump src }) d h.2⟩
  | os q _ k ih => intro Q E p s d h; exact ih _ (s := { s with os := (Os.step s.os q).1 }) d h
  | call c hd _ _ k ih =>
    intro Q E p s d h
    obtain ⟨r, s', hr, h⟩ := h
    obtain ⟨q1, q2⟩ := runs_real T0 hr rfl d
    exact ⟨r, real T0 s', q2, ih r q1.2 h⟩
  | handled own k ih => intro Q E p s d h; exact ih _ d h
  | genState g k ih =>
    intro Q E p s d h
    obtain ⟨st, h0, h⟩ := h
    cases q : T0[g]? with
    | none => exact ⟨st, mrg_some h0 (fun gs z => by rw [q] at z; cases z), ih _ d h⟩
    | some gs =>
      cases z : sleepy gs with
      | false => exact ⟨st, mrg_some h0 (fun gs' z' => by rw [q] at z'; cases z'; exact z), ih _ d h⟩
      | true =>
        have e1 := d.at_ g gs q z
        rw [h0] at e1
        cases e1
        refine ⟨gs, mrg_sleep d q z, ?_⟩
        have := ih _ d h
        rw [seen_dead] at this
        exact this
  | newGen c k ih =>
    intro Q E p s d h
    have := ih _ (s := { s with gens := s.gens.push (.fresh c) }) (d.push c) h
    show Sem.wp _ _ (k (mrg T0 s.gens).size) _ _ _ ({ s with gens := (mrg T0 s.gens).push (.fresh c) } : Shared)
    rw [mrg_size, ← mrg_push d.sz]
    exact this
  | resume g r _ k ih =>
    intro Q E p s d h
    obtain ⟨res, s', hw, h⟩ := h
    suffices hh : Dd T0 s'.gens ∧ Wakes M Γ p g r (real T0 s) res (real T0 s') from ⟨res, real T0 s', hh.2, ih res hh.1 h⟩
    unfold Wakes at hw
    cases hg : s.gens[g]? with
    | none => rw [hg] at hw; exact hw.elim
    | some gs =>
      rw [hg] at hw
      have aw : ∀ gs', T0[g]? = some gs' → sleepy gs' = false := by
        cases z : sleepy gs with
        | false => exact d.awake hg z
        | true =>
          intro gs' q
          cases z' : sleepy gs' with
          | false => rfl
          | true =>
            have e1 := d.at_ g gs' q z'
            rw [hg] at e1
            cases gs' with
            | suspended k1 l1 c1 p1 fs1 cl1 =>
              cases e1
              obtain ⟨e₁, s₁, hr, _⟩ := hw
              exact (dead_runs hr rfl).elim
            | _ => cases z'
      have hg' := mrg_some hg aw
      unfold Wakes
      rw [show (real T0 s).gens[g]? = some gs from hg']
      cases gs with
      | fresh c =>
        cases r with
        | send v =>
          cases v <;> first
            | (obtain ⟨rfl, rfl⟩ := hw; exact ⟨d, rfl, rfl⟩)
            | (obtain ⟨e₁, s₁, hr, hq, rfl, rfl⟩ := hw
               obtain ⟨q1, q2⟩ := runs_real T0 hr rfl (d.set aw trivial)
               rw [real_set aw] at q2
               exact ⟨q1.2.set aw (freeG_end q1.1), e₁, real T0 s₁, q2, hq, rfl, real_set aw⟩)
        | throw x => obtain ⟨rfl, rfl⟩ := hw; exact ⟨d.set aw trivial, rfl, real_set aw⟩
      | suspended k₀ l₀ c₀ p₀ fs₀ cl =>
        obtain ⟨e₁, s₁, hr, hq, rfl, rfl⟩ := hw
        obtain ⟨q1, q2⟩ := runs_real T0 hr (d.free _ _ hg) (d.set aw trivial)
        rw [real_set aw] at q2
        exact ⟨q1.2.set aw (freeG_end q1.1), e₁, real T0 s₁, q2, hq, rfl, real_set aw⟩
      | running => obtain ⟨rfl, rfl⟩ := hw; exact ⟨d, rfl, rfl⟩
      | finished => obtain ⟨rfl, rfl⟩ := hw; exact ⟨d, rfl, rfl⟩
  | yield _ _ _ _ => intro Q E p s _ h; exact h
  | stack k ih => intro Q E p s d h; exact ih _ d h
  | fork _ _ => intro Q E p s _ h; exact h
  | thread k ih => intro Q E p s d h; exact ih _ d h
  | await _ _ _ _ _ => intro Q E p s _ h; exact h
/-- the table with its sleepers dead -/
def deadAll (T0 : Array GenState) : Array GenState := T0.map dead
theorem dd_all (T0 : Array GenState) : Dd T0 (deadAll T0) := by
  refine ⟨by simp [deadAll], fun i gs h _ => by simp [deadAll, h], fun i x h => ?_⟩
  simp only [deadAll, Array.getElem?_map] at h
  cases q : T0[i]? with
  | none => rw [q] at h; cases h
  | some gs => rw [q] at h; cases h; exact freeG_dead gs
theorem mrg_all (T0 : Array GenState) : mrg T0 (deadAll T0) = T0 := by
  apply Array.ext_getElem?
  intro i
  rw [mrg_get]
  simp only [deadAll, Array.getElem?_map]
  cases q : T0[i]? with
  | none => rfl
  | some gs =>
    show some _ = some gs
    cases gs <;> rfl
/-- THE RULE: what a judgement tells of the table with its sleepers dead holds of the table as it is, and the sleepers sleep on -/
theorem wpAny_sleepers {M : Model} {A : Around} {α : Type} {t : Sem α} {Q : α → Shared → Prop} {E : Value → Shared → Prop} {s : Shared}
    (h : wpAny M A t Q E { s with gens := deadAll s.gens }) :
    wpAny M A t (fun a s' => ∃ s1, s' = real s.gens s1 ∧ Dd s.gens s1.gens ∧ Q a s1) (fun x s' => ∃ s1, s' = real s.gens s1 ∧ Dd s.gens s1.gens ∧ E x s1) s := by
  intro Γ p hΓ
  have := wp_real s.gens t (s := { s with gens := deadAll s.gens }) (dd_all _) (h Γ p hΓ)
  have e : real s.gens { s with gens := deadAll s.gens } = s := by
    show ({ s with gens := mrg s.gens (deadAll s.gens) } : Shared) = s
    rw [mrg_all]
  rw [e] at this
  exact this
end Kx
set_option Elab.async false
set_option linter.all false
set_option maxRecDepth 100000
set_option maxHeartbeats 2000000
namespace Kx
open PySem PySem.Spec PyProof.Rows
/-! ### one segment of a generator's run, with any post -/
def SegP (M : Model) (A : Around) (F : End → Shared → Prop) (c : Code) (t : Sem PySem.Fin) (fs : List Frame) (s : Shared) : Prop :=
  ∀ (G : PySem.Ctx) (p : Pos), G.code = c → G.Woken A → ∃ e s', Runs M G p t fs s e s' ∧ F e s'
section
variable {M : Model} {A : Around} {F : End → Shared → Prop} {c : Code} {fs : List Frame} {s : Shared}
theorem sg_wrap {α : Type} {m : Sem α} {K : α → Sem PySem.Fin} {J : Value → Sem PySem.Fin} {gd : Bool → Bool} {lv : List Value → List Value}
    (h : wpAny M (A.over c fs) m (fun a s' => SegP M A F c (K a) fs s') (fun _ _ => False) s) : SegP M A F c (m.wrap K J gd lv) fs s := by
  rintro G p rfl hG
  exact runs_wrap_of_wp K J gd lv m (h (G.over fs) p (hG.over fs)) (fun a p' s' h' => h' G p' rfl hG) fun _ _ _ h' => h'.elim
theorem sg_bind {α : Type} {m : Sem α} {K : α → Sem PySem.Fin} (h : wpAny M (A.over c fs) m (fun a s' => SegP M A F c (K a) fs s') (fun _ _ => False) s) : SegP M A F c (m >>= K) fs s := by
  rw [Sem.bind_eq_wrap' m K]; exact sg_wrap h
theorem sg_bindw {α β : Type} {m : Sem α} {f : α → Sem β} {K : β → Sem PySem.Fin} {J : Value → Sem PySem.Fin} {gd : Bool → Bool} {lv : List Value → List Value}
    (h : wpAny M (A.over c fs) m (fun a s' => SegP M A F c ((f a).wrap K J gd lv) fs s') (fun _ _ => False) s) : SegP M A F c ((m >>= f).wrap K J gd lv) fs s := by
  rw [Sem.bind_eq_wrap' m f, Sem.wrap_wrap]; exact sg_wrap h
theorem sg_at {p' : Pos} {k : Unit → Sem PySem.Fin} (h : SegP M A F c (k ()) fs s) : SegP M A F c (.at p' k) fs s :=
  sg_wrap (m := standAt p') (K := k) (J := .raise) (gd := id) (lv := id) (wpAny_standAt h)
theorem sg_point {l : List Value} {k : Unit → Sem PySem.Fin} (h : SegP M A F c (k ()) fs s) : SegP M A F c (.point l k) fs s :=
  sg_wrap (m := point) (K := k) (J := .raise) (gd := id) (lv := fun _ => l) (wpAny_point h)
theorem sg_call {c' : Code} {hv : Option Value} {g : Bool} {l : List Value} {k : Result → Sem PySem.Fin} (hc : ∀ p, SegP M A F c' (M.den c') (.ret k hv g l c p [] :: fs) s) : SegP M A F c (.call c' hv g l k) fs s := by
  rintro G p rfl hG
  obtain ⟨e, s', hr, he⟩ := hc p (G.goto c') p rfl (hG.goto c')
  exact ⟨e, s', runs_call_seg hr, he⟩
theorem sg_leaf {k : Result → Sem PySem.Fin} {hv : Option Value} {g : Bool} {l kp : List Value} {c₁ : Code} {p₁ : Pos} (r : Result) (hk : SegP M A F c₁ (k r) fs s) : SegP M A F c (leafOf r) (.ret k hv g l c₁ p₁ kp :: fs) s := by
  rintro G p rfl hG
  obtain ⟨e, s', hr, he⟩ := hk (G.goto c₁) p₁ rfl (hG.goto c₁)
  exact ⟨e, s', Runs.pop r hr, he⟩
theorem sg_again {c' : Code} (hq : c'.quiet = true) (hc : SegP M A F c' (M.den c') fs s) : SegP M A F c (.pure (.again c')) fs s := by
  rintro G p rfl hG
  obtain ⟨e, s', hr, he⟩ := hc (G.goto c') p rfl (hG.goto c')
  exact ⟨e, s', Runs.head (c₁ := c') (fun _ _ x => .again hq x) hr, he⟩
theorem sg_end (r : Result) (h : F (.ret r) s) : SegP M A F c (leafOf r) [] s := by
  rintro G p rfl _
  exact ⟨_, s, Runs.leaf r, h⟩
theorem sg_yield {v : Value} {g : Bool} {l : List Value} {k : Resume → Sem PySem.Fin} (hfs : splitAtGen fs = none) (h : ∀ p, F (.susp v g l k c p fs) s) : SegP M A F c (.yield v g l k) fs s := by
  rintro G p rfl _
  exact ⟨_, s, Runs.yield' fs hfs, h p⟩
variable {env : Env} {K : Flow → Sem PySem.Fin} {J : Value → Sem PySem.Fin} {gd : Bool → Bool} {lv : List Value → List Value}
theorem sg_nil (h : SegP M A F c (K .next) fs s) : SegP M A F c ((execs [] env).wrap K J gd lv) fs s := h
theorem sg_cons {st : Stmt} {rest : List Stmt} (h : SegP M A F c ((exec st env).wrap (fun f => match f with | .next => (execs rest env).wrap K J gd lv | f => K f) J gd lv) fs s) :
    SegP M A F c ((execs (st :: rest) env).wrap K J gd lv) fs s := by rw [execs_cons_wrap]; exact h
/-- a yield: it hands v out; behind it the rest goes on -/
theorem sg_Yield {e : Expr} {yp pos : Pos} (hfs : splitAtGen fs = none) (hgd : gd false = false)
    (h : wpAny M (A.over c fs) (eval e env) (fun v s' => ∀ (k : Resume → Sem PySem.Fin) (l : List Value) (p : Pos),
        (∀ (A' : Around) (F' : End → Shared → Prop) (s'' : Shared), SegP M A' F' c (K .next) fs s'' → SegP M A' F' c (k (.send .none)) fs s'') → F (.susp v false l k c p fs) s') (fun _ _ => False) s)
    (hco : env.scope.isCoroutine = false := by rfl) (hi : interactive env = false := by rfl) : SegP M A F c ((exec (.Expr (.Yield (some e) yp) pos) env).wrap K J gd lv) fs s := by
  rw [exec_Expr env _ pos hi rfl]
  show SegP M A F c (.at pos fun _ => ((eval e env >>= fun v => (standAt yp >>= fun _ => yieldOut env v)) >>= fun x => dropValue (.Yield (some e) yp) pos x).wrap K J gd lv) fs s
  have hy : ∀ v, yieldOut env v = yieldValue v := fun v => by simp only [yieldOut, hco, Bool.false_eq_true, if_false]
  simp only [hy]
  refine sg_at ?_
  rw [Sem.bind_eq_wrap', Sem.bind_eq_wrap', Sem.wrap_wrap, Sem.wrap_wrap]
  refine sg_wrap (wpAny_mono h (fun v s' hv => ?_) fun _ _ x => x)
  refine sg_at (sg_yield hfs fun p => ?_)
  have key : ∀ (g : Bool) (l : List Value) (k : Resume → Sem PySem.Fin), g = false → (∀ (A' : Around) (F' : End → Shared → Prop) (s'' : Shared), SegP M A' F' c (K .next) fs s'' → SegP M A' F' c (k (.send .none)) fs s'') → F (.susp v g l k c p fs) s' := fun g l k hg hk => by
    subst hg; exact hv k l p hk
  refine key _ _ _ hgd ?_
  intro A' F' s'' x
  exact x
end
section
variable {P : Program} {w : World} {A : Around} {F : End → Shared → Prop} {fs : List Frame} {s : Shared} {env : Env}
theorem sg_func {body : List Stmt}
    (h : SegP (model P w) A F (.func body env) ((execs body env).wrap (fun f => .pure (.done (.ret (match f with | .ret v => v | _ => .none)))) (fun e => (leaving env e).wrap (fun _ => .raise e) .raise id id) id id) fs s) :
    SegP (model P w) A F (.func body env) ((model P w).den (.func body env)) fs s := by
  show SegP _ A F _ (.point [] fun _ => ((execs body env).onRaise (leaving env)) >>= _) fs s
  refine sg_point ?_
  rw [Sem.onRaise_eq_wrap, Sem.bind_eq_wrap', Sem.wrap_wrap]
  rw [Sem.wrap_congr (execs body env) _ _ (K' := fun f => .pure (.done (.ret (match f with | .ret v => v | _ => .none))))
    (H' := fun x => (leaving env x).wrap (fun _ => .raise x) .raise id id) (fun f => by cases f <;> rfl) (fun x => by rw [Sem.bind_eq_wrap, Sem.wrap_wrap]; rfl)]
  exact h
/-- a for, ahead of its turns -/
theorem sg_For {c : Code} {K : Flow → Sem PySem.Fin} {J : Value → Sem PySem.Fin} {gd : Bool → Bool} {lv : List Value → List Value} {tg iter : Expr} {body : List Stmt} {pos : Pos}
    (h : wpAny (model P w) (A.over c fs) (eval iter env) (fun x s1 => wpAny (model P w) (A.over c fs) (pyIter x) (fun it s2 => ∀ (p : Pos) (k : Result → Sem PySem.Fin), (∀ f, k (.ok f) = K f) →
      SegP (model P w) A F (.forLoop tg it body [] env) ((model P w).den (.forLoop tg it body [] env)) (.ret k none (gd false) (lv []) c p [] :: fs) s2) (fun _ _ => False) s1) (fun _ _ => False) s)
    (hs : ∀ x, foldedSetIterable iter env x = pure x := by intro _; rfl) : SegP (model P w) A F c ((exec (.For tg iter body [] pos) env).wrap K J gd lv) fs s := by
  rw [exec_For]
  refine sg_bindw (wpAny_standAt (sg_bindw (wpAny_mono h (fun x s1 h1 => ?_) fun _ _ z => z)))
  refine sg_bindw (wpAny_of_eq (hs x) (sg_bindw (wpAny_standAt (sg_bindw (wpAny_holding (wpAny_mono h1 (fun it s2 h2 => ?_) fun _ _ z => z))))))
  refine sg_call fun p => ?_
  exact h2 p _ fun f => rfl
/-- one turn -/
theorem sg_forLoop {x : Str} {px : Pos} {it : Value} {body : List Stmt}
    (h : wpAny (model P w) (A.over (.forLoop (.Name x px) it body [] env) fs) (pyNext it) (fun r s1 => match r with
      | none => SegP (model P w) A F (.forLoop (.Name x px) it body [] env) (.pure (.again (.block [] env))) fs s1
      | some v => wpAny (model P w) (A.over (.forLoop (.Name x px) it body [] env) fs) (letOwnedTupleGo (.Name x px) it v) (fun _ s1' => wpAny (model P w) (A.over (.forLoop (.Name x px) it body [] env) fs) (assign (.Name x px) env v) (fun _ s2 =>
          ∀ (K : Flow → Sem PySem.Fin) (J : Value → Sem PySem.Fin), K .next = .pure (.again (.forLoop (.Name x px) it body [] env)) → SegP (model P w) A F (.forLoop (.Name x px) it body [] env) ((execs body env).wrap K J id id) fs s2) (fun _ _ => False) s1') (fun _ _ => False) s1) (fun _ _ => False) s) :
    SegP (model P w) A F (.forLoop (.Name x px) it body [] env) ((model P w).den (.forLoop (.Name x px) it body [] env)) fs s := by
  show SegP _ A F _ ((forTurn (.Name x px) it body [] env).onRaise (fun x => do noteFrame x env; theTreesLotGoes x)) fs s
  unfold forTurn
  rw [Sem.onRaise_eq_wrap]
  refine sg_bindw (wpAny_standAt (sg_bindw (wpAny_onRaise (wpAny_mono h (fun r s1 h1 => ?_) fun _ _ z => z.elim))))
  cases r with
  | none => exact h1
  | some v =>
    refine sg_bindw (wpAny_mono h1 (fun _ s1' h1' => sg_bindw (wpAny_mono h1' (fun _ s2 h2 => ?_) fun _ _ z => z)) fun _ _ z => z)
    rw [Sem.bind_eq_wrap', Sem.wrap_wrap]
    exact h2 _ _ rfl
/-- behind the last turn -/
theorem sg_block {fs : List Frame} {c : Code} (h : SegP (model P w) A F (.block [] env) (.pure (.done .next)) fs s) : SegP (model P w) A F c (.pure (.again (.block [] env))) fs s := by
  refine sg_again rfl ?_
  show SegP _ A F _ ((execs [] env).onRaise (fun x => do noteFrame x env; theTreesLotGoes x) >>= fun f => pure (.done f)) fs s
  exact h
end
end Kx
set_option Elab.async false
set_option linter.all false
set_option maxRecDepth 100000
set_option maxHeartbeats 2000000
namespace Kx
open PySem PySem.Spec PyProof.Rows L2
/-! ### the first n objects of a state -/
def cut (s : Shared) (n : Nat) : Shared := { s with heap := { s.heap with objs := s.heap.objs.extract 0 n } }
section
variable {s : Shared} {n : Nat} {base : Heap}
theorem cut_size (h : n ≤ s.heap.objs.size) : (cut s n).heap.objs.size = n := by
  show (s.heap.objs.extract 0 n).size = n
  simp only [Array.size_extract]; omega
theorem cut_objs (b : Nat) : (cut s n).heap.objs[b]? = if b < n then s.heap.objs[b]? else none := by
  have hz : (s.heap.objs.extract 0 n).size = min n s.heap.objs.size := by simp only [Array.size_extract]; omega
  show (s.heap.objs.extract 0 n)[b]? = _
  by_cases hb : b < n
  · rw [if_pos hb]
    by_cases hs : b < s.heap.objs.size
    · rw [Array.getElem?_eq_getElem hs, Array.getElem?_eq_getElem (by rw [hz]; exact Nat.lt_min.mpr ⟨hb, hs⟩)]
      simp
    · rw [Array.getElem?_eq_none_iff.mpr (Nat.le_of_not_lt hs), Array.getElem?_eq_none_iff, hz]
      exact Nat.le_trans (Nat.min_le_right _ _) (Nat.le_of_not_lt hs)
  · rw [if_neg hb, Array.getElem?_eq_none_iff, hz]
    exact Nat.le_trans (Nat.min_le_left _ _) (Nat.le_of_not_lt hb)
theorem cut_lt {b : Addr} (hb : b < n) : (cut s n).heap.get? b = s.heap.get? b := by
  unfold Heap.get?
  rw [cut_objs, if_pos hb]
theorem cut_ge {b : Addr} (hb : n ≤ b) : (cut s n).heap.get? b = none := by
  unfold Heap.get?
  rw [cut_objs, if_neg (Nat.not_lt.mpr hb)]
theorem cut_sub {b : Addr} {o : Obj} (h : (cut s n).heap.get? b = some o) : b < n ∧ s.heap.get? b = some o := by
  by_cases hb : b < n
  · rw [cut_lt hb] at h; exact ⟨hb, h⟩
  · rw [cut_ge (Nat.le_of_not_lt hb)] at h; cases h
theorem cut_funs {l : List Env} (hl : s.heap.FunFrames base l) (hb : ∀ b ∈ frs l, b < n) : (cut s n).heap.FunFrames base l := by
  induction l with
  | nil => trivial
  | cons env r ih =>
    obtain ⟨hk, ⟨L, o, hf, hn, ho, hd⟩, hr⟩ := hl
    have hL : L < n := hb L (by unfold frs; rw [List.filterMap_cons, hf]; exact List.mem_cons_self)
    exact ⟨hk, ⟨L, o, hf, hn, (cut_lt hL).trans ho, hd⟩, ih hr fun b m => hb b (by unfold frs; rw [List.filterMap_cons, hf]; exact List.mem_cons_of_mem _ m)⟩
end
/-! ### a generator's frame comes back to life: its own objects are as they were, all else may have changed -/
section
variable {P : Program} {w : World} {K : PySem.W.Frag} {mg : Str → Option Value} {base : Heap} {N ps : List Str} {qual : Str} {scope : Scope} {f : Addr} {cd : Value} {A : Around} {outer : List Env} {s : Shared} {H : Hp} {E : XK} {n : Nat}
theorem cells_none : ∀ (names : List (Str × NameKind)) (a : Nat), (∀ y ∈ names, y.2 ≠ .cell) → cellsFrom a names [] = []
  | [], _, _ => rfl
  | (x, k) :: r, a, h => by
    have hk : (k == NameKind.cell) = false := by
      cases k <;> first | rfl | exact absurd rfl (h _ List.mem_cons_self)
    show (if (k == NameKind.cell) = true then cellsFrom (a + 1) r [(x, a)] else cellsFrom a r []) = []
    rw [hk, if_neg Bool.false_ne_true]
    exact cells_none r a fun y hy => h y (List.mem_cons_of_mem _ hy)
theorem inv_wake (S : GScope N ps scope) (nc : ∀ y ∈ scope.names, y.2 ≠ .cell) (hd : A.handled = none) (e0 : Env0 P w K mg base A outer s H) (hb : base.objs.size ≤ n) (ho : ∀ b ∈ frs outer, b < n) (hn : n ≤ s.heap.objs.size)
    {m : Str → Option Value} (ns : s.heap.Ns n m) (hL : H n = none) {σ : L2.St} (hl : ∀ (i : Nat) (x : Str) (v : V), N[i]? = some x → σ[i]? = some (some v) → ∃ u, RelV v u ∧ m x = some u) (len : σ.length = N.length) {fp : List (Addr × Obj)}
    (hp : ∀ p ∈ fp, s.heap.get? p.1 = some p.2 ∧ H p.1 = none ∧ n < p.1 ∧ ∀ v, p.2.data ≠ .cell v) :
    Inv (cxOf CX0 P w K mg base N qual scope f cd A outer (cut s n) H E).nox fp σ H s := by
  have ez : (cut s n).heap.objs.size = n := cut_size hn
  have noc : ∀ (x : Str) (c : Addr), (envOfC qual scope (cut s n).heap.objs.size f cd).cells.lookup x = some c → False := fun x c h => by
    have q : (cellsFrom ((cut s n).heap.objs.size + 1) scope.names []).lookup x = some c := h
    rw [cells_none scope.names _ nc] at q
    cases q
  have nok : ∀ x, scope.names.lookup x = some .cell → False := fun x h => nc _ (PySem.mem_of_lookup h) rfl
  have nof : ∀ x, scope.names.lookup x = some .free → False := fun x h => S.nofree _ (PySem.mem_of_lookup h) rfl
  have noA : ∀ b : Addr, b ∉ (cxOf CX0 P w K mg base N qual scope f cd A outer (cut s n) H E).nox.ex := fun b z => absurd (show b ∈ ([] : List Addr) from z) (by simp)
  refine ⟨⟨e0.mod, S.kind, rfl, rfl, Nat.le_refl _, fun x _ c h1 _ => (noc x c h1).elim, fun x hx => ?_, fun x c _ h => (noc x c h).elim, fun _ => hd, Around.frames_deeper e0.frames, .inr ⟨rfl, rfl⟩, fun b z => absurd z (noA b), fun b o e => ?_, ?_, fun b _ _ => noA b, fun b z => absurd z (noA b), cut_funs e0.funs ho, e0.frf⟩,
    rfl, e0.bare, ⟨fun b o e _ _ _ => (cut_sub e).2, fun b o e _ _ _ => ⟨o.slots, (cut_sub e).2⟩, fun b o _ h _ => h, fun b o e _ => ⟨o, (cut_sub e).2⟩, fun _ _ h => h, fun _ _ _ h => h, fun b qs h => ⟨#[], by rw [Array.append_empty]; exact h⟩⟩, ⟨m, ?_, fun i x v h1 h2 h3 => ?_⟩,
    fun x c h => (noc x c h).elim, ?_, fun x c h => (noc x c h).elim, fun p hp' => ?_, e0.hok, len⟩
  · have hx : scope.names.lookup x = some .cell ∨ scope.names.lookup x = some .free := hx
    rcases hx with hx | hx
    · exact (nok x hx).elim
    · exact (nof x hx).elim
  · obtain ⟨h1, h2⟩ := e0.bs b o e
    exact ⟨(cut_lt (Nat.lt_of_lt_of_le (Heap.lt_size e) hb)).trans h1, h2⟩
  · show base.objs.size ≤ (cut s n).heap.objs.size
    rw [ez]; exact hb
  · show s.heap.Ns (cut s n).heap.objs.size m
    rw [ez]; exact ns
  · obtain ⟨u, r, e⟩ := hl i x v h1 h2
    refine ⟨u, r, .inl ⟨?_, e⟩⟩
    have h3 : scope.names.lookup x = some .local ∨ scope.names.lookup x = some .cell ∨ scope.names.lookup x = some .free := h3
    rcases h3 with h | h | h
    · exact h
    · exact (nok x h).elim
    · exact (nof x h).elim
  · show H (cut s n).heap.objs.size = none
    rw [ez]; exact hL
  · have hp2 : p ∈ fp := (List.mem_append.mp hp').elim (fun z => absurd (show p ∈ ([] : List (Addr × Obj)) from z) (by simp)) id
    obtain ⟨h1, h2, h3, h4⟩ := hp p hp2
    refine ⟨h1, h2, ?_, fun z => absurd (Nat.lt_trans (ho p.1 z) h3) (Nat.lt_irrefl _), h4⟩
    show p.1 ≠ (cut s n).heap.objs.size
    rw [ez]; exact Nat.ne_of_gt h3
end
/-! ### what a segment leaves -/
structure Left (P : Program) (w : World) (outer : List Env) (n : Nat) (H : Hp) (s : Shared) (H' : Hp) (s' : Shared) : Prop where
  os : s'.os = s.os
  bare : AllBare s'.gens
  un : Un (frs outer) [] H H' (cut s n).heap s'.heap
  hok : HOk P w H' s'.heap
  sz : n ≤ s'.heap.objs.size
/-- all of the consumer that is older than the generator stands -/
theorem inv_left {X : Cx} {pins : List (Addr × Obj)} {σ : L2.St} {H H' : Hp} {s s' : Shared} {n : Nat} (I : Inv X pins σ H s) (h0 : X.s_0.heap.objs.size ≤ n) (hL : X.env.locals < n) (hc : ∀ x c, X.env.cells.lookup x = some c → c < n)
    (hp : ∀ p ∈ X.pn ++ pins, p.1 < n) (Z : Left X.prog X.w X.stack n H s H' s') : Inv X pins σ H' s' := by
  have out : ∀ b o, b ∉ (List.range s.heap.objs.size).filter (fun b => decide (n ≤ b)) → s.heap.get? b = some o → (cut s n).heap.get? b = some o := fun b o hb e => by
    have lt := Heap.lt_size e
    have : b < n := by
      rcases Nat.lt_or_ge b n with z | z
      · exact z
      · exact (hb (List.mem_filter.mpr ⟨List.mem_range.mpr lt, decide_eq_true z⟩)).elim
    rw [cut_lt this]; exact e
  refine I.call' (ch := (List.range s.heap.objs.size).filter fun b => decide (n ≤ b)) Z.os ⟨fun b o e n0 hb hx => Z.un.keep b o (out b o hx e) n0 hb (by simp), fun b o e n0 hb hx => Z.un.slot b o (out b o hx e) n0 hb (by simp), fun b o e n0 hx => Z.un.free b o (out b o hx e) n0 (by simp),
    fun b o e hx => Z.un.there b o (out b o hx e) (by simp), Z.un.tups, Z.un.frzs, Z.un.tbls⟩ Z.hok Z.bare fun b hb => ?_
  have hb' : n ≤ b := of_decide_eq_true (List.mem_filter.mp hb).2
  refine ⟨.inr (Nat.le_trans h0 hb'), Nat.ne_of_gt (Nat.lt_of_lt_of_le hL hb'), fun x c e z => ?_, fun p hp' z => ?_⟩
  · exact absurd (Nat.lt_of_lt_of_le (hc x c e) (by rw [z]; exact hb')) (Nat.lt_irrefl _)
  · exact absurd (Nat.lt_of_lt_of_le (hp p hp') (by rw [z]; exact hb')) (Nat.lt_irrefl _)
end Kx
set_option Elab.async false
set_option linter.all false
set_option maxRecDepth 100000
set_option maxHeartbeats 2000000
namespace Kx
open PySem PySem.Spec PyProof.Rows L2
/-- the generator's state wakes and runs so -/
def WakesTo (M : Model) (A : Around) (F : End → Shared → Prop) (gs : GenState) (s : Shared) : Prop :=
  match gs with
  | .fresh c => SegP M A F c (M.den c) [] s
  | .suspended k _ c _ fs _ => SegP M A F c (k (.send .none)) fs s
  | _ => False
theorem resume_sg {M : Model} {A : Around} {F : End → Shared → Prop} {E : Value → Shared → Prop} {s : Shared} {g : Nat} {gs : GenState} {l : List Value} {α : Type} {k : GenResult → Sem α} {Q : α → Shared → Prop} (hg : s.gens[g]? = some gs)
    (hw : WakesTo M A F gs (s.setGen g .running)) (hF : ∀ e s1, F e s1 → e.quiet = true ∧ wpAny M A (k e.result) Q E (s1.setGen g e.genState)) : wpAny M A (.resume g (.send .none) l k) Q E s := by
  intro G p hG
  rw [Sem.wp_resume]
  cases gs with
  | fresh c =>
    obtain ⟨e, s1, hr, he⟩ := hw (G.wake c p) p rfl (hG.wake c p)
    obtain ⟨hq, hk⟩ := hF e s1 he
    exact ⟨_, _, by unfold Wakes; rw [hg]; exact ⟨e, s1, hr, hq, rfl, rfl⟩, hk G p hG⟩
  | suspended k₀ l₀ c p₀ fs cl =>
    obtain ⟨e, s1, hr, he⟩ := hw (G.wake c p) p₀ rfl (hG.wake c p)
    obtain ⟨hq, hk⟩ := hF e s1 he
    exact ⟨_, _, by unfold Wakes; rw [hg]; exact ⟨e, s1, hr, hq, rfl, rfl⟩, hk G p hG⟩
  | running => exact hw.elim
  | finished => exact hw.elim
/-- next over a generator -/
theorem next_sg {P : Program} {w : World} {A : Around} {E : Value → Shared → Prop} {s : Shared} {a : Addr} {g : Nat} {gs : GenState} {F : End → Shared → Prop} {Q : Option Value → Shared → Prop} (hh : A.handled = none)
    (hl : s.heap.NoLimit) (hroom : A.depth < recursionLimit) (hg : s.heap.IsGen a g) (hgs : s.gens[g]? = some gs) (hw : WakesTo (model P w) A.in1 F gs (s.setGen g .running))
    (hF : ∀ e s1, F e s1 → e.quiet = true ∧ match e with
      | .susp v .. => Q (some v) (s1.setGen g e.genState)
      | .ret r => r = .ok (.ret .none) ∧ ∀ h', (∀ b o, s1.heap.get? b = some o → h'.get? b = some o) → Q none { s1.setGen g .finished with heap := h' }) :
    wpAny (model P w) A (pyNext (.ref a)) Q E s := by
  unfold pyNext
  refine wpAny_bind (wpAny_attempt (wpAny_callSpecial?_slot (name := Str.ofString "__next__") hg.typeIs slot_gen_next
    (wpAny_call_entry slot_gen_next hg.typeIs entry_gen_next ?_ (args_gen_next _))))
  show wpAny _ A.in1 (Builtin.Generator.genWake (.ref a) (.send .none)) _ _ s
  unfold Builtin.Generator.genWake
  refine wpAny_bind (wpAny_holding (wpAny_genNumber hg (wpAny_bind (wpAny_genState hgs ?_))))
  have fin : ∀ e s1, F e s1 → e.quiet = true ∧ _ := hF
  cases gs with
  | running => exact hw.elim
  | finished => exact hw.elim
  | _ =>
    refine wpAny_bind (wpAny_roomToWake hl hroom ?_)
    show wpAny _ A.in1 (.resume g (.send .none) [] _) _ _ s
    refine resume_sg hgs hw fun e s1 he => ?_
    obtain ⟨hq, hx⟩ := hF e s1 he
    refine ⟨hq, ?_⟩
    cases e with
    | susp v g₀ l₀ k₀ c₀ p₀ fs₀ => exact wpAny_pure ⟨v, rfl, wpAny_pure hx⟩
    | ret r =>
      obtain ⟨er, hx⟩ := hx
      subst er
      show wpAny _ A.in1 (newExc (.type "StopIteration") [] >>= _) _ _ _
      refine wpAny_bind ?_
      simp only [newExc, newTuple]
      refine wpAny_bind (wpAny_newObj_type ?_ (by size_fits))
      refine wpAny_bind (m := firstArgMember _ _) (wpAny_of_eq (a := Value.none) (by first | rfl | (simp only [firstArgMember]; rfl)) ?_)
      refine wpAny_newObj_type ?_ (by size_fits)
      simp only [raiseNew]
      refine wpAny_bind (wpAny_bind (wpAny_handled ?_))
      first | rw [show A.in1.handled = none from hh] | rw [hh]
      refine wpAny_throw ?_
      refine wpAny_bind (wpAny_isInstance (T := "StopIteration") (b := true) ⟨_, Heap.get?_push_size _ rfl, rfl⟩ isSubtype_stop ?_)
      exact wpAny_pure (hx _ fun b o hb => Heap.get?_push_of_some _ (Heap.get?_push_of_some _ hb))

/-! ### the generator: m items are still to come -/
/-- its own objects -/
def Own (n : Nat) (fp : List (Addr × Obj)) (H : Hp) (s : Shared) : Prop := ∀ p ∈ fp, s.heap.get? p.1 = some p.2 ∧ H p.1 = none ∧ n ≤ p.1 ∧ ∀ v, p.2.data ≠ .cell v
section
variable (P : Program) (w : World) (K : PySem.W.Frag) (mg : Str → Option Value) (base : Heap) (A : Around) (outer : List Env) (n : Nat) (pa : Addr × Obj) (go : Nat → Hp → Prop) (yld : Nat → Hp → V → Hp → Prop)
def GoW : Nat → Nat → List (Addr × Obj) → GenState → Prop
  | 0, _, fp, gs => ∀ (s : Shared) (H : Hp), Env0 P w K mg base A outer s H → n ≤ s.heap.objs.size → Own n fp H s → WakesTo (model P w) A (fun e s1 => e = .ret (.ok (.ret .none)) ∧ ∃ H1, Evl.Ex H H1 ∧ Left P w outer n H s H1 s1) gs s
  | m + 1, i, fp, gs => ∀ (s : Shared) (H : Hp), Env0 P w K mg base A outer s H → n ≤ s.heap.objs.size → Own n fp H s → go i H →
    WakesTo (model P w) A (fun e s1 => ∃ v l k c p fs x H1 fp1, e = .susp v false l k c p fs ∧ fs.any Frame.guarded = false ∧ L2.RelV x v ∧ yld i H x H1 ∧ Left P w outer n H s H1 s1 ∧ Own n fp1 H1 s1 ∧ pa ∈ fp1 ∧ GoW m (i + 1) fp1 (.suspended k l c p fs false)) gs s
end
end Kx
set_option Elab.async false
set_option linter.all false
set_option maxRecDepth 100000
set_option maxHeartbeats 2000000
namespace Kx
open PySem PySem.Spec PyProof.Rows L2 GenW
/-- a generator's body's context; n: its frame -/
abbrev gX (P : Program) (w : World) (K : PySem.W.Frag) (mg : Str → Option Value) (base : Heap) (N : List Str) (qual : Str) (scope : Scope) (f : Addr) (cd : Value) (A : Around) (outer : List Env) (s : Shared) (H : Hp) : Cx :=
  (cxOf CX0 P w K mg base N qual scope f cd A outer s H E0).nox
def PostW (P : Program) (w : World) (K : PySem.W.Frag) (mg : Str → Option Value) (base : Heap) (A : Around) (outer : List Env) (n : Nat) (pa : Addr × Obj) (go : Nat → Hp → Prop) (yld : Nat → Hp → V → Hp → Prop) (r i : Nat) (s : Shared) (H : Hp) (e : End) (s1 : Shared) : Prop :=
  match r with
  | 0 => e = .ret (.ok (.ret .none)) ∧ ∃ H1, Evl.Ex H H1 ∧ Left P w outer n H s H1 s1
  | r + 1 => ∃ v l k c p fs x H1 fp1, e = .susp v false l k c p fs ∧ fs.any Frame.guarded = false ∧ L2.RelV x v ∧ yld i H x H1 ∧ Left P w outer n H s H1 s1 ∧ Own n fp1 H1 s1 ∧ pa ∈ fp1 ∧ GoW P w K mg base A outer n pa go yld r (i + 1) fp1 (.suspended k l c p fs false)
theorem gow_of {P : Program} {w : World} {K : PySem.W.Frag} {mg : Str → Option Value} {base : Heap} {A : Around} {outer : List Env} {n : Nat} {pa : Addr × Obj} {go : Nat → Hp → Prop} {yld : Nat → Hp → V → Hp → Prop} {r i : Nat} {fp : List (Addr × Obj)} {gs : GenState}
    (h : ∀ (s : Shared) (H : Hp), Env0 P w K mg base A outer s H → n ≤ s.heap.objs.size → Own n fp H s → (0 < r → go i H) → WakesTo (model P w) A (PostW P w K mg base A outer n pa go yld r i s H) gs s) : GoW P w K mg base A outer n pa go yld r i fp gs := by
  cases r with
  | zero => exact fun s H e0 hn ho => h s H e0 hn ho fun z => absurd z (Nat.lt_irrefl _)
  | succ r => exact fun s H e0 hn ho hg => h s H e0 hn ho fun _ => hg
section
variable {P : Program} {w : World} {K : PySem.W.Frag} {mg : Str → Option Value} {base : Heap} {N ps : List Str} {qual : Str} {scope : Scope} {f : Addr} {cd : Value} {A : Around} {outer : List Env} {n : Nat}
theorem left_of {s0 s : Shared} {H0 H : Hp} {pins : List (Addr × Obj)} {σ : L2.St} (hn : n ≤ s0.heap.objs.size) (I : Inv (gX P w K mg base N qual scope f cd A outer (cut s0 n) H0) pins σ H s) : Left P w outer n H0 s0 H s :=
  ⟨I.os, I.bare, I.base, I.hok, by have := I.sz; have e : (cut s0 n).heap.objs.size = n := cut_size hn; have q : (cut s0 n).heap.objs.size ≤ s.heap.objs.size := this; omega⟩
theorem fpok_of (S : GScope N ps scope) (nc : ∀ y ∈ scope.names, y.2 ≠ .cell) (ho : ∀ b ∈ frs outer, b < n) {s0 : Shared} {H0 H : Hp} (hn : n ≤ s0.heap.objs.size) {a : Addr} {og : Obj} {b : Addr} (h1 : n < b) (h2 : b ≠ a) (h3 : H b = none) :
    FpOk (gX P w K mg base N qual scope f cd A outer (cut s0 n) H0) [(a, og)] H b := by
  have ez : (cut s0 n).heap.objs.size = n := cut_size hn
  refine ⟨h3, ?_, fun z => absurd (Nat.lt_trans (ho b z) h1) (Nat.lt_irrefl _), .inr ?_, fun x c h => ?_, fun p hp => ?_⟩
  · show b ≠ (cut s0 n).heap.objs.size
    rw [ez]; exact Nat.ne_of_gt h1
  · show (cut s0 n).heap.objs.size ≤ b
    rw [ez]; exact Nat.le_of_lt h1
  · have q : (cellsFrom ((cut s0 n).heap.objs.size + 1) scope.names []).lookup x = some c := h
    rw [cells_none scope.names _ nc] at q
    cases q
  · have hp2 : p ∈ [(a, og)] := (List.mem_append.mp hp).elim (fun z => absurd (show p ∈ ([] : List (Addr × Obj)) from z) (by simp)) id
    rw [List.mem_singleton.mp hp2]
    exact Ne.symm h2
theorem gen_loop (S : GScope N ps scope) (nc : ∀ y ∈ scope.names, y.2 ≠ .cell) (hloc : ∀ x ∈ N, scope.names.lookup x = some .local) (hd : A.handled = none) (hb : base.objs.size ≤ n) (ho : ∀ b ∈ frs outer, b < n) {jx : Nat} {x : Str} (hx : N[jx]? = some x)
    {e : Expr} {te : TE} (he : ∀ s H, s.heap.objs.size = n → PE (gX P w K mg base N qual scope f cd A outer s H) e te) {px yp pos : Pos} {m it : Nat} {fp' : List Addr} {tn : Nat → Heap → Prop} (T : Turn P w K (.Name x px) (Itr 0 m) fp' it tn) {σ0 : L2.St} (hlen : σ0.length = N.length)
    {a : Addr} {og : Obj} (ha : n < a) (hog : ∀ v, og.data ≠ .cell v) (hfp : ∀ b ∈ fp', n < b ∧ b ≠ a) {yld : Nat → Hp → V → Hp → Prop} (hco : scope.isCoroutine = false) (hia : interactive (envOfC qual scope n f cd) = false) :
    ∀ (r i : Nat), i + r = m → ∀ (s0 s : Shared) (H0 Hc : Hp) (σ : L2.St), Evl.Ex H0 Hc → n ≤ s0.heap.objs.size → Inv (gX P w K mg base N qual scope f cd A outer (cut s0 n) H0) [(a, og)] σ Hc s → (∀ v, σ.set jx v = σ0.set jx v) → tn i s.heap → (∀ b ∈ fp', Hc b = none) →
      (0 < r → te (σ0.set jx (some (.int i))) Hc (yld i H0)) → ∀ (kk : Result → Sem PySem.Fin) (l : List Value) (c : Code) (p : Pos), kk (.ok .next) = .pure (.done (.ret .none)) → A.over c [] = A.deeper (envOfC qual scope n f cd) →
      SegP (model P w) A (PostW P w K mg base A outer n (a, og) (fun i H => te (σ0.set jx (some (.int i))) H (yld i H)) yld r i s0 H0) (.forLoop (.Name x px) (.ref it) [.Expr (.Yield (some e) yp) pos] [] (envOfC qual scope n f cd))
        ((model P w).den (.forLoop (.Name x px) (.ref it) [.Expr (.Yield (some e) yp) pos] [] (envOfC qual scope n f cd))) [.ret kk none false l c p []] s := by
  intro r
  induction r with
  | zero =>
    intro i hi s0 s H0 Hc σ hex hn I hσ st hfr hgo kk l c p hkk hov
    have ez : (cut s0 n).heap.objs.size = n := cut_size hn
    refine sg_forLoop ?_
    rw [over_loop rfl rfl, hov]
    have q := T.done (gX P w K mg base N qual scope f cd A outer (cut s0 n) H0) rfl rfl rfl rfl i [(a, og)] s σ Hc (fun _ _ => False) I (fun b hb' => fpok_of S nc ho hn (hfp b hb').1 (hfp b hb').2 (hfr b hb')) st (show m ≤ i by omega)
    have hA : (gX P w K mg base N qual scope f cd A outer (cut s0 n) H0).A = A.deeper (envOfC qual scope n f cd) := by
      show A.deeper (envOfC qual scope (cut s0 n).heap.objs.size f cd) = _
      rw [ez]
    rw [hA] at q
    refine wpAny_mono q (fun r1 s1 ⟨hr1, I1⟩ => ?_) fun _ _ z => z
    subst hr1
    refine sg_block ?_
    refine sg_leaf (.ok .next) ?_
    rw [hkk]
    exact sg_end (.ok (.ret .none)) ⟨rfl, Hc, hex, left_of hn I1⟩
  | succ r ih =>
    intro i hi s0 s H0 Hc σ hex hn I hσ st hfr hgo kk l c p hkk hov
    have ez : (cut s0 n).heap.objs.size = n := cut_size hn
    have hA : (gX P w K mg base N qual scope f cd A outer (cut s0 n) H0).A = A.deeper (envOfC qual scope n f cd) := by
      show A.deeper (envOfC qual scope (cut s0 n).heap.objs.size f cd) = _
      rw [ez]
    have hE : (gX P w K mg base N qual scope f cd A outer (cut s0 n) H0).env = envOfC qual scope n f cd := by
      show envOfC qual scope (cut s0 n).heap.objs.size f cd = _
      rw [ez]
    refine sg_forLoop ?_
    rw [over_loop rfl rfl, hov]
    have q := T.item (gX P w K mg base N qual scope f cd A outer (cut s0 n) H0) rfl rfl rfl rfl i [(a, og)] s σ Hc (fun _ _ => False) I (fun b hb' => fpok_of S nc ho hn (hfp b hb').1 (hfp b hb').2 (hfr b hb')) st (show i < m by omega)
    rw [hA] at q
    refine wpAny_mono q (fun r1 s1a ⟨u, hr1, h1⟩ => ?_) fun _ _ z => z
    subst hr1
    refine wpAny_mono h1 (fun _ s1 ⟨y, H', I1, ry, ⟨hH', hy⟩, st1, fr1⟩ => ?_) fun _ _ z => z
    rw [hH'] at I1 fr1
    rw [hy] at ry
    have I1p := I1.pinned (fun b hb' => fpok_of S nc ho hn (hfp b hb').1 (hfp b hb').2 (fr1 b hb')) (T.obj _ _ st1)
    have g := (pg_name (X := gX P w K mg base N qual scope f cd A outer (cut s0 n) H0) (pos := px) S.nd hx (.inl (hloc x (List.mem_of_getElem? hx)))).run _ s1 σ Hc _ u (fun σ' H' => σ' = σ.set jx (some (.int (0 + i))) ∧ H' = Hc) I1p ry ⟨rfl, rfl⟩
    rw [hA, hE] at g
    refine wpAny_mono g (fun _ s2 ⟨σ2, H2, I2, hσ2, hH2⟩ => ?_) fun _ _ z => z
    rw [hσ2, hH2] at I2
    intro K1 J1 hK1
    refine sg_cons ?_
    refine sg_Yield rfl rfl ?_ hco hia
    rw [over_loop rfl rfl, hov]
    have gi : te (σ.set jx (some (.int (0 + i)))) Hc (yld i H0) := by
      rw [hσ, Int.zero_add]; exact hgo (Nat.succ_pos _)
    have z := (he (cut s0 n) H0 ez).run _ s2 _ Hc _ I2 gi
    rw [hA, hE] at z
    refine wpAny_mono z (fun v s3 ⟨x3, H3, I3, r3, y3⟩ => ?_) fun _ _ z => z
    intro k3 l3 p3 hk3
    obtain ⟨m3, ns3, lo3⟩ := I3.loc
    have ns3' : s3.heap.Ns n m3 := by
      have z : s3.heap.Ns (cut s0 n).heap.objs.size m3 := ns3
      rw [ez] at z; exact z
    obtain ⟨oL, es, ep, hoL, hdL, rL⟩ := id ns3'
    have fL : H3 n = none := by
      have z : H3 (cut s0 n).heap.objs.size = none := I3.free
      rw [ez] at z; exact z
    have pins3 : ∀ p ∈ (a, og) :: pinsAt fp' s1.heap, s3.heap.get? p.1 = some p.2 ∧ H3 p.1 = none ∧ n < p.1 ∧ ∀ v, p.2.data ≠ .cell v := fun p hp => by
      obtain ⟨z1, z2, _, _, z5⟩ := I3.pin p (List.mem_append_right _ hp)
      refine ⟨z1, z2, ?_, z5⟩
      rcases List.mem_cons.mp hp with z | z
      · rw [z]; exact ha
      · exact (hfp p.1 (of_pinsAt z).1).1
    refine ⟨v, l3, k3, _, p3, _, x3, H3, (n, oL) :: (a, og) :: pinsAt fp' s1.heap, rfl, rfl, r3, y3, left_of hn I3, fun p hp => ?_, by simp, gow_of fun s4 H4 e04 hn4 own4 hgo4 => ?_⟩
    · rcases List.mem_cons.mp hp with z | z
      · rw [z]; exact ⟨hoL, fL, Nat.le_refl _, fun v q => by rw [hdL] at q; cases q⟩
      · obtain ⟨z1, z2, z3, z4⟩ := pins3 p z
        exact ⟨z1, z2, Nat.le_of_lt z3, z4⟩
    · obtain ⟨w1, w2, _, _⟩ := own4 (n, oL) List.mem_cons_self
      have at4 : ∀ p ∈ (a, og) :: pinsAt fp' s1.heap, s4.heap.get? p.1 = some p.2 ∧ H4 p.1 = none ∧ n < p.1 ∧ ∀ v, p.2.data ≠ .cell v := fun p hp => by
        obtain ⟨z1, z2, _, z4⟩ := own4 p (List.mem_cons_of_mem _ hp)
        exact ⟨z1, z2, (pins3 p hp).2.2.1, z4⟩
      refine hk3 A _ s4 ?_
      show SegP _ A _ _ (K1 .next) _ s4
      rw [hK1]
      have ns4 : s4.heap.Ns n m3 := ns3'.at' fun o z => by rw [hoL] at z; cases z; exact w1
      have I4 : Inv (gX P w K mg base N qual scope f cd A outer (cut s4 n) H4) [(a, og)] (σ.set jx (some (.int (0 + i)))) H4 s4 := inv_wake S nc hd e04 hb ho hn4 ns4 w2 (fun i' x' v' h1 h2 => by
        have hk' := hloc x' (List.mem_of_getElem? h1)
        obtain ⟨u', r', lk⟩ := lo3 i' x' v' h1 h2 (.inl hk')
        refine ⟨u', r', ?_⟩
        rcases lk with ⟨_, z⟩ | ⟨z, _⟩
        · exact z
        · have hk2 : (envOfC qual scope (cut s0 n).heap.objs.size f cd).kindOf x' = some .local := hk'
          rcases z with z | z
          · have z' : (envOfC qual scope (cut s0 n).heap.objs.size f cd).kindOf x' = some .cell := z
            rw [hk2] at z'; cases z'
          · have z' : (envOfC qual scope (cut s0 n).heap.objs.size f cd).kindOf x' = some .free := z
            rw [hk2] at z'; cases z') I3.len fun p hp => at4 p (List.mem_cons.mpr (.inl (List.mem_singleton.mp hp)))
      refine sg_again rfl (ih (i + 1) (by omega) s4 s4 H4 H4 _ (Evl.Ex.refl _) hn4 I4 (fun v => ?_) (T.keep _ _ _ st1 fun b hb' o z => (at4 (b, o) (List.mem_cons_of_mem _ (mem_pinsAt hb' z))).1) (fun b hb' => ?_) (fun hr => by have := hgo4 hr; exact_mod_cast this) kk l c p hkk hov)
      · rw [List.set_set]; exact hσ v
      · obtain ⟨o, z, _⟩ := T.obj _ _ st1 b hb'
        exact (at4 (b, o) (List.mem_cons_of_mem _ (mem_pinsAt hb' z))).2.1
end
end Kx
set_option Elab.async false
set_option linter.all false
set_option maxRecDepth 100000
set_option maxHeartbeats 2000000
namespace Kx
open PySem PySem.Spec PyProof.Rows L2 GenW
/-- a generator that a call has made: m items to come -/
def MadeW (P : Program) (w : World) (K : PySem.W.Frag) (mg : Str → Option Value) (base : Heap) (k : Nat) (outer : List Env) (s : Shared) (te : TE) (σ0 : L2.St) (jx m : Nat) (u : Value) (s' : Shared) : Prop :=
  ∃ (a : Addr) (g : Nat) (c : Code) (fp : List (Addr × Obj)) (og : Obj), u = .ref a ∧ s'.gens[g]? = some (.fresh c) ∧ s'.os = s.os ∧ AllBare s'.gens ∧ (∀ b o, s.heap.get? b = some o → s'.heap.get? b = some o) ∧ s.heap.objs.size ≤ s'.heap.objs.size ∧ (a, og) ∈ fp ∧
    (∀ h : Heap, h.get? a = some og → h.IsGen a g) ∧ (∀ p ∈ fp, s'.heap.get? p.1 = some p.2 ∧ s.heap.objs.size ≤ p.1 ∧ ∀ v, p.2.data ≠ .cell v) ∧
    ∀ (A : Around) (yld : Nat → Hp → V → Hp → Prop), Room (k + 1) A → GoW P w K mg base A outer s.heap.objs.size (a, og) (fun i H => te (σ0.set jx (some (.int i))) H (yld i H)) yld m 0 fp (.fresh c)
structure GFnW (P : Program) (w : World) (K : PySem.W.Frag) (mg : Str → Option Value) (base : Heap) (k : Nat) (f : Addr) (fd : FuncData) (N ps : List Str) (Arg : List V → Nat → Prop) (te : TE) (jx : Nat) : Prop where
  len : ∀ vs m, Arg vs m → vs.length = ps.length
  run : ∀ (A : Around) (outer : List Env) (s : Shared) (H : Hp) (args : Args) (us : List Value) (vs : List V) (m : Nat), Room (k + 1) A → Env0 P w K mg base A outer s H → BindsTo s fd args (ps.zip us) → Vals vs us → Arg vs m →
    codeAny (model P w) A (.call (.ref f) args) (fun r s' => match r with | .ok (.ret u) => MadeW P w K mg base k outer s te (start N vs) jx m u s' | _ => False) s
/-- THE RULE: a def whose body is one plain statement and a loop that yields -/
theorem gfnW_of {P : Program} {w : World} {K : PySem.W.Frag} {mg : Str → Option Value} {base : Heap} {k : Nat} {f : Addr} {name qual : Str} {params : Arguments} {scope : Scope} {dV kV doc pm cdv ct oc : Value} {an od : Option Addr}
    {osl : Array (Option Value)} {N ps : List Str} {st0 : Stmt} {x : Str} {px yp pos pos' : Pos} {iter e : Expr} {te : TE} {jx : Nat} {Arg : List V → Nat → Prop}
    (lk : K.lookup f = some ⟨oc, od, .func (PySem.W.fnOf name qual params [st0, .For (.Name x px) iter [.Expr (.Yield (some e) yp) pos] [] pos'] scope dV kV doc pm an cdv ct), osl⟩) (hcd : PySem.W.codeIn K cdv qual = true) (S : GScope N ps scope)
    (nc : ∀ y ∈ scope.names, y.2 ≠ .cell) (hloc : ∀ x ∈ N, scope.names.lookup x = some .local) (hx : N[jx]? = some x) (hia : ∀ n, interactive (envOfC qual scope n f cdv) = false) (len : ∀ vs m, Arg vs m → vs.length = ps.length)
    (hfold : ∀ n y, foldedSetIterable iter (envOfC qual scope n f cdv) y = pure y)
    (hbody : ∀ (A : Around) (outer : List Env) (s : Shared) (H : Hp), Room k (A.deeper (envOfC qual scope s.heap.objs.size f cdv)) → PE (gX P w K mg base N qual scope f cdv A outer s H) e te ∧
      ∃ t0 wi, PS (gX P w K mg base N qual scope f cdv A outer s H) st0 t0 ∧ PI (gX P w K mg base N qual scope f cdv A outer s H) (.Name x px) iter wi ∧ ∀ vs m, Arg vs m →
        t0 { nx := fun σ' H' => σ' = start N vs ∧ Evl.Ex H H', rt := fun _ _ => False } (start N vs) H ∧ ∀ H3, wi (start N vs) H3 fun J H' => J = Itr 0 m ∧ Evl.Ex H3 H')
    (hmono : ∀ σ H H' Q, Evl.Ex H H' → te σ H Q → te σ H' Q) :
    GFnW P w K mg base k f (PySem.W.fnOf name qual params [st0, .For (.Name x px) iter [.Expr (.Yield (some e) yp) pos] [] pos'] scope dV kV doc pm an cdv ct) N ps Arg te jx := by
  refine ⟨len, fun A outer s H args us vs m hr e0 hb r hsp => ?_⟩
  have hl := len _ _ hsp
  have KX : K.In s.heap := e0.mod.kin.keeps fun b o e => (e0.bs b o e).1
  have lim : s.heap.NoLimit := e0.mod.nolimit.keeps fun b o e => (e0.bs b o e).1
  have hkind : ∀ y ∈ ps.zip us, scope.names.lookup y.1 = some .local ∨ (scope.names.lookup y.1 = some .cell ∧ ((cellsFrom (s.heap.objs.size + 1) scope.names []).lookup y.1).isSome = true) := fun ⟨nn, v⟩ hy => by
    rcases S.par nn (List.of_mem_zip hy).1 with q | q
    · exact .inl q
    · exact absurd rfl (nc _ (PySem.mem_of_lookup q))
  refine codeAny_call_generator hr.depth (KX _ _ lk) rfl S.co S.gen rfl (PySem.W.codeRec_of KX hcd) (hb _ _ _ _ ?_)
  refine wpAny_newFunctionEnv_cells S.kind hkind fun env he s1 z => ?_
  subst he
  refine ⟨lim.keeps z.toInCall.keep, ?_⟩
  obtain ⟨h1, tk, es1, hk1⟩ := z.done
  have os1 : s1.os = s.os := by rw [es1]
  have gen1 : s1.gens = s.gens := by rw [es1]
  have ltn : s.heap.objs.size < s1.heap.objs.size := z.toInCall.ns.lt
  obtain ⟨oL, esL, epL, hoL, hdL, rL⟩ := id z.toInCall.ns
  have main : ∀ (og : Obj) (nm qn : Value) (tk2 : Nat), og.cls = .type "generator" → og.data = .fields #[.int s1.gens.size 0, nm, qn] → og.slots = #[] → (∀ h : Heap, (h.push og).get? h.objs.size = some og) →
      MadeW P w K mg base k outer s te (start N vs) jx m (.ref s1.heap.objs.size) { s1 with gens := s1.gens.push (.fresh (.func [st0, .For (.Name x px) iter [.Expr (.Yield (some e) yp) pos] [] pos'] (envOfC qual scope s.heap.objs.size f cdv))), toks := tk2, heap := s1.heap.push og } := by
    intro og nm qn tk2 hgc hgd0 hgs hgp
    have hogd : ∀ v, og.data ≠ .cell v := fun v q => by rw [hgd0] at q; cases q
    refine ⟨s1.heap.objs.size, s1.gens.size, _, [(s.heap.objs.size, oL), (s1.heap.objs.size, og)], og, rfl, Array.getElem?_push_size .., os1, ?_, fun b o q => Heap.get?_push_of_some _ (z.toInCall.keep b o q), ?_, by simp, fun h q => ⟨og, nm, qn, q, hgc, hgd0, hgs⟩, fun p hp => ?_, fun Aw yld hrw => ?_⟩
    · exact AllBare.push (by rw [gen1]; exact e0.bare) rfl
    · show _ ≤ (s1.heap.push _).objs.size
      rw [Heap.size_push]; omega
    · rcases List.mem_cons.mp hp with q | q
      · rw [q]; exact ⟨Heap.get?_push_of_some _ hoL, Nat.le_refl _, fun v y => by rw [hdL] at y; cases y⟩
      · rw [List.mem_singleton.mp q]; exact ⟨hgp _, Nat.le_of_lt ltn, hogd⟩
    · refine gow_of fun s2 H2 e02 hn2 own2 hgo2 => ?_
      obtain ⟨wL, fL, _, _⟩ := own2 (s.heap.objs.size, oL) List.mem_cons_self
      obtain ⟨wg, fg, _, _⟩ := own2 (s1.heap.objs.size, og) (by simp)
      have hob : ∀ b ∈ frs outer, b < s.heap.objs.size := fun b hb' => by
        obtain ⟨_, o, ho, _⟩ := e0.funs.mem hb'
        exact Heap.lt_size ho
      have ez : (cut s2 s.heap.objs.size).heap.objs.size = s.heap.objs.size := cut_size hn2
      have ns2 : s2.heap.Ns s.heap.objs.size (bindL (envOfC qual scope s.heap.objs.size f cdv).kindOf (ps.zip us) fun _ => none) := z.toInCall.ns.at' fun o q => by rw [hoL] at q; cases q; exact wL
      have hlen : (start N vs).length = N.length := by
        have hpl : ps.length ≤ N.length := by have := congrArg List.length S.pre; rw [List.length_take] at this; omega
        unfold L2.start
        rw [List.length_append, List.length_map, List.length_replicate]
        omega
      have I2 : Inv (gX P w K mg base N qual scope f cdv Aw outer (cut s2 s.heap.objs.size) H2) [(s1.heap.objs.size, og)] (start N vs) H2 s2 := inv_wake S nc hrw.hd e02 e0.bsz hob hn2 ns2 fL (fun i y v q1 q2 => by
        have hi : i < vs.length := by
          unfold L2.start at q2
          by_cases hi : i < vs.length
          · exact hi
          · rw [List.getElem?_append_right (by simpa using hi), List.getElem?_replicate] at q2
            split at q2 <;> cases q2
        have hv : vs[i]? = some v := by
          unfold L2.start at q2
          rw [List.getElem?_append_left (by simpa using hi), List.getElem?_map] at q2
          cases q : vs[i]? with
          | none => rw [q] at q2; cases q2
          | some v' => rw [q] at q2; cases q2; rfl
        obtain ⟨u, hu, rv⟩ := r.get hv
        have hp : ps[i]? = some y := by rw [← S.pre, List.getElem?_take_of_lt (by omega)]; exact q1
        have ndP : ps.Nodup := by rw [← S.pre]; exact S.nd.sublist (List.take_sublist _ _)
        exact ⟨u, rv, bindL_get ndP hp hu (hloc y (List.mem_of_getElem? q1))⟩) hlen fun p hp => by
          rw [List.mem_singleton.mp hp]; exact ⟨wg, fg, ltn, hogd⟩
      have hA : (gX P w K mg base N qual scope f cdv Aw outer (cut s2 s.heap.objs.size) H2).A = Aw.deeper (envOfC qual scope s.heap.objs.size f cdv) := by
        show Aw.deeper (envOfC qual scope (cut s2 s.heap.objs.size).heap.objs.size f cdv) = _
        rw [ez]
      have hE : (gX P w K mg base N qual scope f cdv Aw outer (cut s2 s.heap.objs.size) H2).env = envOfC qual scope s.heap.objs.size f cdv := by
        show envOfC qual scope (cut s2 s.heap.objs.size).heap.objs.size f cdv = _
        rw [ez]
      obtain ⟨_, t0, wi, ht0, hwi, hq⟩ := hbody Aw outer (cut s2 s.heap.objs.size) H2 (by rw [ez]; exact hrw.deeper _)
      obtain ⟨hq1, hq2⟩ := hq vs m hsp
      show SegP _ Aw _ _ _ [] s2
      refine sg_func (sg_cons (sg_wrap ?_))
      rw [over_func]
      have r0 := ht0.run _ s2 _ H2 _ I2 hq1
      rw [hA, hE] at r0
      refine wpAny_mono r0 (fun fl s3 h3 => ?_) fun _ _ y => y
      cases fl with
      | brk => obtain ⟨_, _, _, q⟩ := h3; exact q.elim
      | cont => obtain ⟨_, _, _, q⟩ := h3; exact q.elim
      | ret v => obtain ⟨_, _, _, _, _, q⟩ := h3; exact q.elim
      | next =>
        obtain ⟨σ3, H3, I3, hσ3, hH3⟩ := h3
        rw [hσ3] at I3
        refine sg_cons (sg_For ?_ (hfold _))
        rw [over_func]
        have r1 := hwi.run _ s3 _ H3 _ I3 (hq2 H3)
        rw [hA, hE] at r1
        refine wpAny_mono r1 (fun v s4 h4 => wpAny_mono h4 (fun itv s5 h5 => ?_) fun _ _ y => y) fun _ _ y => y
        obtain ⟨it, fp', tn, J, H5, eit, I5, T, st5, f5, hJ, hH5⟩ := h5
        subst eit
        have hex5 : Evl.Ex H2 H5 := Evl.Ex.trans hH3 hH5
        rw [hJ] at T
        intro p kk hkk
        refine gen_loop S nc hloc hrw.hd e0.bsz hob hx (fun s H hz => (hbody Aw outer s H (by rw [hz]; exact hrw.deeper _)).1) T hlen ltn hogd (fun b hb' => ?_) (S.co) (hia _) m 0 (Nat.zero_add _) s2 s5 H2 H5 _ hex5 hn2 I5 (fun _ => rfl) st5 (fun b hb' => (f5 b hb').1) (fun z => hmono _ _ _ _ hex5 (hgo2 z)) kk _ _ p ?_ over_func
        · obtain ⟨_, y2, _, y4, _, y6⟩ := f5 b hb'
          have y2' : b ≠ (cut s2 s.heap.objs.size).heap.objs.size := y2
          rw [ez] at y2'
          have y4' : s.heap.objs.size ≤ b := by
            rcases y4 with y4 | y4
            · exact absurd (show b ∈ ([] : List Addr) from y4) (by simp)
            · have y5 : (cut s2 s.heap.objs.size).heap.objs.size ≤ b := y4
              rw [ez] at y5; exact y5
          exact ⟨Nat.lt_of_le_of_ne y4' (Ne.symm y2'), fun q => y6 (s1.heap.objs.size, og) (by simp) q.symm⟩
        · rw [hkk]; rfl
  exact main _ _ _ _ rfl rfl rfl fun h => Heap.get?_push_size _ rfl
end Kx
set_option Elab.async false
set_option linter.all false
set_option maxRecDepth 100000
set_option maxHeartbeats 2000000
namespace Kx
open PySem PySem.Spec PyProof.Rows L2 GenW
/-! ### for x in o.words(e, ..): any body -/
/-- the sleepers sleep on -/
def Kept (T T' : Array GenState) : Prop := ∀ (g : Nat) x, T[g]? = some x → sleepy x = true → T'[g]? = some x
theorem wpAny_keepGens {M : Model} {A : Around} {α : Type} {t : Sem α} {Q Q' : α → Shared → Prop} {s : Shared} (hs : AllBare s.gens) (h : wpAny M A t Q (fun _ _ => False) { s with gens := deadAll s.gens })
    (hQ : ∀ a s1, Q a s1 → AllBare s1.gens ∧ ∀ G, AllBare G → Kept s.gens G → Q' a { s1 with gens := G }) : wpAny M A t Q' (fun _ _ => False) s := by
  refine wpAny_mono (wpAny_sleepers h) (fun a s' ⟨s1, e1, D, q⟩ => ?_) fun _ _ ⟨_, _, _, z⟩ => z
  subst e1
  obtain ⟨hb, hk⟩ := hQ a s1 q
  refine hk (mrg s.gens s1.gens) (fun y hy => ?_) fun g x hx hsl => mrg_sleep D hx hsl
  obtain ⟨i, hi, e⟩ := Array.mem_iff_getElem.mp hy
  have q2 : (mrg s.gens s1.gens)[i]? = some y := by rw [Array.getElem?_eq_getElem hi, e]
  rw [mrg_get] at q2
  cases z : s1.gens[i]? with
  | none => rw [z] at q2; cases q2
  | some x =>
    rw [z] at q2
    have q3 : (match s.gens[i]? with | some gs => if sleepy gs then gs else x | none => x) = y := Option.some.inj q2
    cases z2 : s.gens[i]? with
    | none => rw [z2] at q3; rw [← q3]; exact hb x (Array.mem_of_getElem? z)
    | some gs =>
      rw [z2] at q3
      cases z3 : sleepy gs with
      | false => simp only [z3, Bool.false_eq_true, if_false] at q3; rw [← q3]; exact hb x (Array.mem_of_getElem? z)
      | true => simp only [z3, if_true] at q3; rw [← q3]; exact hs gs (Array.mem_of_getElem? z2)
theorem bare_deadAll {T : Array GenState} (h : AllBare T) : AllBare (deadAll T) := fun y hy => by
  obtain ⟨x, hx, rfl⟩ := Array.mem_map.mp hy
  rw [bare_dead]; exact h x hx
section
variable {X : Cx}
theorem Inv.gens {pins : List (Addr × Obj)} {σ : L2.St} {H : Hp} {s : Shared} {G : Array GenState} (I : Inv X pins σ H s) (hG : AllBare G) : Inv X pins σ H { s with gens := G } :=
  I.call' (ch := []) rfl (Un.kept fun _ _ q => q) I.hok hG fun b z => by simp at z
theorem Inv.bare_setGen {pins : List (Addr × Obj)} {σ : L2.St} {H : Hp} {s : Shared} {g : Nat} {x : GenState} (I : Inv X pins σ H s) (hx : x.bare = true) : Inv X pins σ H (s.setGen g x) := Kx.Inv.gens I (allBare_setGen I.bare hx)
/-- how old the consumer's own objects are -/
theorem old_of {pins : List (Addr × Obj)} {σ : L2.St} {H : Hp} {s : Shared} (I : Inv X pins σ H s) : X.s_0.heap.objs.size ≤ s.heap.objs.size ∧ X.env.locals < s.heap.objs.size ∧ (∀ x c, X.env.cells.lookup x = some c → c < s.heap.objs.size) ∧ (∀ p ∈ X.pn ++ pins, p.1 < s.heap.objs.size) ∧ ∀ b ∈ X.fs, b < s.heap.objs.size := by
  refine ⟨I.sz, I.lt, fun x c h => ?_, fun p hp => Heap.lt_size (I.pin p hp).1, fun b hb => ?_⟩
  · obtain ⟨v, q⟩ := I.cell x c h
    exact q.lt
  · obtain ⟨_, o, ho, _⟩ := I.funs.mem hb
    exact Heap.lt_size ho
theorem Inv.own {pins fp : List (Addr × Obj)} {σ : L2.St} {H : Hp} {s : Shared} {n : Nat} (I : Inv X pins σ H s) (hL : X.env.locals < n) (hf : ∀ b ∈ X.fs, b < n) (h : Own n fp H s) : Inv X (pins ++ fp) σ H s :=
  I.pins_of fun p hp => (List.mem_append.mp hp).elim (fun z => I.pin p (List.mem_append_right _ z)) fun z => by
    obtain ⟨h1, h2, h3, h4⟩ := h p z
    exact ⟨h1, h2, Nat.ne_of_gt (Nat.lt_of_lt_of_le hL h3), fun y => absurd (Nat.lt_of_lt_of_le (hf p.1 y) h3) (Nat.lt_irrefl _), h4⟩
variable {k : Nat} {f C : Addr} {fd : FuncData} {N ps : List Str} {Arg : List V → Nat → Prop} {te : TE} {jx : Nat} {m x : Str} {px pos apos cpos : Pos} {o e : Expr} {es : List Expr} {ta : TE} {t : TA} {ix : Nat} {body : List Stmt} {tb : TS}
def tForW (C : Addr) (m : Str) (N : List Str) (Arg : List V → Nat → Prop) (te : TE) (jx : Nat) (ta : TE) (t : TA) (ix : Nat) (tb : TS) : TS := fun D σ H => ta σ H fun x H1 => ∃ r dx fs, x = .ref r ∧ H1 r = some (.ins C dx fs) ∧ fs.lookup m = none ∧ t σ H1 fun vs H2 =>
  ∃ n, Arg (x :: vs) n ∧ ∃ (yld : Nat → Hp → V → Hp → Prop) (Pv : Nat → L2.St → Hp → Prop), Pv 0 σ H2 ∧ (∀ i σ H, i < n → Pv i σ H → te ((start N (x :: vs)).set jx (some (.int i))) H (yld i H) ∧ ∀ y H', yld i H y H' → tb { D with nx := Pv (i + 1), ct := Pv (i + 1), bk := D.nx } (σ.set ix (some y)) H') ∧ ∀ σ H H', Pv n σ H → Evl.Ex H H' → D.nx σ H'
theorem ps_forW {pl : Sem Bool} (he : PE X.nox o ta) (c : Cls X.K C) (hm : Meth X.K C m f) (F : GFnW X.prog X.w X.K X.mg X.base k f fd N ps Arg te jx) (hr : Room (k + 2) X.A) (hb : Binds X.K fd ps []) (ha : PA X.nox (e :: es) t) (hbody : PSs X.nox body tb)
    (hN : X.N.Nodup) (hi : X.N[ix]? = some x) (hx : Loc X.env.scope x) (hf : X.fn x = true ∨ X.env.scope.names.lookup x = some .local) (hex : X.ex = [])
    (hst : starEach (e :: es) X.env = (false, eval e X.env) :: starEach es X.env := by rfl) (hpl : (backTo cpos (starEach es X.env)).any (·.1) = false := by rfl)
    (ht : eval (.Call (.Attribute o m apos) (e :: es) [] cpos) X.env = (do
      let ov ← eval o X.env
      standAt apos.atName
      let (f, first) ← holding [ov] (getMethod ov m pl)
      callWith cpos f first (backTo cpos (starEach (e :: es) X.env)) (backToKw cpos (keywordEach [] X.env))) := by rfl)
    (hs : ∀ y, foldedSetIterable (.Call (.Attribute o m apos) (e :: es) [] cpos) X.env y = pure y := by intro _; rfl) :
    PS X.nox (.For (.Name x px) (.Call (.Attribute o m apos) (e :: es) [] cpos) body [] pos) (tForW C m N Arg te jx ta t ix tb) := by
  refine ⟨fun pins s σ H D I h => ?_⟩
  have first : wpAny (model X.prog X.w) X.A (eval (.Call (.Attribute o m apos) (e :: es) [] cpos) X.env) (fun u s' => ∃ n H2 sc σ0, Inv X.nox pins σ H2 sc ∧ MadeW X.prog X.w X.K X.mg X.base k X.stack sc te σ0 jx n u s' ∧
      ∃ (yld : Nat → Hp → V → Hp → Prop) (Pv : Nat → L2.St → Hp → Prop), Pv 0 σ H2 ∧ (∀ i σ H, i < n → Pv i σ H → te (σ0.set jx (some (.int i))) H (yld i H) ∧ ∀ y H', yld i H y H' → tb { D with nx := Pv (i + 1), ct := Pv (i + 1), bk := D.nx } (σ.set ix (some y)) H') ∧ ∀ σ H H', Pv n σ H → Evl.Ex H H' → D.nx σ H') (fun _ _ => False) s := by
    refine PySem.W.methodCall_KW (pl := pl) (thn (he.run pins s σ H _ I h) fun u s1 ⟨x1, H1, I1, rx, a, dx, fs, ex, ea, l, q⟩ => ?_) ht
    subst ex
    obtain rfl : u = Value.ref a := rx
    refine getmeth_ok (X := X.nox) I1 ea c hm l ?_
    refine PySem.W.callWith_K (first := [.ref a]) (h₀ := X.base) I.ok.mod.kin hm.kp (thn (ha.run cpos pins s1 σ H1 _ I1 q) fun us s2 ⟨vs, H2, I2, r, n, hArg, q2⟩ => ⟨I2.kIn, ?_⟩) hst hpl
    have r2 : Vals (V.ref a :: vs) (Value.ref a :: us) := .cons rfl r
    have hl2 : ((Value.ref a :: us) ++ []).length = ps.length := by rw [List.append_nil, ← r2.length]; exact F.len _ _ hArg
    refine wpAny_call (codeAny_mono (F.run X.A X.stack s2 H2 ⟨Value.ref a :: us, []⟩ (Value.ref a :: us) (V.ref a :: vs) n (hr.mono (by omega)) I2.env0 (by have z := hb s2 (Value.ref a :: us) I2.kIn hl2; rw [List.append_nil] at z; exact z) r2 hArg) fun r' s' hq => ?_)
    cases r' with
    | error e => exact False.elim hq
    | ok fl =>
      cases fl with
      | ret u => exact ⟨n, H2, s2, _, I2, hq, q2⟩
      | next => exact False.elim hq
      | brk => exact False.elim hq
      | cont => exact False.elim hq
  refine wpAny_For (thn first fun v s1 h1 => ?_) hs
  obtain ⟨n, H2, sc, σ0, I0, ⟨a, g, cd, fp0, og, ev, hg0, hos, hba, hkp, hsz, hmem, hgen, hown, hgo⟩, yld, Pv, p0, pstep, pend⟩ := h1
  subst ev
  obtain ⟨o0, oL, oc, op, of⟩ := old_of I0
  have I1 : Inv X.nox pins σ H2 s1 := I0.call' (ch := []) hos (Un.kept hkp) (I0.hok.kept hkp) hba fun b z => by simp at z
  have own1 : Own sc.heap.objs.size fp0 H2 s1 := fun p hp => ⟨(hown p hp).1, I0.hok.fresh (hown p hp).2.1, (hown p hp).2.1, (hown p hp).2.2⟩
  refine wpAny_pyIter_gen (hgen _ (own1 _ hmem).1) ?_
  have bump : ∀ {G : Hp} {st : L2.St} {s3 : Shared}, Inv X.nox pins st G s3 → Env0 X.prog X.w X.K X.mg X.base X.A.in1 X.stack (s3.setGen g .running) G := fun {G st s3} I3 => (Kx.Inv.bare_setGen (g := g) (x := .running) I3 rfl).env0.in1
  refine codeAny_forLoop_any (fun r s' => ∃ i σ' H' fp gs, i + r = n ∧ Inv X.nox pins σ' H' s' ∧ sc.heap.objs.size ≤ s'.heap.objs.size ∧ Own sc.heap.objs.size fp H' s' ∧ (a, og) ∈ fp ∧ s'.gens[g]? = some gs ∧
    GoW X.prog X.w X.K X.mg X.base X.A.in1 X.stack sc.heap.objs.size (a, og) (fun i H => te (σ0.set jx (some (.int i))) H (yld i H)) yld r i fp gs ∧ Pv i σ' H') ?_ n ⟨0, σ, H2, fp0, _, Nat.zero_add _, I1, hsz, own1, hmem, hg0, hgo X.A.in1 yld hr.in1, p0⟩
  rintro r s3 ⟨i, σ3, H3, fp, gs, hir, I3, hsz3, own3, mem3, hg3, gw3, pv3⟩
  have hgl : g < s3.gens.size := (Array.getElem?_eq_some_iff.mp hg3).1
  have hdp : X.A.depth < recursionLimit := by have := hr.dp; omega
  have Ir := Kx.Inv.bare_setGen (g := g) (x := .running) I3 rfl
  have gz : ∀ {s4 : Shared} {y : GenState}, g + 1 ≤ (s4.setGen g y).gens.size → g < s4.gens.size := fun {s4 y} z => by
    rw [setGen_size] at z; exact z
  cases r with
  | zero =>
    have en : i = n := by omega
    rw [en] at pv3
    have pe := fun H1 => pend σ3 H3 H1 pv3
    refine wpAny_passesOwn PassesOwn.never (next_sg hr.hd I3.nolimit hdp (hgen _ (own3 _ mem3).1) hg3 (gw3 (s3.setGen g .running) H3 (bump I3) hsz3 own3) fun e4 s4 ⟨ee, H4, x4, lf⟩ => ?_)
    subst ee
    refine ⟨rfl, rfl, fun h' hk => ?_⟩
    have I4 : Inv X.nox pins σ3 H4 s4 := inv_left Ir o0 oL oc op lf
    have I5 : Inv X.nox pins σ3 H4 { s4 with heap := h' } := I4.kept (t' := s4.toks) hk
    exact wpAny_execs_nil ⟨σ3, H4, Kx.Inv.gens I5 (allBare_setGen I4.bare rfl), pe H4 x4⟩
  | succ r =>
    obtain ⟨go3, body3⟩ := pstep i σ3 H3 (by omega) pv3
    refine wpAny_passesOwn PassesOwn.never (wpAny_gsz (n := g + 1) hgl (next_sg hr.hd I3.nolimit hdp (hgen _ (own3 _ mem3).1) hg3 (gw3 (s3.setGen g .running) H3 (bump I3) hsz3 own3 go3) fun e4 s4 he4 => ?_))
    obtain ⟨v, l, kk, c4, p4, fs4, x4, H4, fp4, ee, hgd, rv, hy, lf, own4, mem4, gw4⟩ := he4
    subst ee
    refine ⟨by show (!(false || fs4.any Frame.guarded)) = true; rw [hgd]; rfl, fun hz => ?_⟩
    have gl4 := gz hz
    have egs : End.genState (.susp v false l kk c4 p4 fs4) = .suspended kk l c4 p4 fs4 false := by
      show GenState.suspended kk l c4 p4 fs4 (false || fs4.any Frame.guarded) = _
      rw [hgd]; rfl
    rw [egs]
    have I4 : Inv X.nox pins σ3 H4 s4 := inv_left Ir o0 oL oc op lf
    have I5 : Inv X.nox (pins ++ fp4) σ3 H4 (s4.setGen g (.suspended kk l c4 p4 fs4 false)) := Kx.Inv.own (Kx.Inv.bare_setGen I4 rfl) oL of own4
    have g5 : (s4.setGen g (.suspended kk l c4 p4 fs4 false)).gens[g]? = some (.suspended kk l c4 p4 fs4 false) := setGen_at gl4
    generalize s4.setGen g (.suspended kk l c4 p4 fs4 false) = s5 at I5 g5
    refine wpAny_of_eq (rfl : letOwnedTupleGo (.Name x px) (.ref a) v = pure ()) ?_
    have I5d : Inv X.nox (pins ++ fp4) σ3 H4 { s5 with gens := deadAll s5.gens } := Kx.Inv.gens I5 (bare_deadAll I5.bare)
    have as5 := (pg_name (X := X.nox) (pos := px) hN hi hx hf).run _ _ σ3 H4 x4 v (fun σ' H' => σ' = σ3.set ix (some x4) ∧ H' = H4) I5d rv ⟨rfl, rfl⟩
    refine wpAny_passesOwn PassesOwn.never (wpAny_keepGens I5.bare as5 fun _ s6 ⟨σ6, H6, I6, e6, e6'⟩ => ⟨I6.bare, fun G hG kG => ?_⟩)
    rw [e6, e6'] at I6
    have I7 : Inv X.nox (pins ++ fp4) (σ3.set ix (some x4)) H4 { s6 with gens := G } := Kx.Inv.gens I6 hG
    have g7 : G[g]? = some (.suspended kk l c4 p4 fs4 false) := kG g _ g5 rfl
    have I7d : Inv X.nox (pins ++ fp4) (σ3.set ix (some x4)) H4 { s6 with gens := deadAll G } := Kx.Inv.gens I6 (bare_deadAll hG)
    refine wpAny_passesOwn PassesOwn.never (wpAny_keepGens (s := { s6 with gens := G }) hG (hbody.run _ _ _ H4 _ I7d (body3 x4 H4 hy)) fun fl s8 h8 => ?_)
    have again : ∀ {σ8 : L2.St} {H8 : Hp} {G' : Array GenState}, Inv X.nox (pins ++ fp4) σ8 H8 s8 → Pv (i + 1) σ8 H8 → AllBare G' → Kept G G' → ∃ m', m' < r + 1 ∧ ∃ i σ' H' fp gs, i + m' = n ∧ Inv X.nox pins σ' H' { s8 with gens := G' } ∧ sc.heap.objs.size ≤ s8.heap.objs.size ∧ Own sc.heap.objs.size fp H' { s8 with gens := G' } ∧ (a, og) ∈ fp ∧ G'[g]? = some gs ∧
        GoW X.prog X.w X.K X.mg X.base X.A.in1 X.stack sc.heap.objs.size (a, og) (fun i H => te (σ0.set jx (some (.int i))) H (yld i H)) yld m' i fp gs ∧ Pv i σ' H' := fun {σ8 H8 G'} I8 p8 hG' kG' => by
      have own8 : Own sc.heap.objs.size fp4 H8 s8 := fun p hp => by
        obtain ⟨z1, z2, _, _, z5⟩ := I8.pin p (List.mem_append_right _ (List.mem_append_right _ hp))
        exact ⟨z1, z2, (own4 p hp).2.2.1, z5⟩
      refine ⟨r, Nat.lt_succ_self _, i + 1, σ8, H8, fp4, _, by omega, Kx.Inv.gens I8.unpinned hG', ?_, own8, mem4, kG' g _ g7 rfl, gw4, p8⟩
      have z := Heap.lt_size (own8 _ mem4).1
      have z2 := (own8 _ mem4).2.2.1
      exact Nat.le_of_lt (Nat.lt_of_le_of_lt z2 z)
    cases fl with
    | next => obtain ⟨σ8, H8, I8, q8⟩ := h8; exact ⟨I8.bare, fun G' hG' kG' => again I8 q8 hG' kG'⟩
    | cont => obtain ⟨σ8, H8, I8, q8⟩ := h8; exact ⟨I8.bare, fun G' hG' kG' => again I8 q8 hG' kG'⟩
    | brk => obtain ⟨σ8, H8, I8, q8⟩ := h8; exact ⟨I8.bare, fun G' hG' _ => ⟨σ8, H8, Kx.Inv.gens I8.unpinned hG', q8⟩⟩
    | ret u => obtain ⟨x8, σ8, H8, I8, r8, q8⟩ := h8; exact ⟨I8.bare, fun G' hG' _ => ⟨x8, σ8, H8, Kx.Inv.gens I8.unpinned hG', r8, q8⟩⟩
end
end Kx
set_option Elab.async false
set_option linter.all false
set_option maxRecDepth 100000
set_option maxHeartbeats 2000000
namespace Kx
open PySem PySem.Spec PyProof.Rows L2 Evl
open He (ga ma)
section
variable {P : Program} {w : World} {K : PySem.W.Frag} {mg : Str → Option Value} {base : Heap}
/-! ### Recording.words -/
def N_Recording_words : List Str := ["self", "many", "turn"]
theorem gc_Recording_words : GScope N_Recording_words ["self", "many"] (defScope s_Recording_words) := ⟨rfl, rfl, rfl, by decide +kernel, rfl, by decide +kernel, by decide +kernel⟩
abbrev teWord (K : PySem.W.Frag) : TE := tMeth (ga K "Recording") "next_word" (spRNext K) [] E0 (tVar 0) tNil
def ArgWords (vs : List V) (n : Nat) : Prop := ∃ v, vs = [v, .int n] ∧ n ≤ 1000000
structure HasGW (P : Program) (w : World) (K : PySem.W.Frag) (mg : Str → Option Value) (base : Heap) : Prop where
  ex : ∃ f fd, GFnW P w K mg base 6 f fd N_Recording_words ["self", "many"] ArgWords (teWord K) 2 ∧ Meth K (ga K "Recording") "words" f ∧ Binds K fd ["self", "many"] []
theorem RetR.back' {r i l : Addr} {ts : List It} {H H' : Hp} {α : Type} {S : Res α} {f : α → V} {g : α → It} {Q : VK} {E : XK} (h : RetR K r i l ts H S f g Q E) (e : Ex H H') : RetR K r i l ts H' S f g Q E := by
  first | exact RetR.back h e | exact h.back e
theorem te_mono {σ : L2.St} {H H' : Hp} {Q : VK} (e : Ex H H') (h : teWord K σ H Q) : teWord K σ H' Q := by
  obtain ⟨v, hv, a, dx, fs, ex, ha, hn, r, i, l, ts, S, h1, h2, h3, h4, h5, h6⟩ := h
  exact ⟨v, hv, a, dx, fs, ex, e _ _ ha, hn, r, i, l, ts, S, h1, h2.ex e, h3.ex e, h4, h5, h6.back e⟩
theorem h_Recording_words (T : Tx K mg) : HasGW P w K mg base := by
  have h_need_many := h_need_many (P := P) (w := w) (base := base) T
  have h_Recording_next_word := h_Recording_next_word (P := P) (w := w) (base := base) T
  obtain ⟨fd, F⟩ := T.fn 34 _ rfl
  have hbind := fun hb => F.bindsN (ps := ["self", "many"]) hb
  obtain ⟨oc, od, dV, kV, doc, pm, an, cdv, ct, osl, rfl, lk, hcd, hD, hW⟩ := F.ex
  refine ⟨_, _, gfnW_of lk hcd gc_Recording_words (by decide +kernel) (by decide +kernel) (x := "turn") rfl (fun n => rfl) (fun vs m h => by obtain ⟨v, rfl, _⟩ := h; rfl) (fun n y => rfl)
    (fun A outer s H hr => ⟨pe_hm0 h_Recording_next_word (T.cls 4 _ rfl) (hr.mono (by decide)) passL (pv 0), _, _, ps_expr (pe_h h_need_many (hr.mono (by decide)) pass0 (pa_cons (pv 1) pa_nil)), pi_range1 (by rfl) (T.fre 3 _ rfl) (pa_cons (pv 1) pa_nil), fun vs m h => ?_⟩) (fun σ H H' Q e h => te_mono e h),
    He.meth_ok (T.fac 26 _ rfl), hbind (fun | _, _, _, _, _, _, [_, _], _ => rfl)⟩
  obtain ⟨v, rfl, hm⟩ := h
  refine ⟨?_, fun H3 => ?_⟩
  · have c : okMany (m : Int) := ⟨by omega, by omega⟩
    refine s_drop (v := .non) (ev_call (ea_cons (ev_var rfl) ea_nil) (spv1 c)) fun H1 e1 => ?_
    exact And.intro rfl e1
  · refine ⟨_, rfl, (m : Int), rfl, by omega, by omega, ?_, Ex.refl _⟩
    rw [Int.toNat_natCast]
end
end Kx
set_option Elab.async false
set_option linter.all false
set_option maxRecDepth 100000
set_option maxHeartbeats 2000000
namespace Kx
open PySem PySem.Spec PyProof.Rows L2
/-! ### the rows of Twisted: linear over xor -/
def phi (row : List Nat) (n m : Nat) : Nat := (List.range n).foldl (fun w i => if m.testBit i then w ^^^ row.getD i 0 else w) 0
theorem phi_s (row : List Nat) (n m : Nat) : phi row (n + 1) m = if m.testBit n then phi row n m ^^^ row.getD n 0 else phi row n m := by
  unfold phi
  rw [List.range_succ, List.foldl_append]
  rfl
theorem phi_xor (row : List Nat) (a b : Nat) : ∀ n, phi row n (a ^^^ b) = phi row n a ^^^ phi row n b
  | 0 => by show (0 : Nat) = 0 ^^^ 0; decide
  | n + 1 => by
    rw [phi_s, phi_s, phi_s, phi_xor row a b n, Nat.testBit_xor]
    cases a.testBit n <;> cases b.testBit n
    · rfl
    · simp [Nat.xor_assoc]
    · simp only [Bool.xor_false, if_true, if_false, Bool.false_eq_true]
      rw [Nat.xor_assoc, Nat.xor_assoc, Nat.xor_comm (phi row n b)]
    · simp only [Bool.xor_self, if_true, if_false, Bool.false_eq_true]
      have : phi row n a ^^^ row.getD n 0 ^^^ (phi row n b ^^^ row.getD n 0) = phi row n a ^^^ phi row n b ^^^ (row.getD n 0 ^^^ row.getD n 0) := by ac_rfl
      rw [this, Nat.xor_self, Nat.xor_zero]
theorem phi_zero (row : List Nat) : ∀ n, phi row n 0 = 0
  | 0 => rfl
  | n + 1 => by rw [phi_s, phi_zero row n]; simp
theorem phi_one (row : List Nat) (i : Nat) : ∀ n, phi row n (2 ^ i) = if i < n then row.getD i 0 else 0
  | 0 => rfl
  | n + 1 => by
    rw [phi_s, phi_one row i n, Nat.testBit_two_pow]
    by_cases h : i = n
    · subst h
      simp
    · by_cases h2 : i < n
      · simp [h, h2, Nat.lt_succ_of_lt h2]
      · simp [h, h2, show ¬ i < n + 1 by omega]
def masks : List Nat := (List.range 31).map fun i => 2 ^ i
theorem masks_phi {row : List Nat} (h : row.length = 31) : masks.map (phi row 31) = row := by
  unfold masks
  rw [List.map_map]
  apply List.ext_getElem
  · simp [h]
  · intro i h1 h2
    have hi : i < 31 := by omega
    rw [List.getElem_map, List.getElem_range]
    show phi row 31 (2 ^ i) = _
    rw [phi_one, if_pos hi, List.getD_eq_getElem?_getD, List.getElem?_eq_getElem h2]
    rfl
section
variable {f : Nat → Nat} (f0 : f 0 = 0) (fx : ∀ a b, f (a ^^^ b) = f a ^^^ f b)
include f0 fx
theorem getD_map (l : List Nat) (i : Nat) : (l.map f).getD i 0 = f (l.getD i 0) := by
  rw [List.getD_eq_getElem?_getD, List.getD_eq_getElem?_getD, List.getElem?_map]
  cases l[i]? with
  | none => exact f0.symm
  | some x => rfl
theorem ext_map (l : List Nat) : ∀ i, extIt (l.map f) i = (extIt l i).map f
  | 0 => rfl
  | i + 1 => by
    show extIt (l.map f) i ++ [_] = (extIt l i ++ [_]).map f
    rw [ext_map l i, List.map_append, getD_map f0 fx, getD_map f0 fx, ← fx]
    rfl
theorem movW_map (l : List Nat) (ps : List Nat) (b : Nat) : movW (l.map f) ps b = f (movW l ps b) := by
  unfold movW
  have : ∀ (ps : List Nat) (w : Nat), ps.foldl (fun w p => w ^^^ (l.map f).getD (b + p) 0) (f w) = f (ps.foldl (fun w p => w ^^^ l.getD (b + p) 0) w) := by
    intro ps
    induction ps with
    | nil => intro w; rfl
    | cons p r ih =>
      intro w
      rw [List.foldl_cons, List.foldl_cons, getD_map f0 fx, ← fx]
      exact ih _
  have z := this ps 0
  rw [f0] at z
  exact z
theorem moved_map (l : List Nat) (x : Nat) : movedBy (l.map f) x = (movedBy l x).map f := by
  unfold movedBy
  rw [ext_map f0 fx, List.map_map]
  apply List.map_congr_left
  intro b _
  exact movW_map f0 fx _ _ b
end
theorem moved_phi {row : List Nat} (h : row.length = 31) (x : Nat) : movedBy row x = (movedBy masks x).map (phi row 31) := by
  have z := moved_map (f := phi row 31) (phi_zero row 31) (fun a b => phi_xor row a b 31) masks x
  rw [masks_phi h] at z
  exact z
theorem moved_len (row : List Nat) (x : Nat) : (movedBy row x).length = 31 := by unfold movedBy; simp
theorem moved_id {row : List Nat} (h : row.length = 31) {x : Nat} (k : movedBy masks x = masks) : movedBy row x = row := by
  rw [moved_phi h, k, masks_phi h]
theorem moved_back {row : List Nat} (h : row.length = 31) {x y : Nat} (k : movedBy (movedBy masks x) y = masks) : movedBy (movedBy row x) y = row := by
  have z := moved_map (f := phi row 31) (phi_zero row 31) (fun a b => phi_xor row a b 31) (movedBy masks x) y
  rw [← moved_phi h, k, masks_phi h] at z
  exact z
theorem moved_zero {l : List Nat} (h : ∀ n, n ∈ l → n = 0) (hl : l.length = 31) (y : Nat) : ∀ n, n ∈ movedBy l y → n = 0 := by
  have e : l = masks.map (fun _ => 0) := by
    apply List.ext_getElem
    · rw [List.length_map, hl]; rfl
    · intro i h1 h2
      rw [List.getElem_map]
      exact h _ (List.getElem_mem h1)
  intro n hn
  rw [e, moved_map (f := fun _ => 0) rfl (fun a b => rfl)] at hn
  obtain ⟨_, _, q⟩ := List.mem_map.mp hn
  exact q.symm
theorem moved_nz {row : List Nat} (h : row.length = 31) (nz : NotZ row) {x y : Nat} (k : movedBy (movedBy masks x) y = masks) : NotZ (movedBy row x) := by
  apply Classical.byContradiction
  intro c
  have all : ∀ n, n ∈ movedBy row x → n = 0 := fun n hn => Classical.byContradiction fun z => c ⟨n, hn, z⟩
  have b := moved_zero all (moved_len _ _) y
  rw [moved_back h k] at b
  obtain ⟨n, hn, z⟩ := nz
  exact z (b n hn)
theorem getD_lt {l : List Nat} (h : OkNat l) (i : Nat) : l.getD i 0 < 4294967296 := by
  rw [List.getD_eq_getElem?_getD]
  cases q : l[i]? with
  | none => exact (by decide : (0 : Nat) < 4294967296)
  | some x => exact h x (List.mem_of_getElem? q)
theorem xor_lt {a b : Nat} (h : a < 4294967296) (k : b < 4294967296) : a ^^^ b < 4294967296 := Nat.xor_lt_two_pow (n := 32) h k
theorem ext_ok {l : List Nat} (h : OkNat l) : ∀ i, OkNat (extIt l i)
  | 0 => h
  | i + 1 => fun n hn => by
    rcases List.mem_append.mp hn with z | z
    · exact ext_ok h i n z
    · rw [List.mem_singleton.mp z]
      exact xor_lt (getD_lt (ext_ok h i) _) (getD_lt (ext_ok h i) _)
theorem moved_ok {l : List Nat} (h : OkNat l) (x : Nat) : OkNat (movedBy l x) := fun n hn => by
  obtain ⟨b, _, rfl⟩ := List.mem_map.mp hn
  unfold movW
  have : ∀ (ps : List Nat) (w : Nat), w < 4294967296 → ps.foldl (fun w p => w ^^^ (extIt l 30).getD (b + p) 0) w < 4294967296 := by
    intro ps
    induction ps with
    | nil => intro w hw; exact hw
    | cons p r ih => intro w hw; exact ih _ (xor_lt hw (getD_lt (ext_ok h 30) _))
  exact this _ 0 (by decide)
/-- the law's exponents and what undoes them -/
theorem pw_0 : movedBy masks (xpow 0) = masks := by decide +kernel
theorem pw_1 : movedBy (movedBy masks (xpow 1)) (xpow 2147483646) = masks := by decide +kernel
theorem qw_1 : movedBy (movedBy masks (xpow 2147483646)) (xpow 1) = masks := by decide +kernel
theorem pw_2 : movedBy (movedBy masks (xpow 2)) (xpow 2147483645) = masks := by decide +kernel
theorem qw_2 : movedBy (movedBy masks (xpow 2147483645)) (xpow 2) = masks := by decide +kernel
theorem pw_5 : movedBy (movedBy masks (xpow 5)) (xpow 2147483642) = masks := by decide +kernel
theorem qw_5 : movedBy (movedBy masks (xpow 2147483642)) (xpow 5) = masks := by decide +kernel
theorem pw_1000003 : movedBy (movedBy masks (xpow 1000003)) (xpow 2146483644) = masks := by decide +kernel
theorem qw_1000003 : movedBy (movedBy masks (xpow 2146483644)) (xpow 1000003) = masks := by decide +kernel
theorem pw_4 : movedBy (movedBy masks (xpow 4)) (xpow 2147483643) = masks := by decide +kernel
theorem qw_4 : movedBy (movedBy masks (xpow 2147483643)) (xpow 4) = masks := by decide +kernel
end Kx
set_option Elab.async false
set_option linter.all false
set_option maxRecDepth 100000
set_option maxHeartbeats 2000000
namespace Kx
open PySem PySem.Spec PyProof.Rows L2
/-! ### valid sources stay valid -/
def W32 (i : Int) : Prop := 0 ≤ i ∧ i < 4294967296
theorem w32_word {i : Int} : isWord i = true ↔ W32 i := by
  unfold isWord W32
  rw [Bool.and_eq_true, decide_eq_true_eq, decide_eq_true_eq]
theorem w32_xor {a b : Int} (h : W32 a) (k : W32 b) : W32 (Builtin.bitXor a b) := by
  obtain ⟨h0, h1⟩ := h
  obtain ⟨k0, k1⟩ := k
  rw [Bits.bitXor_pp h0 k0]
  have := xor_lt (a := a.toNat) (b := b.toNat) (by omega) (by omega)
  exact ⟨by omega, by omega⟩
theorem w32_mod (a : Int) : W32 (a % 4294967296) := ⟨by omega, by omega⟩
theorem w32_div {a : Int} (h : W32 a) (k : Nat) : W32 (a / 2 ^ k) := by
  obtain ⟨h0, h1⟩ := h
  have p : (0 : Int) < 2 ^ k := Int.pow_pos (by decide)
  refine ⟨Int.ediv_nonneg h0 (Int.le_of_lt p), Int.lt_of_le_of_lt (Int.ediv_le_self _ h0) h1⟩
theorem chg_word (low key step : Int) : W32 (chg low key step) := w32_xor (w32_mod _) (w32_div (w32_mod _) 17)
theorem blk_word (k : Int) {n : Int} (h : 0 ≤ n ∧ n < 18446744073709551616) : ∀ i, W32 (blkIt k n i).1 ∧ W32 (blkIt k n i).2
  | 0 => ⟨⟨by show 0 ≤ n / 4294967296; omega, by show n / 4294967296 < 4294967296; omega⟩, w32_mod _⟩
  | i + 1 => ⟨(blk_word k h i).2, w32_xor (blk_word k h i).1 (chg_word _ _ _)⟩
theorem temper_word {i : Int} (h : W32 i) : W32 (ownTempered i) := w32_xor (w32_mod _) (w32_div (w32_mod _) 16)
theorem lin_ok (x : Int) : isNum (linStep x) = true := by
  rw [isNum_iff]
  unfold linStep
  omega
theorem pos_ok (p : Int) : 0 ≤ posOf p ∧ posOf p < 36893488147419103232 := by unfold posOf; omega
theorem Src.Valid.next {S : Src} (h : S.Valid) {a : Int} {S' : Src} (e : S.next = .ok a S') : S'.Valid ∧ isWord a = true ∧ S'.cls = S.cls := by
  cases S with
  | lin x =>
    cases e
    refine ⟨lin_ok x, w32_word.mpr ?_, rfl⟩
    have := isNum_iff.mp (lin_ok x)
    exact ⟨by omega, by omega⟩
  | cnt k p =>
    cases e
    obtain ⟨h1, h2, h3⟩ := h
    refine ⟨⟨h1, pos_ok _⟩, w32_word.mpr ?_, rfl⟩
    have b := blk_word k (n := p / 2) ⟨by omega, by omega⟩ 4
    unfold blkWord
    split
    · exact b.2
    · exact b.1
  | twi row =>
    cases e
    obtain ⟨h1, h2, h3⟩ := h
    have hw : twiWord row < 4294967296 := xor_lt (getD_lt h2 _) (getD_lt h2 _)
    refine ⟨⟨by simp [h1], fun n hn => ?_, ?_⟩, w32_word.mpr (temper_word ⟨by omega, by omega⟩), rfl⟩
    · rcases List.mem_append.mp hn with z | z
      · exact h2 n (List.mem_of_mem_drop z)
      · rw [List.mem_singleton.mp z]; exact hw
    · apply Classical.byContradiction
      intro c
      have all : ∀ n, n ∈ row.drop 1 ++ [twiWord row] → n = 0 := fun n hn => Classical.byContradiction fun z => c ⟨n, hn, z⟩
      obtain ⟨n, hn, nz⟩ := h3
      cases row with
      | nil => cases hn
      | cons x r =>
        have r0 : ∀ n, n ∈ r → n = 0 := fun n m => all n (List.mem_append_left _ m)
        have w0 : twiWord (x :: r) = 0 := all _ (List.mem_append_right _ (List.mem_singleton.mpr rfl))
        have g3 : (x :: r).getD 3 0 = 0 := by
          rw [List.getD_eq_getElem?_getD]
          cases q : (x :: r)[3]? with
          | none => rfl
          | some y => exact r0 y (List.mem_of_getElem? (show r[2]? = some y from q))
        have x0 : x = 0 := by
          have z : x ^^^ (x :: r).getD 3 0 = 0 := w0
          rw [g3, Nat.xor_zero] at z
          exact z
        rcases List.mem_cons.mp hn with z | z
        · exact nz (z.trans x0)
        · exact nz (r0 n z)
  | scr ws pl =>
    obtain ⟨⟨h1, h2⟩, h3⟩ := h
    unfold Src.next at e
    dsimp only at e
    split at e
    · rename_i lt
      cases e
      refine ⟨⟨⟨h1, h2⟩, lt⟩, ?_, rfl⟩
      rw [List.getD_eq_getElem?_getD, List.getElem?_eq_getElem lt]
      exact h2 _ (List.getElem_mem lt)
    · cases e
theorem row_jump {row : List Nat} (h : OkRow row) {s : Int} (l : LawSteps s) : OkRow (movedRow row s) := by
  obtain ⟨h1, h2, h3⟩ := h
  refine ⟨moved_len _ _, moved_ok h2 _, ?_⟩
  unfold movedRow
  rcases l with rfl | rfl | rfl | rfl | rfl | rfl
  · rw [show (0 : Int) % 2147483647 = 0 from by decide, moved_id h1 pw_0]; exact h3
  · exact moved_nz h1 h3 pw_1
  · exact moved_nz h1 h3 pw_2
  · exact moved_nz h1 h3 pw_5
  · exact moved_nz h1 h3 pw_1000003
  · exact moved_nz h1 h3 pw_4
theorem row_back {row : List Nat} (h : OkRow row) {s : Int} (l : LawSteps s) : OkRow (movedRow row (2147483647 - s % 2147483647)) := by
  obtain ⟨h1, h2, h3⟩ := h
  refine ⟨moved_len _ _, moved_ok h2 _, ?_⟩
  unfold movedRow
  rcases l with rfl | rfl | rfl | rfl | rfl | rfl
  · rw [show (2147483647 - (0 : Int) % 2147483647) % 2147483647 = 0 from by decide, moved_id h1 pw_0]; exact h3
  · exact moved_nz h1 h3 qw_1
  · exact moved_nz h1 h3 qw_2
  · exact moved_nz h1 h3 qw_5
  · exact moved_nz h1 h3 qw_1000003
  · exact moved_nz h1 h3 qw_4
theorem Src.Valid.jump {S : Src} (h : S.Valid) {s : Int} (l : LawSteps s) {u : Unit} {S' : Src} (e : S.jump s = .ok u S') : S'.Valid ∧ S'.cls = S.cls := by
  cases S with
  | lin x => cases e; exact ⟨moved2_ok x s, rfl⟩
  | cnt k p => cases e; exact ⟨⟨h.1, pos_ok _⟩, rfl⟩
  | twi row => cases e; exact ⟨row_jump h l, rfl⟩
  | scr ws pl =>
    obtain ⟨h1, h2⟩ := h
    have s0 := l.ok.1
    unfold Src.jump at e
    dsimp only at e
    split at e
    · cases e; exact ⟨⟨h1, by omega⟩, rfl⟩
    · cases e
theorem Src.Valid.back {S : Src} (h : S.Valid) {s : Int} (l : LawSteps s) {u : Unit} {S' : Src} (e : S.back s = .ok u S') : S'.Valid ∧ S'.cls = S.cls := by
  cases S with
  | lin x => cases e; exact ⟨moved2_ok x _, rfl⟩
  | cnt k p => cases e; exact ⟨⟨h.1, pos_ok _⟩, rfl⟩
  | twi row => cases e; exact ⟨row_back h l, rfl⟩
  | scr ws pl =>
    obtain ⟨h1, h2⟩ := h
    have s0 := l.ok.1
    unfold Src.back at e
    dsimp only at e
    split at e
    · cases e; exact ⟨⟨h1, by omega⟩, rfl⟩
    · cases e
/-- moved by 0 -/
theorem Src.Valid.jump0 {S : Src} (h : S.Valid) : S.jump 0 = .ok () S := by
  cases S with
  | lin x =>
    have b := isNum_iff.mp h
    have e : moved2 x 0 = x := by
      unfold moved2
      rw [show stepMap 0 = (1, 0) from by decide +kernel]
      show (1 * x + 0) % 281474976710656 = x
      omega
    show Res.ok () (Src.lin (moved2 x 0)) = _
    rw [e]
  | cnt k p =>
    obtain ⟨h1, h2, h3⟩ := h
    show Res.ok () (Src.cnt k (posOf (p + 0))) = _
    rw [Int.add_zero, cnt_pos h2 h3]
  | twi row =>
    have e : movedRow row 0 = row := by
      unfold movedRow
      rw [show (0 : Int) % 2147483647 = 0 from by decide]
      exact moved_id h.1 pw_0
    show Res.ok () (Src.twi (movedRow row 0)) = _
    rw [e]
  | scr ws pl =>
    obtain ⟨h1, h2⟩ := h
    show (if (pl : Int) + 0 ≤ ws.length then Res.ok () (Src.scr ws ((pl : Int) + 0).toNat) else _) = _
    rw [if_pos (by omega)]
    simp
end Kx
set_option Elab.async false
set_option linter.all false
set_option maxRecDepth 100000
set_option maxHeartbeats 2000000
namespace Kx
open PySem PySem.Spec PyProof.Rows L2 Evl
open He (ga ma)
section
variable {P : Program} {w : World} {K : PySem.W.Frag} {mg : Str → Option Value} {base : Heap}
/-! ### _law_told(lambda: ..) -/
theorem pe_told {X : Cx} (T : Tx X.K X.mg) {TL : List (Addr × Str)} {c Pt : Addr} {k : Nat} {params : Arguments} {body : Expr} {scope : Scope} {t : XK → TE} {p lpos pos : Pos} (hg : Gl X "_law_told")
    (TB : LamX.TabB X.base X.mg c Pt) (hcode : X.env.code = .ref c) (hmT : (Pt, X.env.qual ++ "<lambda>") ∈ TL) (hu : ∀ p ∈ TL, p.1 = Pt → p.2 = X.env.qual ++ "<lambda>") (hr : Room (k + 2) X.A)
    (hbody : ∀ (A : Around) (outer : List Env) (s : Shared) (H : Hp) (E : XK) (f c' : Addr), Room k (A.deeper (LamX.lamEnv X scope s.heap.objs.size f c')) → PE (LamX.lamCx X A outer s H E scope f c') body (t E))
    (L : LamX.LamS X.env.scope scope) (hdef : defaultsOf params X.env = ([], []) := by rfl)
    (hbind : ∀ (q : Str) (cl : List (Str × Addr)) (pm cv ctv : Value), bindArgs (PySem.W.kla_fn "<lambda>" q params body scope cl pm cv ctv) ⟨[], []⟩ = pure [] := by intros; rfl) :
    PE X (.Call (.Name "_law_told" p) [.Lambda params body scope lpos] [] pos) (LamX.tLam TL (TTold2 X.K) t) := by
  obtain ⟨fd, F⟩ := T.fn 97 _ rfl
  have hb := F.bindsN (ps := ["_law_call"]) (fun | _, _, _, _, _, _, [_], _ => rfl)
  have hk := F.kp
  obtain ⟨oc, od, dV, kV, doc, pm, an, cdv, ct, osl, rfl, lk, hcd, hD, hW⟩ := F.ex
  exact LamX.pe_lamcall hg (T.glo 64 _ rfl) hk lk hcd hb sc_law_told rfl (.inl (by decide +kernel)) (told2 T) TB hcode hmT hu hr L hdef hbind hbody
end
end Kx
set_option Elab.async false
set_option linter.all false
set_option maxRecDepth 100000
set_option maxHeartbeats 2000000
namespace Kx
open PySem PySem.Spec PyProof.Rows L2 Evl
open He (ga ma)
section
variable {P : Program} {w : World} {K : PySem.W.Frag} {mg : Str → Option Value} {base : Heap}
/-! ### defs with lambdas: their code object is known -/
theorem Tx.hasT (T : Tx K mg) (i j : Nat) {d : He5.DefA} {x : Str} {N ps : List Str} {k : Nat} {sp : Sp} (hd : fns[i]? = some d) (hj : glos[j]? = some x) (hx : d.at_ = fun K => ga K x) (S : FnScope N ps d.scope) (len : ∀ vs H Q E, sp vs H Q E → vs.length = ps.length) (hdf : d.dfl = [])
    (hb : ∀ (kV doc pm : Value) (an : Option Addr) (cdv ct : Value) (us : List Value), us.length = ps.length → bindArgs (PySem.W.fnOf d.name d.qual d.params d.body d.scope .none kV doc pm an cdv ct) ⟨us, []⟩ = pure (ps.zip us))
    (hbody : ∀ (A : Around) (outer : List Env) (s : Shared) (H : Hp) (vs : List V) (Q : VK) (E : XK), Room k (A.deeper (envOfC d.qual d.scope s.heap.objs.size (ga K x) (.ref (He.codeOf K (x, none))))) → sp vs H Q E →
      ∃ t, PSs (cxOf CX0 P w K mg base N d.qual d.scope (ga K x) (.ref (He.codeOf K (x, none))) A outer s H E).nox d.body t ∧ t { nx := fun _ H' => Q .non H', rt := Q } (start N vs) H) : Has P w K mg base CX0 x (k + 1) ps sp := by
  obtain ⟨fd, F⟩ := T.fn i d hd
  have e : d.at_ K = ga K x := by rw [hx]
  rw [e] at F
  have e2 : d.dvs K = [] := by unfold He5.DefA.dvs; rw [hdf]; rfl
  rw [e2] at F
  have hk := F.kp
  have hbs := F.bindsN hb
  have hgl := T.glo j x hj
  obtain ⟨oc, od, dV, kV, doc, pm, an, cdv, ct, osl, rfl, lk, hcd, hD, hW⟩ := F.ex
  obtain ⟨c, rfl⟩ := He.codeIn_ref hcd
  have hc : He.codeOf K (x, none) = c := He.codeOf_eq lk rfl
  subst hc
  refine has_of (fn_of lk hcd S len fun A outer s H vs Q E hr hsp => ?_) hgl hk hbs
  obtain ⟨t, h, q⟩ := hbody A outer s H vs Q E hr hsp
  exact ⟨t, h.nox, q⟩
/-- what the law's two defs of lambdas ask of the base -/
def tabR (K : PySem.W.Frag) : Addr := (He.cT K ("_law_call_right", none)).2
def tabO (K : PySem.W.Frag) : Addr := (He.cT K ("_law_odd_right", none)).2
structure Bx (K : PySem.W.Frag) (mg : Str → Option Value) (base : Heap) : Prop where
  r : LamX.TabB base mg (He.codeOf K ("_law_call_right", none)) (tabR K)
  o : LamX.TabB base mg (He.codeOf K ("_law_odd_right", none)) (tabO K)
  ne : tabR K ≠ tabO K
def TLs (K : PySem.W.Frag) : List (Addr × Str) := [(tabR K, "_law_call_right.<locals>.<lambda>"), (tabO K, "_law_odd_right.<locals>.<lambda>")]
theorem tls_r (B : Bx K mg base) : ∀ p ∈ TLs K, p.1 = tabR K → p.2 = "_law_call_right.<locals>.<lambda>" := fun p hp e => by
  rcases List.mem_cons.mp hp with z | z
  · rw [z]
  · rw [List.mem_singleton.mp z] at e; exact absurd e.symm B.ne
theorem tls_o (B : Bx K mg base) : ∀ p ∈ TLs K, p.1 = tabO K → p.2 = "_law_odd_right.<locals>.<lambda>" := fun p hp e => by
  rcases List.mem_cons.mp hp with z | z
  · rw [z] at e; exact absurd e B.ne
  · rw [List.mem_singleton.mp z]
end
end Kx
set_option Elab.async false
set_option linter.all false
set_option maxRecDepth 100000
set_option maxHeartbeats 2000000
namespace Kx
open PySem PySem.Spec PyProof.Rows L2 Evl
open He (ga ma)
/-! ### frames up to the tables of code objects -/
structure OnlyN (L : List Addr) (H H' : Hp) : Prop where
  keep : ∀ a o, H a = some o → a ∉ L → (∀ ps, o ≠ .tbl ps) → H' a = some o
  tups : ∀ a xs, H a = some (.tup xs) → H' a = some (.tup xs)
section
variable {L L' : List Addr} {H H1 H2 H' : Hp}
theorem Only.n (o : Only L H H') : OnlyN L H H' := ⟨fun a u h n _ => o.keep a u h n, o.tups⟩
theorem OnlyN.ofExt (e : LamX.ExtN H H') : OnlyN L H H' := ⟨fun a o h _ n => e a o h n, fun a xs h => e a _ h fun ps z => by cases z⟩
theorem OnlyN.refl : OnlyN L H H := Only.refl.n
theorem OnlyN.ex (e : Ex H H') : OnlyN L H H' := (Only.ex e).n
theorem OnlyN.trans (a : OnlyN L H H1) (b : OnlyN L H1 H2) : OnlyN L H H2 := ⟨fun x o h n t => b.keep x o (a.keep x o h n t) n t, fun x xs h => b.tups x xs (a.tups x xs h)⟩
theorem OnlyN.mono (a : OnlyN L H H') (h : ∀ x, x ∈ L → x ∈ L') : OnlyN L' H H' := ⟨fun x o hx n t => a.keep x o hx (fun m => n (h x m)) t, a.tups⟩
theorem OnlyN.nil (a : OnlyN [] H H') : OnlyN L H H' := a.mono fun x m => by cases m
end
section
variable {K : PySem.W.Frag} {L : List Addr} {H H' : Hp} {p r i l d g : Addr} {S : Src} {v : V} {t : It} {ts : List It} {us : List V}
theorem SrcAt.keepN (h : SrcAt K H p S) (o : OnlyN L H H') (n : p ∉ L) : SrcAt K H' p S := by
  cases S with
  | lin x => obtain ⟨dx, h⟩ := h; exact ⟨dx, o.keep _ _ h n fun _ z => by cases z⟩
  | cnt k q => obtain ⟨dx, h⟩ := h; exact ⟨dx, o.keep _ _ h n fun _ z => by cases z⟩
  | twi r => obtain ⟨dx, a, h, h2⟩ := h; exact ⟨dx, a, o.keep _ _ h n (fun _ z => by cases z), o.tups _ _ h2⟩
  | scr ws pl => obtain ⟨dx, a, h, h2⟩ := h; exact ⟨dx, a, o.keep _ _ h n (fun _ z => by cases z), o.tups _ _ h2⟩
theorem StAt.keepN (h : StAt H v S) (o : OnlyN L H H') : StAt H' v S := by
  cases S with
  | lin x => obtain ⟨a, h, h1⟩ := h; exact ⟨a, h, o.tups _ _ h1⟩
  | cnt k q => obtain ⟨a, h, h1⟩ := h; exact ⟨a, h, o.tups _ _ h1⟩
  | twi r => obtain ⟨a, h, h1⟩ := h; exact ⟨a, h, o.tups _ _ h1⟩
  | scr ws pl => obtain ⟨a, b, h, h1, h2⟩ := h; exact ⟨a, b, h, o.tups _ _ h1, o.tups _ _ h2⟩
theorem ItAt.keepN (h : ItAt H v t) (o : OnlyN L H H') : ItAt H' v t := by
  cases t with
  | word i => exact h
  | move n s => obtain ⟨a, h1, h2⟩ := h; exact ⟨a, h1, o.tups _ _ h2⟩
theorem Its.keepN (h : Its H ts us) (o : OnlyN L H H') : Its H' ts us := L2.Paired.mapP h fun _ _ z => z.keepN o
theorem RecAt.keepN (h : RecAt K H r i l ts) (o : OnlyN L H H') (n1 : r ∉ L) (n2 : l ∉ L) : RecAt K H' r i l ts := by
  obtain ⟨dx, vs, h1, h2, h3⟩ := h
  exact ⟨dx, vs, o.keep _ _ h1 n1 (fun _ z => by cases z), o.keep _ _ h2 n2 (fun _ z => by cases z), h3.keepN o⟩
theorem DrawAt.keepN (h : DrawAt H d g) (o : OnlyN L H H') (n1 : d ∉ L) (n2 : g ∉ L) : DrawAt H' d g := by
  obtain ⟨m, t, gs, h1, h2, h3⟩ := h
  exact ⟨m, t, gs, o.keep _ _ h1 n1 (fun _ z => by cases z), o.keep _ _ h2 n2 (fun _ z => by cases z), h3⟩
theorem RStAt.keepN (h : RStAt H v S ts) (o : OnlyN L H H') : RStAt H' v S ts := by
  obtain ⟨a, st, t, us, h1, h2, h3, h4, h5⟩ := h
  exact ⟨a, st, t, us, h1, o.tups _ _ h2, h3.keepN o, o.tups _ _ h4, h5.keepN o⟩
/-! ### tables stay -/
/-- no table, no code object stands at x -/
def Bare (H : Hp) (x : Addr) : Prop := (∀ ps, H x ≠ some (.tbl ps)) ∧ ∀ q, H x ≠ some (LamX.CodeO x q)
theorem bare_ins {C dx : Addr} {fs : List (Str × V)} (h : H p = some (.ins C dx fs)) : Bare H p := ⟨fun ps z => (by rw [h] at z; cases z), fun q z => (by rw [h] at z; unfold LamX.CodeO at z; cases z)⟩
theorem bare_lst {xs : List V} (h : H p = some (.lst xs)) : Bare H p := ⟨fun ps z => (by rw [h] at z; cases z), fun q z => (by rw [h] at z; unfold LamX.CodeO at z; cases z)⟩
theorem bare_dK {xs : List (Key × V)} (h : H p = some (.dK xs)) : Bare H p := ⟨fun ps z => (by rw [h] at z; cases z), fun q z => (by rw [h] at z; unfold LamX.CodeO at z; cases z)⟩
theorem tabs_keep {T : List (Addr × Str)} (h : LamX.Tabs T H) (o : Only L H H') (b : ∀ x, x ∈ L → Bare H x) : LamX.Tabs T H' := fun q hq => by
  obtain ⟨ps, h1, h2, h3⟩ := h q hq
  refine ⟨ps, o.keep _ _ h1 fun m => (b _ m).1 ps h1, h2, fun pos cv hc => ?_⟩
  obtain ⟨c, e1, e2⟩ := h3 pos cv hc
  exact ⟨c, e1, o.keep _ _ e2 fun m => (b _ m).2 _ e2⟩
end
/-- a step: the places L, the tables -/
structure Stp (K : PySem.W.Frag) (L : List Addr) (H H' : Hp) : Prop where
  n : OnlyN L H H'
  tabs : LamX.Tabs (TLs K) H'
section
variable {K : PySem.W.Frag} {L L' : List Addr} {H H1 H2 H' : Hp}
theorem Stp.of (t : LamX.Tabs (TLs K) H) (o : Only L H H') (b : ∀ x, x ∈ L → Bare H x) : Stp K L H H' := ⟨o.n, tabs_keep t o b⟩
theorem Stp.ofEx (t : LamX.Tabs (TLs K) H) (e : Ex H H') : Stp K L H H' := ⟨OnlyN.ex e, t.ext e⟩
theorem Stp.trans (a : Stp K L H H1) (b : Stp K L H1 H2) : Stp K L H H2 := ⟨a.n.trans b.n, b.tabs⟩
theorem Stp.mono (a : Stp K L H H') (h : ∀ x, x ∈ L → x ∈ L') : Stp K L' H H' := ⟨a.n.mono h, a.tabs⟩
end
end Kx
set_option Elab.async false
set_option linter.all false
set_option maxRecDepth 100000
set_option maxHeartbeats 2000000
namespace Kx
open PySem PySem.Spec PyProof.Rows L2 Evl
open He (ga ma)
/-! ### what is told -/
def ToldAt {α : Type} (H : Hp) (v : V) (x : Res α) (f : α → V) : Prop := match x with
  | .ok a _ => ∃ p, v = .ref p ∧ H p = some (.lst [f a])
  | .exh m => ∃ p, v = .ref p ∧ H p = some (.tup [.str "exhausted", .int m])
  | .bad g => ∃ p, v = .ref p ∧ H p = some (.tup [.str "steps", .int g])
/-- what is told is a new list -/
def NewV {α : Type} (H : Hp) (v : V) (x : Res α) : Prop := match x with
  | .ok _ _ => ∀ a o, H a = some o → (∀ ps, o ≠ .tbl ps) → v ≠ .ref a
  | _ => True
theorem ToldAt.ex {α : Type} {H H' : Hp} {v : V} {x : Res α} {f : α → V} (h : ToldAt H v x f) (e : Ex H H') : ToldAt H' v x f := by
  cases x with
  | ok a S => obtain ⟨p, h1, h2⟩ := h; exact ⟨p, h1, e _ _ h2⟩
  | exh m => obtain ⟨p, h1, h2⟩ := h; exact ⟨p, h1, e _ _ h2⟩
  | bad g => obtain ⟨p, h1, h2⟩ := h; exact ⟨p, h1, e _ _ h2⟩
theorem ToldAt.keep {α : Type} {L : List Addr} {H H' : Hp} {v : V} {x : Res α} {f : α → V} (h : ToldAt H v x f) (o : OnlyN L H H') (n : ∀ q, v = .ref q → (∃ vs, H q = some (.lst vs)) → q ∉ L) : ToldAt H' v x f := by
  cases x with
  | ok a S => obtain ⟨p, h1, h2⟩ := h; exact ⟨p, h1, o.keep _ _ h2 (n p h1 ⟨_, h2⟩) (fun _ z => by cases z)⟩
  | exh m => obtain ⟨p, h1, h2⟩ := h; exact ⟨p, h1, o.tups _ _ h2⟩
  | bad g => obtain ⟨p, h1, h2⟩ := h; exact ⟨p, h1, o.tups _ _ h2⟩
/-- the state behind a call -/
def Res.st {α : Type} (x : Res α) (S : Src) : Src := match x with
  | .ok _ S' => S'
  | _ => S
def Res.add {α : Type} (x : Res α) (g : α → It) (ts : List It) : List It := match x with
  | .ok a _ => ts ++ [g a]
  | _ => ts
section
variable {K : PySem.W.Frag} {σ : L2.St} {H : Hp} {t : XK → TE} {Q : VK} {α : Type} {x : Res α} {f : α → V} {g : α → It} {r i l p : Addr} {ts : List It} {S : Src}
theorem src_bare (h : SrcAt K H p S) : Bare H p := by
  obtain ⟨dx, fs, h⟩ := h.ins
  exact bare_ins h
theorem rec_bare (h : RecAt K H r i l ts) : Bare H r ∧ Bare H l := by
  obtain ⟨dx, vs, h1, h2, _⟩ := h
  exact ⟨bare_ins h1, bare_lst h2⟩
theorem rec_ex (h : RecAt K H r i l ts) {H' : Hp} (o : OnlyN [] H H') : RecAt K H' r i l ts := h.keepN o (by simp) (by simp)
theorem src_ex (h : SrcAt K H p S) {H' : Hp} (o : OnlyN [] H H') : SrcAt K H' p S := h.keepN o (by simp)
/-- told by the recording -/
theorem rd_toldR (hT : LamX.Tabs (TLs K) H) (hr : RecAt K H r i l ts) (hs : SrcAt K H i S) (hb : ∀ E H1 Q', OnlyN [] H H1 → RetR K r i l ts H1 x f g Q' E → t E σ H1 Q')
    (k : ∀ v H', Stp K [i, l] H H' → ToldAt H' v x f → NewV H v x → RecAt K H' r i l (x.add g ts) → SrcAt K H' i (x.st S) → Q v H') : LamX.tLam (TLs K) (TTold2 K) t σ H Q := by
  refine ⟨hT, fun H1 eN T1 => hb _ H1 _ (OnlyN.ofExt eN) ?_⟩
  have oN : OnlyN [] H H1 := OnlyN.ofExt eN
  have hr1 := rec_ex hr oN
  have hs1 := src_ex hs oN
  cases x with
  | ok a S' =>
    intro H' o hr2 hs2
    refine toldV fun q hq => ?_
    have e : Ex H' (upd H' q (.lst [f a])) := Ex.new hq
    have t2 := tabs_keep T1 o fun y hy => by
      rcases List.mem_cons.mp hy with z | z
      · rw [z]; exact src_bare hs1
      · rw [List.mem_singleton.mp z]; exact (rec_bare hr1).2
    exact k _ _ ⟨(oN.nil.trans o.n).trans (OnlyN.ex e), t2.ext e⟩ ⟨q, rfl, upd_same⟩ (fun y u hy nt z => by
      have z' : q = y := by injection z
      subst z'
      by_cases c : q ∈ [i, l]
      · rcases List.mem_cons.mp c with c | c
        · obtain ⟨dx, fs, s9⟩ := hs2.ins
          rw [c, s9] at hq
          cases hq
        · obtain ⟨dx, vs, _, s9, _⟩ := hr2
          rw [List.mem_singleton.mp c, s9] at hq
          cases hq
      · rw [o.keep _ _ (oN.keep _ _ hy (by simp) nt) c] at hq
        cases hq) (hr2.ex e) (hs2.ex e)
  | exh m =>
    intro d H' e hd
    refine .inl ⟨rfl, d, m, rfl, hd, fun q H2 e2 hq => ?_⟩
    have e3 := e.trans e2
    exact k _ _ ⟨oN.nil.trans (OnlyN.ex e3), T1.ext e3⟩ ⟨q, rfl, hq⟩ trivial (hr1.ex e3) (hs1.ex e3)
  | bad b =>
    intro d H' e hd
    refine .inr ⟨rfl, d, b, rfl, hd, fun q H2 e2 hq => ?_⟩
    have e3 := e.trans e2
    exact k _ _ ⟨oN.nil.trans (OnlyN.ex e3), T1.ext e3⟩ ⟨q, rfl, hq⟩ trivial (hr1.ex e3) (hs1.ex e3)
/-- told by the source -/
theorem rd_toldS (hT : LamX.Tabs (TLs K) H) (hs : SrcAt K H p S) (hb : ∀ E H1 Q', OnlyN [] H H1 → RetS K p H1 x f Q' E → t E σ H1 Q')
    (k : ∀ v H', Stp K [p] H H' → ToldAt H' v x f → NewV H v x → SrcAt K H' p (x.st S) → Q v H') : LamX.tLam (TLs K) (TTold2 K) t σ H Q := by
  refine ⟨hT, fun H1 eN T1 => hb _ H1 _ (OnlyN.ofExt eN) ?_⟩
  have oN : OnlyN [] H H1 := OnlyN.ofExt eN
  have hs1 := src_ex hs oN
  cases x with
  | ok a S' =>
    intro H' o hs2
    refine toldV fun q hq => ?_
    have e : Ex H' (upd H' q (.lst [f a])) := Ex.new hq
    have t2 := tabs_keep T1 o fun y hy => by rw [List.mem_singleton.mp hy]; exact src_bare hs1
    exact k _ _ ⟨(oN.nil.trans o.n).trans (OnlyN.ex e), t2.ext e⟩ ⟨q, rfl, upd_same⟩ (fun y u hy nt z => by
      have z' : q = y := by injection z
      subst z'
      by_cases c : q ∈ [p]
      · obtain ⟨dx, fs, s9⟩ := hs2.ins
        rw [List.mem_singleton.mp c, s9] at hq
        cases hq
      · rw [o.keep _ _ (oN.keep _ _ hy (by simp) nt) c] at hq
        cases hq) (hs2.ex e)
  | exh m =>
    intro d H' e hd
    refine .inl ⟨rfl, d, m, rfl, hd, fun q H2 e2 hq => ?_⟩
    have e3 := e.trans e2
    exact k _ _ ⟨oN.nil.trans (OnlyN.ex e3), T1.ext e3⟩ ⟨q, rfl, hq⟩ trivial (hs1.ex e3)
  | bad b =>
    intro d H' e hd
    refine .inr ⟨rfl, d, b, rfl, hd, fun q H2 e2 hq => ?_⟩
    have e3 := e.trans e2
    exact k _ _ ⟨oN.nil.trans (OnlyN.ex e3), T1.ext e3⟩ ⟨q, rfl, hq⟩ trivial (hs1.ex e3)
end
end Kx
set_option Elab.async false
set_option linter.all false
set_option maxRecDepth 100000
set_option maxHeartbeats 2000000
namespace Kx
open PySem PySem.Spec PyProof.Rows L2 Evl
/-! ### the tape grows -/
theorem Goes.snoc : ∀ {ts : List It} {S0 S S' : Src} {t : It}, Goes ts S0 S → Goes1 t S S' → t.Law → S'.Valid → Goes (ts ++ [t]) S0 S'
  | _, _, _, _, _, .nil _, g, l, v => .cons g l v (.nil _)
  | _, _, _, _, _, .cons g1 l1 v1 r, g, l, v => .cons g1 l1 v1 (Goes.snoc r g l v)
theorem goes_next {ts : List It} {S0 S : Src} (g : Goes ts S0 S) (hv : S.Valid) : Goes (S.next.add It.word ts) S0 (S.next.st S) ∧ (S.next.st S).Valid ∧ (S.next.st S).cls = S.cls := by
  cases e : S.next with
  | ok a S' =>
    obtain ⟨v, w, c⟩ := hv.next e
    exact ⟨g.snoc e w v, v, c⟩
  | exh m => exact ⟨g, hv, rfl⟩
  | bad b => exact ⟨g, hv, rfl⟩
theorem goes_jump {ts : List It} {S0 S : Src} (g : Goes ts S0 S) (hv : S.Valid) {s : Int} (l : LawSteps s) : Goes ((S.jump s).add (fun _ => It.move "jump" s) ts) S0 ((S.jump s).st S) ∧ ((S.jump s).st S).Valid ∧ ((S.jump s).st S).cls = S.cls := by
  cases e : S.jump s with
  | ok a S' =>
    obtain ⟨v, c⟩ := hv.jump l e
    exact ⟨g.snoc (.inl ⟨rfl, e⟩) ⟨.inl rfl, l⟩ v, v, c⟩
  | exh m => exact ⟨g, hv, rfl⟩
  | bad b => exact ⟨g, hv, rfl⟩
theorem goes_back {ts : List It} {S0 S : Src} (g : Goes ts S0 S) (hv : S.Valid) {s : Int} (l : LawSteps s) : Goes ((S.back s).add (fun _ => It.move "back" s) ts) S0 ((S.back s).st S) ∧ ((S.back s).st S).Valid ∧ ((S.back s).st S).cls = S.cls := by
  cases e : S.back s with
  | ok a S' =>
    obtain ⟨v, c⟩ := hv.back l e
    exact ⟨g.snoc (.inr ⟨rfl, e⟩) ⟨.inr rfl, l⟩ v, v, c⟩
  | exh m => exact ⟨g, hv, rfl⟩
  | bad b => exact ⟨g, hv, rfl⟩
end Kx
set_option Elab.async false
set_option linter.all false
set_option maxRecDepth 100000
set_option maxHeartbeats 2000000
namespace Kx
open PySem PySem.Spec PyProof.Rows L2 Evl
open He (ga ma)
/-! ### data of what is told -/
def toldD {α : Type} (x : Res α) (fd : α → PyData) : PyData := match x with
  | .ok a _ => .list [fd a]
  | .exh m => .tuple [.str "exhausted", .int m]
  | .bad g => .tuple [.str "steps", .int g]
section
variable {K : PySem.W.Frag} {H : Hp} {v : V} {α : Type} {x : Res α} {f : α → V} {fd : α → PyData}
theorem dp_told (h : ToldAt H v x f) (hf : ∀ a, Dp K H (f a) (fd a)) : Dp K H v (toldD x fd) := by
  cases x with
  | ok a S =>
    obtain ⟨p, rfl, hp⟩ := h
    exact .lst (SqL.of hp) (.cons (hf a) .nil)
  | exh m =>
    obtain ⟨p, rfl, hp⟩ := h
    exact .tup (SqT.of hp) (.cons (.str _) (.cons (.int m) .nil))
  | bad g =>
    obtain ⟨p, rfl, hp⟩ := h
    exact .tup (SqT.of hp) (.cons (.str _) (.cons (.int g) .nil))
theorem dn_told (hf : ∀ a, Dn 0 (fd a)) : Dn 1 (toldD x fd) := by
  cases x with
  | ok a S =>
    refine dn_lst fun d m => ?_
    rcases List.mem_singleton.mp m with rfl
    exact hf a
  | exh m =>
    refine dn_tup fun d m' => ?_
    rcases List.mem_cons.mp m' with rfl | m'
    · exact ⟨by rw [PyData.canLay0]; decide +kernel, by rw [PyData.depth]; exact Nat.le_refl _⟩
    · rcases List.mem_singleton.mp m' with rfl
      exact dn_int
  | bad g =>
    refine dn_tup fun d m' => ?_
    rcases List.mem_cons.mp m' with rfl | m'
    · exact ⟨by rw [PyData.canLay0]; decide +kernel, by rw [PyData.depth]; exact Nat.le_refl _⟩
    · rcases List.mem_singleton.mp m' with rfl
      exact dn_int
theorem dn_noneD : Dn 0 PyData.none := ⟨by rw [PyData.canLay0], by rw [PyData.depth]; exact Nat.le_refl _⟩
end
end Kx
set_option Elab.async false
set_option linter.all false
set_option maxRecDepth 100000
set_option maxHeartbeats 2000000
namespace Kx
open PySem PySem.Spec PyProof.Rows L2
/-! ### != of an instance with itself, no own == -/
section
variable {prog : Program} {w : World} {A : Around} {E : Value → Shared → Prop} {s : Shared} {x C : Addr} {o : Obj}
theorem eq_at (se : ∀ M : Model, PySem.W.Looks M s.heap (specialOf (.ref x) "__eq__") (some (.builtin "object.__eq__"))) (iv : ∀ M : Model, PySem.W.Looks M s.heap (isInstance (.ref x) (.type "object")) true)
    {Q : Option Value → Shared → Prop} (q : Q (some (.bool true)) s) : wpAny (model prog w) A (callSpecialIfBound? (.ref x) "__eq__" [.ref x]) Q E s := by
  refine NtL.csib (se _) rfl ?_
  refine wpAny_call (codeAny_call_builtin (by decide +kernel) PySem.F.cmpEntry_eq (@PySem.W.check_slot (model prog w) _ _ _ "object.__eq__" "object" "__eq__" (.ref x) [.ref x] [] _ (by decide +kernel) (by decide +kernel) (iv _) (PySem.F.cmpArgs_eq _ _) ?_))
  exact objEq_entry_same q
theorem ne_at (hu : A.units + 1 < cLine) (se : ∀ M : Model, PySem.W.Looks M s.heap (specialOf (.ref x) "__eq__") (some (.builtin "object.__eq__"))) (sn : ∀ M : Model, PySem.W.Looks M s.heap (specialOf (.ref x) "__ne__") (some (.builtin "object.__ne__")))
    (iv : ∀ M : Model, PySem.W.Looks M s.heap (isInstance (.ref x) (.type "object")) true) {Q : Option Value → Shared → Prop} (q : Q (some (.bool false)) s) : wpAny (model prog w) A (callSpecialIfBound? (.ref x) "__ne__" [.ref x]) Q E s := by
  refine NtL.csib (sn _) rfl ?_
  refine wpAny_call (codeAny_call_builtin (by decide +kernel) PySem.F.cmpEntry_ne (@PySem.W.check_slot (model prog w) _ _ _ "object.__ne__" "object" "__ne__" (.ref x) [.ref x] [] _ (by decide +kernel) (by decide +kernel) (iv _) (PySem.F.cmpArgs_ne _ _) ?_))
  have hu1 : A.in1.units < cLine := hu
  unfold Builtin.«object.__ne__»
  repeat (first | with_reducible refine wpAny_cRoomFor hu1 ?_ | with_reducible refine eq_at se iv ?_ | wp_step)
  exact q
theorem ne_self (hu : A.units + 1 < cLine) (hx : s.heap.get? x = some o) (hc : o.cls = .ref C) (se : ∀ M : Model, PySem.W.Looks M s.heap (specialOf (.ref x) "__eq__") (some (.builtin "object.__eq__"))) (sn : ∀ M : Model, PySem.W.Looks M s.heap (specialOf (.ref x) "__ne__") (some (.builtin "object.__ne__")))
    (iv : ∀ M : Model, PySem.W.Looks M s.heap (isInstance (.ref x) (.type "object")) true) {Q : Value → Shared → Prop} (h : Q (.bool false) s) : wpAny (model prog w) A (compareOp .NotEq (.ref x) (.ref x)) Q E s := by
  have hu0 : A.units < cLine := Nat.lt_of_succ_lt hu
  show wpAny _ _ (richCompare .NotEq (.ref x) (.ref x)) _ _ _
  have same : (Value.ref C != Value.ref C) = false := by simp
  simp only [richCompare, PySem.cmpInfo_NotEq, oneThing_ref, tryCompare]
  repeat (first | with_reducible refine wpAny_cRoomFor hu0 ?_ | (with_reducible refine wpAny_loadPart_at hx ?_; rw [hc]) | with_reducible refine ne_at hu se sn iv ?_ | wp_step)
  all_goals first | exact h | skip
end
end Kx
set_option Elab.async false
set_option linter.all false
set_option maxRecDepth 100000
set_option maxHeartbeats 2000000
namespace Kx
open PySem PySem.Spec PyProof.Rows L2
def rNeS (G : Addr → Prop) : R2 := fun x y H Q => ∃ a C dx fs, G C ∧ x = .ref a ∧ y = .ref a ∧ H a = some (.ins C dx fs) ∧ Q (.bl false) H
/-- a class that has object's == -/
structure NoEq (K : PySem.W.Frag) (C : Addr) : Prop where
  eq : PySem.W.findIn K (.ref C) "__eq__" = some (some (.builtin "object.__eq__"))
  ne : PySem.W.findIn K (.ref C) "__ne__" = some (some (.builtin "object.__ne__"))
  ob : PySem.W.mroIn K C (.type "object") = some true
theorem op_neS {X : Cx} {G : Addr → Prop} (hu : X.A.units + 64 < cLine) (hf : ∀ C, G C → NoEq X.K C) : OpR X (compareOp .NotEq) (rNeS G) := by
  intro pins s σ H x y v u Q I rx ry h
  obtain ⟨a, C, dx, fs, g, rfl, rfl, ha, q⟩ := h
  cases rx
  cases ry
  obtain ⟨h1, h2, h3⟩ := hf C g
  obtain ⟨mA, J, _⟩ := ins_get I.hok ha
  obtain ⟨ob, n, ne⟩ := id J
  obtain ⟨od, J2, _⟩ := J.look
  have ty : ∀ M : Model, PySem.W.Looks M s.heap (typeOf (.ref a)) (.ref C) := fun M => J2.type
  have iv : ∀ M : Model, PySem.W.Looks M s.heap (isInstance (.ref a) (.type "object")) true := fun M => (ty M).andThen (PySem.W.looks_mroIn I.kIn h3)
  exact ne_self (by omega) ob rfl (fun M => (ty M).andThen (PySem.W.looks_findIn I.kIn h1)) (fun M => (ty M).andThen (PySem.W.looks_findIn I.kIn h2)) iv ⟨.bl false, H, I, rfl, q⟩
end Kx
set_option Elab.async false
set_option linter.all false
set_option maxRecDepth 100000
set_option maxHeartbeats 2000000
namespace Kx
open PySem PySem.Spec PyProof.Rows L2 Evl
open He (ga ma)
/-! ### the law's world: a draw, a recording of the source at i, the plain source at p, the items at m -/
section
variable {K : PySem.W.Frag} {L : List Addr} {H H1 H2 : Hp} {x : Addr}
theorem Stp.gone (s : Stp K L H H1) (h1 : H1 x = none) (n : x ∉ L) : ∀ o, H x = some o → (∀ ps, o ≠ .tbl ps) → False := fun o ho nt => by
  have z := s.n.keep x o ho n nt
  rw [h1] at z
  cases z
theorem Stp.newL {L' : List Addr} (a : Stp K L H H1) (b : Stp K L' H1 H2) (g : ∀ x, x ∈ L' → ∀ o, H x = some o → (∀ ps, o ≠ .tbl ps) → False) : Stp K L H H2 :=
  ⟨⟨fun y o hy ny nt => b.n.keep y o (a.n.keep y o hy ny nt) (fun z => g y z o hy nt) nt, fun y xs hy => b.n.tups _ _ (a.n.tups _ _ hy)⟩, b.tabs⟩
theorem Stp.newTop (a : Stp K L H H1) (b : Stp K [x] H1 H2) (g : ∀ o, H x = some o → (∀ ps, o ≠ .tbl ps) → False) : Stp K L H H2 := a.newL b fun y hy => by rw [List.mem_singleton.mp hy]; exact g
end
structure Wl (K : PySem.W.Frag) (d g r i l p m : Addr) (Si Sp : Src) (tr ti : List It) (H : Hp) : Prop where
  draw : DrawAt H d g
  rcd : RecAt K H r i l tr
  si : SrcAt K H i Si
  sp : SrcAt K H p Sp
  items : ∃ us, H m = some (.lst us) ∧ Its H ti us
  tabs : LamX.Tabs (TLs K) H
  gl : g ≠ l
  gm : g ≠ m
  lm : l ≠ m
  ip : i ≠ p
theorem sub_il {d g r i l p m : Addr} : ∀ x, x ∈ [i, l] → x ∈ [d, g, r, i, l, p, m] := fun x h => by
  rcases List.mem_cons.mp h with rfl | h
  · simp
  · rcases List.mem_singleton.mp h with rfl
    simp
theorem sub_dg {d g r i l p m : Addr} : ∀ x, x ∈ [d, g] → x ∈ [d, g, r, i, l, p, m] := fun x h => by
  rcases List.mem_cons.mp h with rfl | h
  · simp
  · rcases List.mem_singleton.mp h with rfl
    simp
theorem sub_p {d g r i l p m : Addr} : ∀ x, x ∈ [p] → x ∈ [d, g, r, i, l, p, m] := fun x h => by
  rcases List.mem_singleton.mp h with rfl
  simp
theorem sub_m {d g r i l p m : Addr} : ∀ x, x ∈ [m] → x ∈ [d, g, r, i, l, p, m] := fun x h => by
  rcases List.mem_singleton.mp h with rfl
  simp
theorem sub_r {d g r i l p m : Addr} : ∀ x, x ∈ [r] → x ∈ [d, g, r, i, l, p, m] := fun x h => by
  rcases List.mem_singleton.mp h with rfl
  simp
section
variable {K : PySem.W.Frag} {d g r i l p m : Addr} {Si Sp Si' Sp' : Src} {tr ti tr' ti' : List It} {H H' : Hp} {L : List Addr}
structure Wl.Nes (d g r i l p m : Addr) : Prop where
  dg : d ≠ g
  dr : d ≠ r
  di : d ≠ i
  dl : d ≠ l
  dp : d ≠ p
  dm : d ≠ m
  gr : g ≠ r
  gi : g ≠ i
  gl : g ≠ l
  gp : g ≠ p
  gm : g ≠ m
  ri : r ≠ i
  rl : r ≠ l
  rp : r ≠ p
  rm : r ≠ m
  il : i ≠ l
  ip : i ≠ p
  im : i ≠ m
  lp : l ≠ p
  lm : l ≠ m
  pm : p ≠ m
theorem Wl.nes (h : Wl K d g r i l p m Si Sp tr ti H) : Wl.Nes d g r i l p m := by
  obtain ⟨us, hm, _⟩ := h.items
  obtain ⟨mm, t, gs, hd, hg, _⟩ := h.draw
  obtain ⟨dx, vs, hr, hl, _⟩ := id h.rcd
  obtain ⟨_, _, hi⟩ := h.si.ins
  obtain ⟨_, _, hp⟩ := h.sp.ins
  have n : ∀ {a b : Addr} {o u : HO}, H a = some o → H b = some u → o ≠ u → a ≠ b := fun h h' d => ne_of h h' d
  exact ⟨n hd hg (by intro z; cases z), n hd hr (by intro z; cases z), n hd hi (by intro z; cases z), n hd hl (by intro z; cases z), n hd hp (by intro z; cases z), n hd hm (by intro z; cases z),
    n hg hr (by intro z; cases z), n hg hi (by intro z; cases z), h.gl, n hg hp (by intro z; cases z), h.gm,
    Ne.symm (rec_ne_src h.rcd h.si), n hr hl (by intro z; cases z), Ne.symm (rec_ne_src h.rcd h.sp), n hr hm (by intro z; cases z),
    n hi hl (by intro z; cases z), h.ip, n hi hm (by intro z; cases z), n hl hp (by intro z; cases z), h.lm, n hp hm (by intro z; cases z)⟩
theorem not2 {x a b : Addr} (h : x ≠ a) (k : x ≠ b) : x ∉ [a, b] := fun z => by
  rcases List.mem_cons.mp z with z | z
  · exact h z
  · exact k (List.mem_singleton.mp z)
theorem not1 {x a : Addr} (h : x ≠ a) : x ∉ [a] := fun z => h (List.mem_singleton.mp z)
theorem Wl.keep (h : Wl K d g r i l p m Si Sp tr ti H) (o : Stp K L H H') (n : ∀ x, x ∈ [d, g, r, i, l, p, m] → x ∉ L) : Wl K d g r i l p m Si Sp tr ti H' := by
  obtain ⟨us, h1, h2⟩ := h.items
  exact ⟨h.draw.keepN o.n (n _ (by simp)) (n _ (by simp)), h.rcd.keepN o.n (n _ (by simp)) (n _ (by simp)), h.si.keepN o.n (n _ (by simp)), h.sp.keepN o.n (n _ (by simp)), ⟨us, o.n.keep _ _ h1 (n _ (by simp)) (fun _ z => by cases z), h2.keepN o.n⟩, o.tabs, h.gl, h.gm, h.lm, h.ip⟩
theorem Wl.ex (h : Wl K d g r i l p m Si Sp tr ti H) (e : Ex H H') : Wl K d g r i l p m Si Sp tr ti H' := h.keep (L := []) (Stp.ofEx h.tabs e) (by simp)
theorem Wl.stEx (h : Wl K d g r i l p m Si Sp tr ti H) (e : Ex H H') : Stp K L H H' := Stp.ofEx h.tabs e
/-- what is new is none of these -/
theorem Wl.fresh (h : Wl K d g r i l p m Si Sp tr ti H) {x : Addr} (hx : H x = none) : x ∉ [d, g, r, i, l, p, m] := fun z => by
  obtain ⟨us, hm, _⟩ := h.items
  obtain ⟨mm, t, gs, hd, hg, _⟩ := h.draw
  obtain ⟨dx, vs, hr, hl, _⟩ := id h.rcd
  obtain ⟨_, _, hi⟩ := h.si.ins
  obtain ⟨_, _, hp⟩ := h.sp.ins
  have n : ∀ {a : Addr} {o : HO}, H a = some o → x ≠ a := fun ha e => by rw [e, ha] at hx; cases hx
  simp only [List.mem_cons, List.not_mem_nil, or_false] at z
  rcases z with z | z | z | z | z | z | z
  · exact n hd z
  · exact n hg z
  · exact n hr z
  · exact n hi z
  · exact n hl z
  · exact n hp z
  · exact n hm z
/-- a draw has been made -/
theorem Wl.stD (h : Wl K d g r i l p m Si Sp tr ti H) (o : Only [d, g] H H') : Stp K [d, g] H H' := by
  obtain ⟨mm, t, gs, q1, q2, _⟩ := h.draw
  exact Stp.of h.tabs o fun x hx => by
    rcases List.mem_cons.mp hx with z | z
    · rw [z]; exact bare_dK q1
    · rw [List.mem_singleton.mp z]; exact bare_lst q2
theorem Wl.drawn (h : Wl K d g r i l p m Si Sp tr ti H) (o : Only [d, g] H H') (hd : DrawAt H' d g) : Wl K d g r i l p m Si Sp tr ti H' := by
  obtain ⟨us, h1, h2⟩ := h.items
  have n := h.nes
  have st := h.stD o
  exact ⟨hd, h.rcd.keepN st.n (not2 n.dr.symm n.gr.symm) (not2 n.dl.symm n.gl.symm), h.si.keepN st.n (not2 n.di.symm n.gi.symm), h.sp.keepN st.n (not2 n.dp.symm n.gp.symm), ⟨us, st.n.keep _ _ h1 (not2 n.dm.symm n.gm.symm) (fun _ z => by cases z), h2.keepN st.n⟩, st.tabs, h.gl, h.gm, h.lm, h.ip⟩
/-- the recording has gone on -/
theorem Wl.recd (h : Wl K d g r i l p m Si Sp tr ti H) (o : Stp K [i, l] H H') (hr : RecAt K H' r i l tr') (hi : SrcAt K H' i Si') : Wl K d g r i l p m Si' Sp tr' ti H' := by
  obtain ⟨us, h1, h2⟩ := h.items
  have n := h.nes
  exact ⟨h.draw.keepN o.n (not2 n.di n.dl) (not2 n.gi n.gl), hr, hi, h.sp.keepN o.n (not2 n.ip.symm n.lp.symm), ⟨us, o.n.keep _ _ h1 (not2 n.im.symm n.lm.symm) (fun _ z => by cases z), h2.keepN o.n⟩, o.tabs, h.gl, h.gm, h.lm, h.ip⟩
/-- the plain source has -/
theorem Wl.pln (h : Wl K d g r i l p m Si Sp tr ti H) (o : Stp K [p] H H') (hp : SrcAt K H' p Sp') : Wl K d g r i l p m Si Sp' tr ti H' := by
  obtain ⟨us, h1, h2⟩ := h.items
  have n := h.nes
  exact ⟨h.draw.keepN o.n (not1 n.dp) (not1 n.gp), h.rcd.keepN o.n (not1 n.rp) (not1 n.lp), h.si.keepN o.n (not1 n.ip), hp, ⟨us, o.n.keep _ _ h1 (not1 n.pm.symm) (fun _ z => by cases z), h2.keepN o.n⟩, o.tabs, h.gl, h.gm, h.lm, h.ip⟩
/-- the law's items have -/
theorem Wl.stM (h : Wl K d g r i l p m Si Sp tr ti H) (o : Only [m] H H') : Stp K [m] H H' := by
  obtain ⟨us, h1, h2⟩ := h.items
  exact Stp.of h.tabs o fun x hx => by rw [List.mem_singleton.mp hx]; exact bare_lst h1
theorem Wl.itm (h : Wl K d g r i l p m Si Sp tr ti H) (o : Only [m] H H') (hm : ∃ us, H' m = some (.lst us) ∧ Its H' ti' us) : Wl K d g r i l p m Si Sp tr ti' H' := by
  have n := h.nes
  have st := h.stM o
  exact ⟨h.draw.keepN st.n (not1 n.dm) (not1 n.gm), h.rcd.keepN st.n (not1 n.rm) (not1 n.lm), h.si.keepN st.n (not1 n.im), h.sp.keepN st.n (not1 n.pm), hm, st.tabs, h.gl, h.gm, h.lm, h.ip⟩
/-- the plain source, by what is only there -/
theorem Wl.stP (h : Wl K d g r i l p m Si Sp tr ti H) (o : Only [p] H H') : Stp K [p] H H' := Stp.of h.tabs o fun x hx => by rw [List.mem_singleton.mp hx]; exact src_bare h.sp
theorem Wl.stR (h : Wl K d g r i l p m Si Sp tr ti H) (o : Only [i, l] H H') : Stp K [i, l] H H' := Stp.of h.tabs o fun x hx => by
  rcases List.mem_cons.mp hx with z | z
  · rw [z]; exact src_bare h.si
  · rw [List.mem_singleton.mp z]; exact (rec_bare h.rcd).2
end
/-- both agree: the source and the plain one, the tape and the items; all came from S0 -/
structure Wd (K : PySem.W.Frag) (d g r i l p m : Addr) (S0 S : Src) (ts : List It) (H : Hp) : Prop where
  w : Wl K d g r i l p m S S ts ts H
  v0 : S0.Valid
  val : S.Valid
  goes : Goes ts S0 S
  cl : S.cls = S0.cls
section
variable {K : PySem.W.Frag} {d g r i l p m : Addr} {S0 S : Src} {ts : List It} {H H' : Hp} {L : List Addr}
theorem Wd.keep (h : Wd K d g r i l p m S0 S ts H) (o : Stp K L H H') (n : ∀ x, x ∈ [d, g, r, i, l, p, m] → x ∉ L) : Wd K d g r i l p m S0 S ts H' := ⟨h.w.keep o n, h.v0, h.val, h.goes, h.cl⟩
theorem Wd.ex (h : Wd K d g r i l p m S0 S ts H) (e : Ex H H') : Wd K d g r i l p m S0 S ts H' := ⟨h.w.ex e, h.v0, h.val, h.goes, h.cl⟩
theorem Wd.drawn (h : Wd K d g r i l p m S0 S ts H) (o : Only [d, g] H H') (hd : DrawAt H' d g) : Wd K d g r i l p m S0 S ts H' := ⟨h.w.drawn o hd, h.v0, h.val, h.goes, h.cl⟩
theorem Wd.okIts (h : Wd K d g r i l p m S0 S ts H) : ∀ t, t ∈ ts → t.Ok := fun t m => (h.goes.law t m).ok
end
/-! ### words in a row -/
def Src.after (S : Src) : Nat → Src
  | 0 => S
  | n + 1 => (S.after n).next.st (S.after n)
def wordAt (S : Src) (n : Nat) : Int := match (S.after n).next with
  | .ok a _ => a
  | _ => 0
def wds (S : Src) (n : Nat) : List Int := (List.range n).map (wordAt S)
theorem wds_succ (S : Src) (n : Nat) : wds S (n + 1) = wds S n ++ [wordAt S n] := by
  unfold wds
  rw [List.range_succ, List.map_append]
  rfl
theorem wds_len (S : Src) (n : Nat) : (wds S n).length = n := by
  unfold wds
  rw [List.length_map, List.length_range]
def Src.room : Src → Nat → Prop
  | .scr ws pl, n => pl + n ≤ ws.length
  | _, _ => True
theorem after_scr (ws : List Int) (pl : Nat) : ∀ n, pl + n ≤ ws.length → (Src.scr ws pl).after n = .scr ws (pl + n)
  | 0, _ => rfl
  | n + 1, h => by
    have e := after_scr ws pl n (by omega)
    show ((Src.scr ws pl).after n).next.st _ = _
    rw [e]
    unfold Src.next
    dsimp only
    rw [if_pos (by omega)]
    rfl
theorem after_lin (x : Int) : ∀ n, ∃ y, (Src.lin x).after n = .lin y
  | 0 => ⟨x, rfl⟩
  | n + 1 => by
    obtain ⟨y, e⟩ := after_lin x n
    exact ⟨linStep y, by show ((Src.lin x).after n).next.st _ = _; rw [e]; rfl⟩
theorem after_cnt (k q : Int) : ∀ n, ∃ y, (Src.cnt k q).after n = .cnt k y
  | 0 => ⟨q, rfl⟩
  | n + 1 => by
    obtain ⟨y, e⟩ := after_cnt k q n
    exact ⟨_, by show ((Src.cnt k q).after n).next.st _ = _; rw [e]; rfl⟩
theorem after_twi (row : List Nat) : ∀ n, ∃ y, (Src.twi row).after n = .twi y
  | 0 => ⟨row, rfl⟩
  | n + 1 => by
    obtain ⟨y, e⟩ := after_twi row n
    exact ⟨_, by show ((Src.twi row).after n).next.st _ = _; rw [e]; rfl⟩
theorem next_at {S : Src} {n k : Nat} (h : S.room n) (lt : k < n) : (S.after k).next = .ok (wordAt S k) (S.after (k + 1)) := by
  have key : ∀ {T : Src} {a : Int} {T' : Src}, S.after k = T → T.next = .ok a T' → (S.after k).next = .ok (wordAt S k) (S.after (k + 1)) := fun {T a T'} e q => by
    have q' : (S.after k).next = .ok a T' := by rw [e]; exact q
    have e1 : wordAt S k = a := by unfold wordAt; rw [q']
    have e2 : S.after (k + 1) = T' := by show (S.after k).next.st _ = _; rw [q']; rfl
    rw [e1, e2]; exact q'
  cases S with
  | lin x => obtain ⟨y, e⟩ := after_lin x k; exact key e rfl
  | cnt a q => obtain ⟨y, e⟩ := after_cnt a q k; exact key e rfl
  | twi row => obtain ⟨y, e⟩ := after_twi row k; exact key e rfl
  | scr ws pl =>
    have h' : pl + n ≤ ws.length := h
    refine key (a := ws.getD (pl + k) 0) (T' := .scr ws (pl + k + 1)) (after_scr ws pl k (by omega)) ?_
    unfold Src.next
    dsimp only
    rw [if_pos (by omega)]
theorem goes_wds {ts : List It} {S0 S : Src} (g : Goes ts S0 S) (hv : S.Valid) {n : Nat} (h : S.room n) : ∀ k, k ≤ n → Goes (ts ++ (wds S k).map It.word) S0 (S.after k) ∧ (S.after k).Valid ∧ (S.after k).cls = S.cls
  | 0, _ => ⟨by show Goes (ts ++ []) S0 S; rw [List.append_nil]; exact g, hv, rfl⟩
  | k + 1, le => by
    obtain ⟨g1, v1, c1⟩ := goes_wds g hv h k (by omega)
    have nx := next_at h (show k < n by omega)
    obtain ⟨v2, w2, c2⟩ := v1.next nx
    refine ⟨?_, v2, c2.trans c1⟩
    rw [wds_succ, List.map_append, ← List.append_assoc]
    exact g1.snoc nx w2 v2
end Kx
set_option Elab.async false
set_option linter.all false
set_option maxRecDepth 100000
set_option maxHeartbeats 2000000
namespace Kx
open PySem PySem.Spec PyProof.Rows L2 Evl
open He (ga ma)
section
variable {P : Program} {w : World} {K : PySem.W.Frag} {mg : Str → Option Value} {base : Heap}
def N_law_call_right : List Str := ["_law_draw", "_law_record", "_law_plain", "_law_items_so", "_law_way", "_law_steps_so", "_law_many", "_law_told_here", "_law_due", "_law_given", "_law_word", "_law_n"]
theorem sc_law_call_right : FnScope N_law_call_right ["_law_draw", "_law_record", "_law_plain", "_law_items_so"] (defScope s_law_call_right) := ⟨rfl, rfl, rfl, by decide +kernel, rfl, by decide +kernel, by decide +kernel⟩
theorem rd_steps {σ : L2.St} {H : Hp} {ta : TE} {d g : Addr} {Q : VK} (h1 : Ev ta σ H (.ref d)) (hd : DrawAt H d g) (k : RetD d g IsStep H Q) : tCall spSteps [] E0 (tCons ta tNil) σ H Q :=
  ea_cons h1 ea_nil H (Ex.refl _) _ fun H1 e1 => ⟨d, g, rfl, hd.ex e1, k.back e1⟩
section
variable {σ : L2.St} {H : Hp} {te tb : TE} {r i l : Addr} {ts : List It} {S : Src} {Q : VK} {E : XK} {st : Int}
theorem rd_rnext (h : Ev te σ H (.ref r)) (hr : RecAt K H r i l ts) (hs : SrcAt K H i S) (hv : S.Valid) (le : ts.length ≤ 1000) (k : RetR K r i l ts H S.next V.int It.word Q E) : tMeth (ga K "Recording") "next_word" (spRNext K) [] E te tNil σ H Q :=
  h H (Ex.refl _) _ fun H1 e1 => by
    have hr1 := hr.ex e1
    obtain ⟨dx, us, hp, hl, hi⟩ := id hr1
    exact ⟨r, dx, _, rfl, hp, rfl, r, i, l, ts, S, rfl, hr1, hs.ex e1, hv, le, k.back e1⟩
theorem rd_rjump (h : Ev te σ H (.ref r)) (hb : Ev tb σ H (.int st)) (hr : RecAt K H r i l ts) (hs : SrcAt K H i S) (hv : S.Valid) (le : ts.length ≤ 1000) (law : LawSteps st) (k : RetR K r i l ts H (S.jump st) (fun _ => V.non) (fun _ => It.move "jump" st) Q E) : tMeth (ga K "Recording") "jump" (spRJump K) [] E te (tCons tb tNil) σ H Q :=
  h H (Ex.refl _) _ fun H1 e1 => by
    have hr1 := hr.ex e1
    obtain ⟨dx, us, hp, hl, hi⟩ := id hr1
    exact ⟨r, dx, _, rfl, hp, rfl, hb H1 e1 _ fun H2 e2 => ⟨r, i, l, ts, S, st, rfl, hr1.ex e2, hs.ex (e1.trans e2), hv, le, law, k.back (e1.trans e2)⟩⟩
theorem rd_rback (h : Ev te σ H (.ref r)) (hb : Ev tb σ H (.int st)) (hr : RecAt K H r i l ts) (hs : SrcAt K H i S) (hv : S.Valid) (le : ts.length ≤ 1000) (law : LawSteps st) (k : RetR K r i l ts H (S.back st) (fun _ => V.non) (fun _ => It.move "back" st) Q E) : tMeth (ga K "Recording") "back" (spRBack K) [] E te (tCons tb tNil) σ H Q :=
  h H (Ex.refl _) _ fun H1 e1 => by
    have hr1 := hr.ex e1
    obtain ⟨dx, us, hp, hl, hi⟩ := id hr1
    exact ⟨r, dx, _, rfl, hp, rfl, hb H1 e1 _ fun H2 e2 => ⟨r, i, l, ts, S, st, rfl, hr1.ex e2, hs.ex (e1.trans e2), hv, le, law, k.back (e1.trans e2)⟩⟩
theorem rd_tape (h : Ev te σ H (.ref r)) (hr : RecAt K H r i l ts) (k : ∀ t us H', Ex H H' → H' t = some (.tup us) → Its H' ts us → Q (.ref t) H') : tProp (ga K "Recording") (spTape K) [] E0 te σ H Q :=
  h H (Ex.refl _) _ fun H1 e1 => by
    have hr1 := hr.ex e1
    obtain ⟨dx, us, hp, hl, hi⟩ := id hr1
    exact ⟨r, dx, _, rfl, hp, r, i, l, ts, rfl, hr1, fun t us H' e ht hi => k t us H' (e1.trans e) ht hi⟩
theorem ev_inner (h : Ev te σ H (.ref r)) (hr : RecAt K H r i l ts) : Ev (tProp (ga K "Recording") (spInner K) [] E0 te) σ H (.ref i) := fun H0 e0 Q q =>
  h H0 e0 _ fun H1 e1 => by
    have hr1 := hr.ex (e0.trans e1)
    obtain ⟨dx, us, hp, hl, hi⟩ := id hr1
    exact ⟨r, dx, _, rfl, hp, r, i, l, ts, rfl, hr1, fun H2 e2 => q H2 (e1.trans e2)⟩
/-- how many words are asked for -/
theorem ev_cnt (T : Tx K mg) {p : Addr} {many : Int} (hs : SrcAt K H p S) (hv : S.Valid) (m0 : 0 ≤ many) (m4 : many < 4) (h2 : σ[2]? = some (some (.ref p))) (h6 : σ[6]? = some (some (.int many))) :
    ∃ n : Nat, n ≤ 3 ∧ S.room n ∧ Ev (tIf (tTest (tOp rNe (tCon K (tVar 2) "KIND") (tC (.str "script")))) (tVar 6) (tCB (fun xs H Q => ∃ i j, xs = [.int i, .int j] ∧ Q (.int (if j < i then j else i)) H) (tCons (tVar 6) (tCons (tProp (ga K "Scripted") (spLeft K) [] E0 (tVar 2)) tNil)))) σ H (.int (n : Nat)) := by
  have kd : ∀ b, (!decide (V.str S.kind = V.str "script")) = b → EvT (tTest (tOp rNe (tCon K (tVar 2) "KIND") (tC (.str "script")))) σ H b := fun b e => et_is (et_test (ev_op (ev_kind T (ev_var h2) hs) ev_c (rv_ne rfl))) e
  have plain : S.room many.toNat → (!decide (V.str S.kind = V.str "script")) = true → ∃ n : Nat, n ≤ 3 ∧ S.room n ∧ Ev (tIf (tTest (tOp rNe (tCon K (tVar 2) "KIND") (tC (.str "script")))) (tVar 6) (tCB (fun xs H Q => ∃ i j, xs = [.int i, .int j] ∧ Q (.int (if j < i then j else i)) H) (tCons (tVar 6) (tCons (tProp (ga K "Scripted") (spLeft K) [] E0 (tVar 2)) tNil)))) σ H (.int (n : Nat)) := fun rm e =>
    ⟨many.toNat, by omega, rm, ev_if (kd true e) (fun _ => by rw [Int.toNat_of_nonneg m0]; exact ev_var h6) (fun z => by cases z)⟩
  cases S with
  | lin x => exact plain trivial (by decide : (!decide (V.str "linear" = V.str "script")) = true)
  | cnt k q => exact plain trivial (by decide : (!decide (V.str "counter" = V.str "script")) = true)
  | twi row => exact plain trivial (by decide : (!decide (V.str "twisted" = V.str "script")) = true)
  | scr ws pl =>
    obtain ⟨_, le⟩ := hv
    have lf : Ev (tProp (ga K "Scripted") (spLeft K) [] E0 (tVar 2)) σ H (.int ((ws.length : Int) - pl)) := fun H0 e0 Q q => (ev_var (v := .ref p) h2) H0 e0 _ fun H1 e1 => by
      have hs1 := hs.ex (e0.trans e1)
      obtain ⟨dx, a, hp, ha⟩ := id hs1
      exact ⟨p, dx, _, rfl, hp, p, ws, pl, rfl, hs1, fun H2 e2 => q H2 (e1.trans e2)⟩
    have mn := ev_min (ev_var h6) lf
    by_cases c : (ws.length : Int) - pl < many
    · refine ⟨ws.length - pl, by omega, show pl + (ws.length - pl) ≤ ws.length by omega, ev_if (kd false (by decide : (!decide (V.str "script" = V.str "script")) = false)) (fun z => by cases z) fun _ => ?_⟩
      rw [if_pos c] at mn
      exact ev_is mn (by rw [Int.natCast_sub le])
    · refine ⟨many.toNat, by omega, show pl + many.toNat ≤ ws.length by omega, ev_if (kd false (by decide : (!decide (V.str "script" = V.str "script")) = false)) (fun z => by cases z) fun _ => ?_⟩
      rw [if_neg c] at mn
      exact ev_is mn (by rw [Int.toNat_of_nonneg m0])
theorem q_ext {K : PySem.W.Frag} {ta : TE} {tz : TS} {D : Ends} {l b : Addr} {xs zs : List V} (hl : H l = some (.lst xs)) (hb : H b = some (.lst zs)) (ha : Ev ta σ H (.ref l)) (h : Ev te σ H (.ref b)) (hz : xs.length + zs.length ≤ 100000) (k : ∀ H1, Ex H H1 → tz D σ (upd H1 l (.lst (xs ++ zs)))) :
    tSeq (tDrop (tBM K "list" rExtend ta (tCons te tNil))) tz D σ H := ha H (Ex.refl H) _ fun H1 e1 =>
  ⟨Or.inl ⟨rfl, xs, sq_of (e1 l _ hl)⟩, h H1 e1 _ fun H2 e2 => ⟨l, b, xs, zs, rfl, rfl, (e1.trans e2) l _ hl, (e1.trans e2) b _ hb, sz_of hz, k H2 (e1.trans e2)⟩⟩
end
theorem its_last {H : Hp} {ts : List It} {w : Int} {us : List V} (h : Its H (ts ++ [.word w]) us) : ∃ us', us = us' ++ [.int w] := by
  induction ts generalizing us with
  | nil =>
    cases h with
    | cons a r =>
      cases r with
      | nil => obtain rfl := a; exact ⟨[], rfl⟩
  | cons t ts ih =>
    cases h with
    | cons a r =>
      obtain ⟨us', e⟩ := ih r
      exact ⟨_ :: us', by rw [e]; rfl⟩
theorem its_words {H : Hp} {ts : List It} {us : List V} (h : Its H ts us) : ∀ ws : List Int, Its H (ts ++ ws.map It.word) (us ++ iV ws)
  | [] => by
    show Its H (ts ++ []) (us ++ [])
    rw [List.append_nil, List.append_nil]; exact h
  | w :: ws => by
    have z := its_words (Its.add (t := .word w) (v := .int w) rfl h) ws
    rw [List.append_assoc, List.append_assoc] at z
    exact z
theorem app_wds (ts : List It) (S : Src) (k : Nat) : ts ++ (wds S k).map It.word ++ [.word (wordAt S k)] = ts ++ (wds S (k + 1)).map It.word := by
  rw [wds_succ, List.map_append, List.append_assoc]
  rfl
theorem iV_app (a b : List Int) : iV (a ++ b) = iV a ++ iV b := List.map_append ..
/-- told alike -/
theorem told_eq {α : Type} {x : Res α} {f : α → V} {fd : α → PyData} {v1 v2 : V} {σ : L2.St} {H : Hp} {D : Ends} {ta tb : TE} (h1 : Ev ta σ H v1) (h2 : Ev tb σ H v2) (t1 : ToldAt H v1 x f) (t2 : ToldAt H v2 x f) (hf : ∀ H a, Dp K H (f a) (fd a)) (hn : ∀ a, Dn 0 (fd a)) (k : ∀ H1, Ex H H1 → D.rt (.bl true) H1) : tRet (tOp (rEqD K) ta tb) D σ H :=
  s_ret (ev_eqD h1 h2 (fun H1 e => dp_told (t1.ex e) (hf H1)) (fun H1 e => dp_told (t2.ex e) (hf H1)) (dn_told hn) (by decide)) k
/-- what is told is no place of the world's lists -/
theorem told_off {α : Type} {x : Res α} {f : α → V} {v : V} {H H' : Hp} {m : Addr} {us : List V} (n : NewV H v x) (hm : H m = some (.lst us)) (t : ToldAt H' v x f) (hq : ∃ vs, v = .ref m ∧ H' m = some (.lst vs)) : False := by
  obtain ⟨vs, rfl, hv⟩ := hq
  cases x with
  | ok a S => exact n m _ hm (fun _ z => by cases z) rfl
  | exh e => obtain ⟨p, h1, h2⟩ := t; injection h1 with h1; subst h1; rw [hv] at h2; cases h2
  | bad e => obtain ⟨p, h1, h2⟩ := t; injection h1 with h1; subst h1; rw [hv] at h2; cases h2
/-! ### _law_call_right -/
def spCR (K : PySem.W.Frag) : Sp := fun vs H Q _ => ∃ d g r i l p m S0 S ts, vs = [.ref d, .ref r, .ref p, .ref m] ∧ Wd K d g r i l p m S0 S ts H ∧ ts.length ≤ 900 ∧
  ∀ S' ts' H', Stp K [d, g, r, i, l, p, m] H H' → Wd K d g r i l p m S0 S' ts' H' → ts'.length ≤ ts.length + 3 → Q (.bl true) H'
theorem add_len {α : Type} (x : Res α) (g : α → It) (ts : List It) : (x.add g ts).length ≤ ts.length + 1 := by
  cases x with
  | ok a S => show (ts ++ [g a]).length ≤ _; simp
  | exh m => exact Nat.le_succ _
  | bad g => exact Nat.le_succ _
/-- the items grow by what was told -/
theorem told_app {α : Type} {x : Res α} {f : α → V} {v1 v2 : V} {H H1 : Hp} {d g r i l p m : Addr} {Si Sp : Src} {tr ts : List It} {v : V} {us : List V} (W : Wl K d g r i l p m Si Sp tr ts H) (hm : H m = some (.lst us)) (hi : Its H ts us)
    (t1 : ToldAt H v1 x f) (t2 : ToldAt H v2 x f) (o1 : ∀ vs, v1 = .ref m → H m = some (.lst vs) → False) (o2 : ∀ vs, v2 = .ref m → H m = some (.lst vs) → False) (e : Ex H H1) {t : It} (hv : ItAt H1 v t) :
    Wl K d g r i l p m Si Sp tr (ts ++ [t]) (upd H1 m (.lst (us ++ [v]))) ∧ Stp K [m] H (upd H1 m (.lst (us ++ [v]))) ∧ ToldAt (upd H1 m (.lst (us ++ [v]))) v1 x f ∧ ToldAt (upd H1 m (.lst (us ++ [v]))) v2 x f := by
  have o : Only [m] H (upd H1 m (.lst (us ++ [v]))) := (Only.ex e).trans (Only.lst (e _ _ hm))
  have o' : Only [m] H1 (upd H1 m (.lst (us ++ [v]))) := Only.lst (e _ _ hm)
  refine ⟨W.itm o ⟨_, upd_same, Its.add (hv.keep o') (hi.keep o)⟩, W.stM o, t1.keep o.n fun q hq hl hm' => ?_, t2.keep o.n fun q hq hl hm' => ?_⟩
  · obtain ⟨vs, hl⟩ := hl
    rw [List.mem_singleton.mp hm'] at hq hl
    exact o1 vs hq hl
  · obtain ⟨vs, hl⟩ := hl
    rw [List.mem_singleton.mp hm'] at hq hl
    exact o2 vs hq hl
theorem q_asgLc {ta : TA} {j i : Nat} {te : TE} {vs : List Nat} {n : Nat} {σ : L2.St} {H : Hp} {tz : TS} {D : Ends} (h : EvA ta σ H [.int (n : Nat)]) (hn : n ≤ 40000) (Pv : Addr → Nat → Hp → Prop) (hw : ∀ x, wipe ((wipe σ vs).set j (some x)) vs = wipe σ vs) (h0 : ∀ Dl H1, Ex H H1 → H1 Dl = none → Pv Dl 0 (upd H1 Dl (.lst [])))
    (hs : ∀ Dl k H', k < n → Pv Dl k H' → te ((wipe σ vs).set j (some (.int (k : Nat)))) H' fun y H4 => ∃ acc, H4 Dl = some (.lst acc) ∧ acc.length < sizeLine ∧ Pv Dl (k + 1) (upd H4 Dl (.lst (acc ++ [y])))) (hd : ∀ Dl H', Pv Dl n H' → tz D (σ.set i (some (.ref Dl))) H') :
    tSeq (tAsg (tLc (iRng1 ta) (gName j) tYes te vs) (gName i)) tz D σ H := by
  refine h H (Ex.refl _) _ fun H1 e1 => ⟨(n : Int), rfl, by omega, by omega, fun Dl hD => ?_⟩
  refine lc_range (lo := 0) (n := ((n : Nat) : Int).toNat) (Pv Dl) (h0 Dl H1 e1 hD) (fun k H' hk p => ?_) (fun H' p => ?_)
  · refine ⟨hw _, ?_⟩
    have e0 : (V.int ((0 : Int) + (k : Nat))) = .int (k : Nat) := by rw [Int.zero_add]
    rw [e0]
    exact hs Dl k H' (by omega) p
  · rw [show ((n : Nat) : Int).toNat = n by omega] at p
    exact hd Dl H' p

set_option maxHeartbeats 8000000
theorem h_law_call_right (T : Tx K mg) (B : Bx K mg base) : Has P w K mg base CX0 "_law_call_right" 11 ["_law_draw", "_law_record", "_law_plain", "_law_items_so"] (spCR K) := by
  have h_law_next := h_law_next (P := P) (w := w) (base := base) T
  have h_law_steps := h_law_steps (P := P) (w := w) (base := base) T
  have h_Recording_next_word := h_Recording_next_word (P := P) (w := w) (base := base) T
  have h_Recording_jump := h_Recording_jump (P := P) (w := w) (base := base) T
  have h_Recording_back := h_Recording_back (P := P) (w := w) (base := base) T
  have h_Scripted_left := h_Scripted_left (P := P) (w := w) (base := base) T
  have h_Recording_tape := h_Recording_tape (P := P) (w := w) (base := base) T
  have h_Recording_words := h_Recording_words (P := P) (w := w) (base := base) T
  exact T.hasT 99 66 rfl rfl rfl sc_law_call_right (fun vs H Q E h => by obtain ⟨d, g, r, i, l, p, m, S0, S, ts, rfl, _⟩ := h; rfl) rfl (fun | _, _, _, _, _, _, [_, _, _, _], _ => rfl) fun A outer s H vs Q E hr h => by
    obtain ⟨d, g, r, i, l, p, m, S0, S, ts, rfl, W, le, h⟩ := h
    obtain ⟨fW, fdW, FW, hmW, hbW⟩ := h_Recording_words.ex
    refine ⟨_, (pss_cons (ps_asg (pe_tup (pa_cons (pe_h h_law_next (hr.mono (by decide)) pass0 (pa_cons (pv 0) (pa_cons pe_int pa_nil))) (pa_cons (pe_h h_law_steps (hr.mono (by decide)) pass0 (pa_cons (pv 0) pa_nil)) (pa_cons (pe_h h_law_next (hr.mono (by decide)) pass0 (pa_cons (pv 0) (pa_cons pe_int pa_nil))) pa_nil)))) (pg_tup rfl (pgs_cons (pg_name (i := 4) sc_law_call_right.nd rfl (Or.inl rfl)) (pgs_cons (pg_name (i := 5) sc_law_call_right.nd rfl (Or.inr rfl)) (pgs_cons (pg_name (i := 6) sc_law_call_right.nd rfl (Or.inl rfl)) pgs_nil))))) (pss_cons (ps_if (pt_cmpR op_lt (pv 4) pe_int (nomark _)) (pss_cons (ps_set (i := 7) sc_law_call_right.nd rfl (Or.inl rfl) (pe_told (k := 8) T (by rfl) B.r rfl (List.mem_cons_self ..) (tls_r B) (hr.mono (by decide)) (fun A outer s H E f c' hr2 => (by exact pe_hm0 h_Recording_next_word (T.cls 4 _ rfl) (hr2.mono (by decide)) (passes_call (takes_of rfl rfl rfl rfl) (fun _ _ _ _ h => h)) (pv 1))) (LamX.lamS_by (sc := defScope s_law_call_right) (by decide +kernel)))) (pss_cons (ps_set (i := 8) sc_law_call_right.nd rfl (Or.inl rfl) (pe_told (k := 8) T (by rfl) B.r rfl (List.mem_cons_self ..) (tls_r B) (hr.mono (by decide)) (t := fun E => tPoly K (spNext K) E (tVar 2) tNil) (fun A outer s H E f c' hr2 => (by exact pe_poly0 T (pm_next T (passes_call (takes_of rfl rfl rfl rfl) (fun _ _ _ _ h => h))) (hr2.mono (by decide)) (pv 2))) (LamX.lamS_by (sc := defScope s_law_call_right) (by decide +kernel)))) (pss_cons (ps_if (pt_val (pe_isB T 5 rfl boot_listT (pv 8))) (pss_one (ps_expr (pe_bm PySem.F.plainAttrs_list PySem.F.slot_list_append PySem.F.type_list_append mt_append (pv 3) (pa_cons (pe_ix ix_list (pv 8) pe_int (fun _ _ => rfl)) pa_nil)))) pss_nil) (pss_one (ps_ret (pe_cmpR (op_eqD hr.units) (pv 7) (pv 8) (nomark _))))))) pss_nil) (pss_cons (ps_if (pt_cmpR op_eq (pv 4) pe_int (nomark _)) (pss_cons (ps_set (i := 9) sc_law_call_right.nd rfl (Or.inl rfl) (pe_lst pa_nil)) (pss_cons (ps_setLc (i := 8) (own := [("_law_n", 11)]) (g := gName 11) (tt := tYes) rfl sc_law_call_right.nd rfl rfl (sw_true rfl rfl rfl (by decide +kernel)) (pi_range1 (by rfl) (T.fre 3 _ rfl) (pa_cons (pe_ifExp (pt_cmpR op_ne (pe_con (pv 2) rfl) pe_str (nomark _)) (pv 6) (pe_callB (call_min2 rfl) (by rfl) (T.fre 7 _ rfl) boot_minB (pa_cons (pv 6) (pa_cons (pe_hp h_Scripted_left (T.cls 0 _ rfl) (hr.mono (by decide)) pass0 (pv 2)) pa_nil)))) pa_nil)) (blkOk_by (own := [("_law_n", 11)]) (N := N_law_call_right) (sc := defScope s_law_call_right) (by decide +kernel)) (fun _ _ _ _ _ => pg_name (i := 11) sc_law_call_right.nd rfl (Or.inl rfl)) (fun _ _ _ _ _ => pts_nil) (fun _ _ _ _ _ => (show PE _ _ (tPoly K (spNext K) E0 (tVar 2) tNil) from (by exact pe_poly0 T (pm_next T passL) (hr.mono (by decide)) (pv 2))))) (pss_cons (ps_forW (ix := 10) (pv 1) (T.cls 4 _ rfl) hmW FW (hr.mono (by decide)) hbW (pa_cons (pe_callB call_len (by rfl) (T.fre 1 _ rfl) PySem.boot_len (pa_cons (pv 8) pa_nil)) pa_nil) (pss_cons (ps_expr (pe_bm PySem.F.plainAttrs_list PySem.F.slot_list_append PySem.F.type_list_append mt_append (pv 9) (pa_cons (pv 10) pa_nil))) (pss_one (ps_if (pt_cmpR op_ne (pe_ix ix_tup (pe_hp h_Recording_tape (T.cls 4 _ rfl) (hr.mono (by decide)) pass0 (pv 1)) (pe_un un_neg pe_int) (fun _ _ => rfl)) (pv 10) (nomark _)) (pss_one (ps_ret pe_bl)) pss_nil))) sc_law_call_right.nd rfl (Or.inl rfl) (Or.inl rfl) rfl) (pss_cons (ps_expr (pe_bm PySem.F.plainAttrs_list PySem.F.slot_list_extend PySem.F.type_list_extend mt_extend (pv 3) (pa_cons (pv 8) pa_nil))) (pss_one (ps_ret (pe_cmpR (op_eqD hr.units) (pv 9) (pv 8) (nomark _)))))))) pss_nil) (pss_cons (ps_if (pt_cmpR op_eq (pv 4) pe_int (nomark _)) (pss_cons (ps_set (i := 7) sc_law_call_right.nd rfl (Or.inl rfl) (pe_told (k := 8) T (by rfl) B.r rfl (List.mem_cons_self ..) (tls_r B) (hr.mono (by decide)) (fun A outer s H E f c' hr2 => (by exact pe_hm h_Recording_jump (T.cls 4 _ rfl) (hr2.mono (by decide)) (passes_call (takes_of rfl rfl rfl rfl) (fun _ _ _ _ h => h)) (pv 1) (pa_cons (pv 5) pa_nil))) (LamX.lamS_by (sc := defScope s_law_call_right) (by decide +kernel)))) (pss_one (ps_set (i := 8) sc_law_call_right.nd rfl (Or.inl rfl) (pe_told (k := 8) T (by rfl) B.r rfl (List.mem_cons_self ..) (tls_r B) (hr.mono (by decide)) (t := fun E => tPoly K (spJump K) E (tVar 2) (tCons (tVar 5) tNil)) (fun A outer s H E f c' hr2 => (by exact pe_poly1 T (pm_jump T (passes_call (takes_of rfl rfl rfl rfl) (fun _ _ _ _ h => h))) (hr2.mono (by decide)) (pv 2) (pa_cons (pv 5) pa_nil))) (LamX.lamS_by (sc := defScope s_law_call_right) (by decide +kernel)))))) (pss_cons (ps_set (i := 7) sc_law_call_right.nd rfl (Or.inl rfl) (pe_told (k := 8) T (by rfl) B.r rfl (List.mem_cons_self ..) (tls_r B) (hr.mono (by decide)) (fun A outer s H E f c' hr2 => (by exact pe_hm h_Recording_back (T.cls 4 _ rfl) (hr2.mono (by decide)) (passes_call (takes_of rfl rfl rfl rfl) (fun _ _ _ _ h => h)) (pv 1) (pa_cons (pv 5) pa_nil))) (LamX.lamS_by (sc := defScope s_law_call_right) (by decide +kernel)))) (pss_one (ps_set (i := 8) sc_law_call_right.nd rfl (Or.inl rfl) (pe_told (k := 8) T (by rfl) B.r rfl (List.mem_cons_self ..) (tls_r B) (hr.mono (by decide)) (t := fun E => tPoly K (spBack K) E (tVar 2) (tCons (tVar 5) tNil)) (fun A outer s H E f c' hr2 => (by exact pe_poly1 T (pm_back T (passes_call (takes_of rfl rfl rfl rfl) (fun _ _ _ _ h => h))) (hr2.mono (by decide)) (pv 2) (pa_cons (pv 5) pa_nil))) (LamX.lamS_by (sc := defScope s_law_call_right) (by decide +kernel))))))) (pss_cons (ps_if (pt_val (pe_isB T 5 rfl boot_listT (pv 8))) (pss_one (ps_expr (pe_bm PySem.F.plainAttrs_list PySem.F.slot_list_append PySem.F.type_list_append mt_append (pv 3) (pa_cons (pe_tup (pa_cons (pe_ifExp (pt_cmpR op_eq (pv 4) pe_int (nomark _)) pe_str pe_str) (pa_cons (pv 5) pa_nil))) pa_nil)))) pss_nil) (pss_one (ps_ret (pe_cmpR (op_eqD hr.units) (pv 7) (pv 8) (nomark _))))))))), ?_⟩
    have St0 : Stp K [d, g, r, i, l, p, m] H H := Stp.ofEx W.w.tabs (Ex.refl H)
    refine rd_draw (ev_var rfl) ev_c W.w.draw ⟨by decide, by decide⟩ fun v H1 c o1 hd1 => ?_
    obtain ⟨way, rfl, w0, w5⟩ := c
    have W1 := W.drawn o1 hd1
    have St1 := St0.trans ((W.w.stD o1).mono sub_dg)
    refine rd_steps (ev_var rfl) hd1 fun v H2 c o2 hd2 => ?_
    obtain ⟨st, rfl, law⟩ := c
    have W2 := W1.drawn o2 hd2
    have St2 := St1.trans ((W1.w.stD o2).mono sub_dg)
    refine rd_draw (ev_var rfl) ev_c hd2 ⟨by decide, by decide⟩ fun v H3 c o3 hd3 => ?_
    obtain ⟨many, rfl, m0, m4⟩ := c
    have W3' := W2.drawn o3 hd3
    have St3' := St2.trans ((W2.w.stD o3).mono sub_dg)
    refine ⟨sz_of (Nat.le_of_ble_eq_true rfl), fun tt htt => ⟨tt, _, rfl, SqT.of upd_same, rfl, _, _, rfl, _, _, rfl, _, _, rfl, rfl, ?_⟩⟩
    have ett : Ex H3 (upd H3 tt (.tup [.int way, .int st, .int many])) := Ex.new htt
    have W3 := W3'.ex ett
    have St3 := St3'.trans (W3'.w.stEx ett)
    generalize (upd H3 tt (.tup [.int way, .int st, .int many])) = H4 at W3 St3
    clear W3' St3' ett htt
    obtain ⟨us, hm, hits⟩ := id W3.w.items
    have ul := hits.len
    have leT : ts.length ≤ 1000 := by omega
    refine q_when (b := decide (way < 2)) (et_test (ev_op (ev_var rfl) ev_c rv_I0)) (fun _ H5 e5 => ?_) (fun _ H5 e5 => ?_)
    · -- next_word
      have W5 := W3.ex e5
      have St5 := St3.trans (W3.w.stEx e5)
      have hm5 := e5 _ _ hm
      have hits5 := hits.keep (L := []) (Only.ex e5)
      refine rd_toldR (x := S.next) (f := V.int) (g := It.word) W5.w.tabs W5.w.rcd W5.w.si (fun E H1 Q' oN k => rd_rnext (ev_var rfl) (rec_ex W5.w.rcd oN) (src_ex W5.w.si oN) W5.val leT k) fun v1 H6 s6 t6 n6 r6 i6 => ?_
      have W6 := W5.w.recd s6 r6 i6
      have St6 := St5.trans (s6.mono sub_il)
      refine rd_toldS (x := S.next) (f := V.int) W6.tabs W6.sp (fun E H1 Q' oN k => rd_next (ev_var rfl) (src_ex W6.sp oN) W5.val k) fun v2 H7 s7 t7 n7 p7 => ?_
      have W7 := W6.pln s7 p7
      have St7 := St6.trans (s7.mono sub_p)
      have hm6 : H6 m = some (.lst us) := s6.n.keep _ _ hm5 (not2 W5.w.nes.im.symm W5.w.nes.lm.symm) (fun _ z => by cases z)
      have hm7 : H7 m = some (.lst us) := s7.n.keep _ _ hm6 (not1 W5.w.nes.pm.symm) (fun _ z => by cases z)
      have hits7 := (hits5.keepN s6.n).keepN s7.n
      have t6' : ToldAt H7 v1 S.next V.int := t6.keep s7.n fun q hq hl hp => by
        obtain ⟨vs, hl⟩ := hl
        obtain ⟨dx, fs, hs⟩ := W6.sp.ins
        rw [List.mem_singleton.mp hp, hs] at hl
        cases hl
      obtain ⟨g8, v8, c8⟩ := goes_next W5.goes W5.val
      have o1 : ∀ vs, v1 = .ref m → H7 m = some (.lst vs) → False := fun vs z1 z2 => told_off n6 hm5 t6' ⟨vs, z1, z2⟩
      have o2 : ∀ vs, v2 = .ref m → H7 m = some (.lst vs) → False := fun vs z1 z2 => told_off n7 hm6 t7 ⟨vs, z1, z2⟩
      cases hx : S.next with
      | ok a S' =>
        rw [hx] at W7 t6' t7 g8 v8 c8
        obtain ⟨q, hq, hql⟩ := id t7
        refine q_when (b := true) (et_B (ev_isBll (ev_var (v := .ref q) (congrArg (fun z => some (some z)) hq)) hql)) (fun _ H8 e8 => ?_) (fun z => by cases z)
        refine s_app (e8 _ _ hm7) (ev_var rfl) (ev_ixL (xs := [V.int a]) (ev_var (v := .ref q) (congrArg (fun z => some (some z)) hq)) (e8 _ _ hql) ev_c rfl) (by omega) fun H9 e9 => ?_
        obtain ⟨W9, s9, t9, t9'⟩ := told_app (t := It.word a) (v := .int a) W7 hm7 hits7 t6' t7 o1 o2 (Ex.trans e8 e9) rfl
        exact told_eq (ev_var rfl) (ev_var rfl) t9 t9' (fun _ a => .int a) (fun _ => dn_int) fun H10 e10 => h S' (ts ++ [It.word a]) H10 ((St7.trans (s9.mono sub_m)).trans (W9.stEx e10)) ⟨(W9.ex e10 : Wl K d g r i l p m S' S' (ts ++ [It.word a]) (ts ++ [It.word a]) H10), W.v0, v8, g8, c8.trans W.cl⟩ (by simp)
      | exh e =>
        rw [hx] at W7 t6' t7 g8 v8 c8
        obtain ⟨q, hq, hql⟩ := id t7
        refine q_when (b := false) (et_B (ev_isBtl (ev_var (v := .ref q) (congrArg (fun z => some (some z)) hq)) hql)) (fun z => by cases z) (fun _ H8 e8 => ?_)
        exact told_eq (ev_var rfl) (ev_var rfl) (t6'.ex e8) (t7.ex e8) (fun _ a => .int a) (fun _ => dn_int) fun H10 e10 => h S ts H10 (St7.trans (W7.stEx (Ex.trans e8 e10))) ⟨W7.ex (Ex.trans e8 e10), W.v0, v8, g8, c8.trans W.cl⟩ (by omega)
      | bad e =>
        rw [hx] at W7 t6' t7 g8 v8 c8
        obtain ⟨q, hq, hql⟩ := id t7
        refine q_when (b := false) (et_B (ev_isBtl (ev_var (v := .ref q) (congrArg (fun z => some (some z)) hq)) hql)) (fun z => by cases z) (fun _ H8 e8 => ?_)
        exact told_eq (ev_var rfl) (ev_var rfl) (t6'.ex e8) (t7.ex e8) (fun _ a => .int a) (fun _ => dn_int) fun H10 e10 => h S ts H10 (St7.trans (W7.stEx (Ex.trans e8 e10))) ⟨W7.ex (Ex.trans e8 e10), W.v0, v8, g8, c8.trans W.cl⟩ (by omega)
    refine q_when (b := decide (V.int way = V.int 2)) (et_test (ev_op (ev_var rfl) ev_c (rv_eq rfl))) (fun _ H6 e6 => ?_) (fun _ H6 e6 => ?_)
    · -- words
      have e56 := Ex.trans e5 e6
      have W6 := W3.ex e56
      have St6 := St3.trans (W3.w.stEx (L := [d, g, r, i, l, p, m]) e56)
      refine q_asgL (el_lst ea_nil (by decide)) fun gv H7 hgv e7 hgv7 => ?_
      have gvn := W6.w.fresh hgv
      have W7 := W6.ex e7
      have St7 := St6.trans (W6.w.stEx (L := [d, g, r, i, l, p, m]) e7)
      obtain ⟨n, n3, rm, cnt⟩ := ev_cnt T (σ := (((((L2.start N_law_call_right [.ref d, .ref r, .ref p, .ref m]).set 4 (some (.int way))).set 5 (some (.int st))).set 6 (some (.int many))).set 9 (some (.ref gv)))) W7.w.sp W7.val m0 m4 rfl rfl
      have gw := goes_wds W7.goes W7.val rm
      refine q_asgLc (ea_cons cnt ea_nil) (by omega) (fun D k H' => D ∉ [d, g, r, i, l, p, m] ∧ D ≠ gv ∧ (∀ o, H D = some o → (∀ ps, o ≠ .tbl ps) → False) ∧ Wl K d g r i l p m S (S.after k) ts ts H' ∧ Stp K [d, g, r, i, l, p, m] H H' ∧ H' D = some (.lst (iV (wds S k))) ∧ H' gv = some (.lst [])) (fun x => rfl) (fun D H8 e8 hD => ?_) (fun D k H' hk W' => ?_) (fun D H' W' => ?_)
      · have W8 := W7.ex e8
        have St8 := St7.trans (W7.w.stEx (L := [d, g, r, i, l, p, m]) e8)
        have Dof := W8.w.fresh hD
        have gv8 := e8 _ _ hgv7
        have eD : Ex H8 (upd H8 D (.lst [])) := Ex.new hD
        exact ⟨Dof, (fun z => by rw [z, gv8] at hD; cases hD), St8.gone hD Dof, W8.w.ex eD, St8.trans (W8.w.stEx eD), upd_same, eD _ _ gv8⟩
      · obtain ⟨Dof, Dg, Dgone, Wk, Sk, Dk, gk⟩ := W'
        have hk' : k < n := hk
        obtain ⟨g1, v1, c1⟩ := gw k (by omega)
        refine rd_next (ev_var rfl) Wk.sp v1 ?_
        rw [next_at rm hk']
        intro H9 o9 hs9
        have s9 := Wk.stP o9
        have W9 := Wk.pln s9 hs9
        have pD : D ∉ [p] := fun z => Dof (sub_p _ z)
        have pg : gv ∉ [p] := fun z => gvn (sub_p _ z)
        have D9 := o9.keep _ _ Dk pD
        refine ⟨iV (wds S k), D9, by rw [iV_len, wds_len]; exact sz_lt (by omega), ?_⟩
        have oD : Only [D] H9 (upd H9 D (.lst (iV (wds S k) ++ [.int (wordAt S k)]))) := Only.lst D9
        have sD : Stp K [D] H9 (upd H9 D (.lst (iV (wds S k) ++ [.int (wordAt S k)]))) := Stp.of W9.tabs oD fun x hx => by rw [List.mem_singleton.mp hx]; exact bare_lst D9
        refine ⟨Dof, Dg, Dgone, W9.keep sD fun x hx z => Dof (List.mem_singleton.mp z ▸ hx), ?_, ?_, oD.keep _ _ (o9.keep _ _ gk pg) fun z => Dg (List.mem_singleton.mp z).symm⟩
        · exact (Sk.trans (s9.mono sub_p)).newTop sD Dgone
        · rw [upd_same, wds_succ, iV_app]
          rfl
      · obtain ⟨Dof, Dg, Dgone, Wk, Sk, Dk, gk⟩ := W'
        obtain ⟨dx, us1, hp1, hl1, hi1⟩ := id Wk.rcd
        refine ⟨.ref r, rfl, r, dx, _, rfl, hp1, rfl, ?_⟩
        refine ea_cons (ev_is (v := .int ((iV (wds S n)).length : Nat)) (w := .int (n : Nat)) (ev_lenL (ev_var rfl) Dk) (by rw [iV_len, wds_len])) ea_nil H' (Ex.refl _) _ fun H9 e9 => ?_
        refine ⟨n, ⟨_, rfl, by omega⟩, fun k H1 y H2 => y = .int (wordAt S k) ∧ Only [i, l] H1 H2 ∧ RecAt K H2 r i l (ts ++ (wds S (k + 1)).map It.word) ∧ SrcAt K H2 i (S.after (k + 1)),
          fun k σ' H1 => Wl K d g r i l p m (S.after k) (S.after n) (ts ++ (wds S k).map It.word) ts H1 ∧ Stp K [d, g, r, i, l, p, m] H H1 ∧ H1 D = some (.lst (iV (wds S n))) ∧ H1 gv = some (.lst (iV (wds S k))) ∧ ∃ y, σ' = [some (.ref d), some (.ref r), some (.ref p), some (.ref m), some (.int way), some (.int st), some (.int many), none, some (.ref D), some (.ref gv), y, none], ?_, fun k σ' H1 hk W' => ?_, fun σ' H1 H2 W' e2 => ?_⟩
        · refine ⟨?_, Sk.trans (Wk.stEx e9), e9 _ _ Dk, e9 _ _ gk, none, rfl⟩
          have z := Wk.ex e9
          show Wl K d g r i l p m S (S.after n) (ts ++ []) ts H9
          rw [List.append_nil]
          exact z
        · obtain ⟨Wt, St, Dt, gt, y0, rfl⟩ := W'
          obtain ⟨g1, v1, c1⟩ := gw k (by omega)
          refine ⟨rd_rnext (ev_var rfl) Wt.rcd Wt.si v1 (by rw [List.length_append, List.length_map, wds_len]; omega) ?_, fun y H2 hy => ?_⟩
          · rw [next_at rm hk]
            intro H3 o3 r3 s3
            rw [app_wds] at r3
            exact ⟨rfl, o3, r3, s3⟩
          · obtain ⟨rfl, o2, r2, i2⟩ := hy
            have s2 := Wt.stR o2
            have W2 := Wt.recd s2 r2 i2
            have gt2 := o2.keep _ _ gt fun z => gvn (sub_il _ z)
            have Dt2 := o2.keep _ _ Dt fun z => Dof (sub_il _ z)
            refine q_app gt2 (ev_var rfl) (ev_var rfl) (by rw [iV_len, wds_len]; omega) fun H3 e3 => ?_
            have gt3 := e3 _ _ gt2
            have W3 := W2.ex e3
            have oG : Only [gv] H3 (upd H3 gv (.lst (iV (wds S k) ++ [.int (wordAt S k)]))) := Only.lst gt3
            have sG : Stp K [gv] H3 (upd H3 gv (.lst (iV (wds S k) ++ [.int (wordAt S k)]))) := Stp.of W3.tabs oG fun x hx => by rw [List.mem_singleton.mp hx]; exact bare_lst gt3
            have W4 := W3.keep sG fun x hx z => gvn (List.mem_singleton.mp z ▸ hx)
            have S4 := ((St.trans (s2.mono sub_il)).trans (W2.stEx e3)).newTop sG (St6.gone hgv gvn)
            have D4 := oG.keep _ _ (e3 _ _ Dt2) fun z => Dg (List.mem_singleton.mp z)
            have g4 : (upd H3 gv (.lst (iV (wds S k) ++ [.int (wordAt S k)]))) gv = some (.lst (iV (wds S (k + 1)))) := by rw [upd_same, wds_succ, iV_app]; rfl
            generalize (upd H3 gv (.lst (iV (wds S k) ++ [.int (wordAt S k)]))) = H5 at W4 S4 D4 g4
            refine rd_tape (ev_var rfl) W4.rcd fun tp us2 H6 e6 htp hi6 => ?_
            rw [← app_wds] at hi6
            obtain ⟨us3, rfl⟩ := its_last hi6
            refine ⟨1, rfl, tp, us3 ++ [.int (wordAt S k)], -1, .int (wordAt S k), rfl, rfl, SqT.of htp, atI_last _ _, .int (wordAt S k), rfl, rfl, _, rfl, ?_⟩
            rw [decide_eq_true rfl]
            exact ⟨W4.ex e6, S4.trans (W4.stEx e6), e6 _ _ D4, e6 _ _ g4, _, rfl⟩
        · obtain ⟨Wt, St, Dt, gt, y0, rfl⟩ := W'
          obtain ⟨us4, hm4, hi4⟩ := id Wt.items
          have ul4 := hi4.len
          refine q_ext (e2 _ _ hm4) (e2 _ _ Dt) (ev_var rfl) (ev_var rfl) (by rw [iV_len, wds_len]; omega) fun H3 e3 => ?_
          have e23 := Ex.trans e2 e3
          have o3 : Only [m] H1 (upd H3 m (.lst (us4 ++ iV (wds S n)))) := (Only.ex e23).trans (Only.lst (e23 _ _ hm4))
          have W5 := Wt.itm (ti' := ts ++ (wds S n).map It.word) o3 ⟨_, upd_same, its_words (hi4.keep o3) _⟩
          have S5 := St.trans ((Wt.stM o3).mono sub_m)
          have D5 := o3.keep _ _ Dt fun z => Dof (sub_m _ z)
          have g5 := o3.keep _ _ gt fun z => gvn (sub_m _ z)
          generalize (upd H3 m (.lst (us4 ++ iV (wds S n)))) = H4 at W5 S5 D5 g5
          obtain ⟨g6, v6, c6⟩ := gw n (Nat.le_refl _)
          have sh : Dn 1 (.list ((wds S n).map PyData.int)) := dn_lst (n := 0) fun x hx => by
            obtain ⟨i, _, rfl⟩ := List.mem_map.mp hx
            exact dn_int
          exact s_ret (ev_eqD (ev_var rfl) (ev_var rfl) (fun H6 e6 => .lst (SqL.of (e6 _ _ g5)) dp_iV) (fun H6 e6 => .lst (SqL.of (e6 _ _ D5)) dp_iV) sh (by decide)) fun H6 e6 => h (S.after n) (ts ++ (wds S n).map It.word) H6 (S5.trans (W5.stEx e6)) ⟨W5.ex e6, W.v0, v6, g6, c6.trans W.cl⟩ (by rw [List.length_append, List.length_map, wds_len]; omega)
    · -- jump, back
      have e56 := Ex.trans e5 e6
      have W6 := W3.ex e56
      have St6 := St3.trans (W3.w.stEx (L := [d, g, r, i, l, p, m]) e56)
      have hm6 := e56 _ _ hm
      have hits6 := hits.keep (L := []) (Only.ex e56)
      refine q_if (b := decide (V.int way = V.int 3)) (et_test (ev_op (ev_var rfl) ev_c (rv_eq rfl))) (fun c3 H7 e7 => ?_) (fun c3 H7 e7 => ?_)
      · have W7 := W6.ex e7
        have St7 := St6.trans (W6.w.stEx (L := [d, g, r, i, l, p, m]) e7)
        have hm7 := e7 _ _ hm6
        have hits7 := hits6.keep (L := []) (Only.ex e7)
        refine rd_toldR (x := S.jump st) (f := fun _ => V.non) (g := fun _ => It.move "jump" st) W7.w.tabs W7.w.rcd W7.w.si (fun E H1 Q' oN k => rd_rjump (ev_var rfl) (ev_var rfl) (rec_ex W7.w.rcd oN) (src_ex W7.w.si oN) W7.val leT law k) fun v1 H8 s8 t8 n8 r8 i8 => ?_
        have W8 := W7.w.recd s8 r8 i8
        have St8 := St7.trans (s8.mono sub_il)
        refine rd_toldS (x := S.jump st) (f := fun _ => V.non) W8.tabs W8.sp (fun E H1 Q' oN k => rd_jump (ev_var rfl) (ev_var rfl) (src_ex W8.sp oN) W7.val law k) fun v2 H9 s9 t9 n9 p9 => ?_
        have W9 := W8.pln s9 p9
        have St9 := St8.trans (s9.mono sub_p)
        have hm8 : H8 m = some (.lst us) := s8.n.keep _ _ hm7 (not2 W7.w.nes.im.symm W7.w.nes.lm.symm) (fun _ z => by cases z)
        have hm9 : H9 m = some (.lst us) := s9.n.keep _ _ hm8 (not1 W7.w.nes.pm.symm) (fun _ z => by cases z)
        have hits9 := (hits7.keepN s8.n).keepN s9.n
        have t8' : ToldAt H9 v1 (S.jump st) (fun _ => V.non) := t8.keep s9.n fun q hq hl hp => by
          obtain ⟨vs, hl⟩ := hl
          obtain ⟨dx, fs, hs⟩ := W8.sp.ins
          rw [List.mem_singleton.mp hp, hs] at hl
          cases hl
        obtain ⟨g8, v8, c8⟩ := goes_jump W7.goes W7.val law
        have o1 : ∀ vs, v1 = .ref m → H9 m = some (.lst vs) → False := fun vs z1 z2 => told_off n8 hm7 t8' ⟨vs, z1, z2⟩
        have o2 : ∀ vs, v2 = .ref m → H9 m = some (.lst vs) → False := fun vs z1 z2 => told_off n9 hm8 t9 ⟨vs, z1, z2⟩
        cases hx : S.jump st with
        | ok a S' =>
          rw [hx] at W9 t8' t9 g8 v8 c8
          obtain ⟨q, hq, hql⟩ := id t9
          refine q_when (b := true) (et_B (ev_isBll (ev_var (v := .ref q) (congrArg (fun z => some (some z)) hq)) hql)) (fun _ H10 e10 => ?_) (fun z => by cases z)
          refine s_appU (e10 _ _ hm9) (ev_var rfl) (eu_tup (ea_cons (ev_if (v := .str "jump") (b := true) (et_is (et_test (ev_op (ev_var rfl) ev_c (rv_eq rfl))) c3) (fun z => by first | exact ev_c | cases z) (fun z => by first | exact ev_c | cases z)) (ea_cons (ev_var rfl) ea_nil)) (Nat.le_of_ble_eq_true rfl)) (by omega) fun tq H11 _ e11 htq => ?_
          obtain ⟨W11, s11, t11, t11'⟩ := told_app (t := It.move "jump" st) (v := .ref tq) W9 hm9 hits9 t8' t9 o1 o2 (Ex.trans e10 e11) ⟨tq, rfl, htq⟩
          exact told_eq (fd := fun _ => PyData.none) (ev_var rfl) (ev_var rfl) t11 t11' (fun _ _ => .non) (fun _ => dn_noneD) fun H12 e12 => h S' (ts ++ [It.move "jump" st]) H12 ((St9.trans (s11.mono sub_m)).trans (W11.stEx e12)) ⟨(W11.ex e12 : Wl K d g r i l p m S' S' (ts ++ [It.move "jump" st]) (ts ++ [It.move "jump" st]) H12), W.v0, v8, g8, c8.trans W.cl⟩ (by simp)
        | exh e =>
          rw [hx] at W9 t8' t9 g8 v8 c8
          obtain ⟨q, hq, hql⟩ := id t9
          refine q_when (b := false) (et_B (ev_isBtl (ev_var (v := .ref q) (congrArg (fun z => some (some z)) hq)) hql)) (fun z => by cases z) (fun _ H10 e10 => ?_)
          exact told_eq (fd := fun _ => PyData.none) (ev_var rfl) (ev_var rfl) (t8'.ex e10) (t9.ex e10) (fun _ _ => .non) (fun _ => dn_noneD) fun H12 e12 => h S ts H12 (St9.trans (W9.stEx (Ex.trans e10 e12))) ⟨W9.ex (Ex.trans e10 e12), W.v0, v8, g8, c8.trans W.cl⟩ (by omega)
        | bad e =>
          rw [hx] at W9 t8' t9 g8 v8 c8
          obtain ⟨q, hq, hql⟩ := id t9
          refine q_when (b := false) (et_B (ev_isBtl (ev_var (v := .ref q) (congrArg (fun z => some (some z)) hq)) hql)) (fun z => by cases z) (fun _ H10 e10 => ?_)
          exact told_eq (fd := fun _ => PyData.none) (ev_var rfl) (ev_var rfl) (t8'.ex e10) (t9.ex e10) (fun _ _ => .non) (fun _ => dn_noneD) fun H12 e12 => h S ts H12 (St9.trans (W9.stEx (Ex.trans e10 e12))) ⟨W9.ex (Ex.trans e10 e12), W.v0, v8, g8, c8.trans W.cl⟩ (by omega)
      · have W7 := W6.ex e7
        have St7 := St6.trans (W6.w.stEx (L := [d, g, r, i, l, p, m]) e7)
        have hm7 := e7 _ _ hm6
        have hits7 := hits6.keep (L := []) (Only.ex e7)
        refine rd_toldR (x := S.back st) (f := fun _ => V.non) (g := fun _ => It.move "back" st) W7.w.tabs W7.w.rcd W7.w.si (fun E H1 Q' oN k => rd_rback (ev_var rfl) (ev_var rfl) (rec_ex W7.w.rcd oN) (src_ex W7.w.si oN) W7.val leT law k) fun v1 H8 s8 t8 n8 r8 i8 => ?_
        have W8 := W7.w.recd s8 r8 i8
        have St8 := St7.trans (s8.mono sub_il)
        refine rd_toldS (x := S.back st) (f := fun _ => V.non) W8.tabs W8.sp (fun E H1 Q' oN k => rd_back (ev_var rfl) (ev_var rfl) (src_ex W8.sp oN) W7.val law k) fun v2 H9 s9 t9 n9 p9 => ?_
        have W9 := W8.pln s9 p9
        have St9 := St8.trans (s9.mono sub_p)
        have hm8 : H8 m = some (.lst us) := s8.n.keep _ _ hm7 (not2 W7.w.nes.im.symm W7.w.nes.lm.symm) (fun _ z => by cases z)
        have hm9 : H9 m = some (.lst us) := s9.n.keep _ _ hm8 (not1 W7.w.nes.pm.symm) (fun _ z => by cases z)
        have hits9 := (hits7.keepN s8.n).keepN s9.n
        have t8' : ToldAt H9 v1 (S.back st) (fun _ => V.non) := t8.keep s9.n fun q hq hl hp => by
          obtain ⟨vs, hl⟩ := hl
          obtain ⟨dx, fs, hs⟩ := W8.sp.ins
          rw [List.mem_singleton.mp hp, hs] at hl
          cases hl
        obtain ⟨g8, v8, c8⟩ := goes_back W7.goes W7.val law
        have o1 : ∀ vs, v1 = .ref m → H9 m = some (.lst vs) → False := fun vs z1 z2 => told_off n8 hm7 t8' ⟨vs, z1, z2⟩
        have o2 : ∀ vs, v2 = .ref m → H9 m = some (.lst vs) → False := fun vs z1 z2 => told_off n9 hm8 t9 ⟨vs, z1, z2⟩
        cases hx : S.back st with
        | ok a S' =>
          rw [hx] at W9 t8' t9 g8 v8 c8
          obtain ⟨q, hq, hql⟩ := id t9
          refine q_when (b := true) (et_B (ev_isBll (ev_var (v := .ref q) (congrArg (fun z => some (some z)) hq)) hql)) (fun _ H10 e10 => ?_) (fun z => by cases z)
          refine s_appU (e10 _ _ hm9) (ev_var rfl) (eu_tup (ea_cons (ev_if (v := .str "back") (b := false) (et_is (et_test (ev_op (ev_var rfl) ev_c (rv_eq rfl))) c3) (fun z => by first | exact ev_c | cases z) (fun z => by first | exact ev_c | cases z)) (ea_cons (ev_var rfl) ea_nil)) (Nat.le_of_ble_eq_true rfl)) (by omega) fun tq H11 _ e11 htq => ?_
          obtain ⟨W11, s11, t11, t11'⟩ := told_app (t := It.move "back" st) (v := .ref tq) W9 hm9 hits9 t8' t9 o1 o2 (Ex.trans e10 e11) ⟨tq, rfl, htq⟩
          exact told_eq (fd := fun _ => PyData.none) (ev_var rfl) (ev_var rfl) t11 t11' (fun _ _ => .non) (fun _ => dn_noneD) fun H12 e12 => h S' (ts ++ [It.move "back" st]) H12 ((St9.trans (s11.mono sub_m)).trans (W11.stEx e12)) ⟨(W11.ex e12 : Wl K d g r i l p m S' S' (ts ++ [It.move "back" st]) (ts ++ [It.move "back" st]) H12), W.v0, v8, g8, c8.trans W.cl⟩ (by simp)
        | exh e =>
          rw [hx] at W9 t8' t9 g8 v8 c8
          obtain ⟨q, hq, hql⟩ := id t9
          refine q_when (b := false) (et_B (ev_isBtl (ev_var (v := .ref q) (congrArg (fun z => some (some z)) hq)) hql)) (fun z => by cases z) (fun _ H10 e10 => ?_)
          exact told_eq (fd := fun _ => PyData.none) (ev_var rfl) (ev_var rfl) (t8'.ex e10) (t9.ex e10) (fun _ _ => .non) (fun _ => dn_noneD) fun H12 e12 => h S ts H12 (St9.trans (W9.stEx (Ex.trans e10 e12))) ⟨W9.ex (Ex.trans e10 e12), W.v0, v8, g8, c8.trans W.cl⟩ (by omega)
        | bad e =>
          rw [hx] at W9 t8' t9 g8 v8 c8
          obtain ⟨q, hq, hql⟩ := id t9
          refine q_when (b := false) (et_B (ev_isBtl (ev_var (v := .ref q) (congrArg (fun z => some (some z)) hq)) hql)) (fun z => by cases z) (fun _ H10 e10 => ?_)
          exact told_eq (fd := fun _ => PyData.none) (ev_var rfl) (ev_var rfl) (t8'.ex e10) (t9.ex e10) (fun _ _ => .non) (fun _ => dn_noneD) fun H12 e12 => h S ts H12 (St9.trans (W9.stEx (Ex.trans e10 e12))) ⟨W9.ex (Ex.trans e10 e12), W.v0, v8, g8, c8.trans W.cl⟩ (by omega)

end
end Kx
set_option Elab.async false
set_option linter.all false
set_option maxRecDepth 100000
set_option maxHeartbeats 2000000
namespace Kx
open PySem PySem.Spec PyProof.Rows L2 Evl
open He (ga ma)
section
variable {P : Program} {w : World} {K : PySem.W.Frag} {mg : Str → Option Value} {base : Heap}
def N_law_odd_right : List Str := ["_law_draw", "_law_record", "_law_plain", "_law_items_so", "_law_kept", "_law_far", "_law_turn"]
theorem sc_law_odd_right : FnScope N_law_odd_right ["_law_draw", "_law_record", "_law_plain", "_law_items_so"] (defScope s_law_odd_right) := ⟨rfl, rfl, rfl, by decide +kernel, rfl, by decide +kernel, by decide +kernel⟩
/-! ### data of states -/
def Src.data : Src → PyData
  | .lin x => .tuple [.int x]
  | .cnt k q => .tuple [.int k, .int (q / 2), .int (q % 2)]
  | .twi row => .tuple (row.map fun (n : Nat) => PyData.int (n : Int))
  | .scr ws pl => .tuple [.tuple (ws.map PyData.int), .int pl]
theorem dp_st {H : Hp} {v : V} {S : Src} (h : StAt H v S) : Dp K H v S.data := by
  cases S with
  | lin x => obtain ⟨a, rfl, h⟩ := h; exact .tup (SqT.of h) (.cons (.int _) .nil)
  | cnt k q => obtain ⟨a, rfl, h⟩ := h; exact .tup (SqT.of h) (.cons (.int _) (.cons (.int _) (.cons (.int _) .nil)))
  | twi row => obtain ⟨a, rfl, h⟩ := h; exact .tup (SqT.of h) dp_nV
  | scr ws pl => obtain ⟨a, b, rfl, h, h2⟩ := h; exact .tup (SqT.of h) (.cons (.tup (SqT.of h2) dp_iV) (.cons (.int _) .nil))
theorem dn_two {n : Nat} {a b : PyData} (h : Dn n a) (k : Dn n b) : Dn (n + 1) (.tuple [a, b]) := dn_tup fun d m => by
  rcases List.mem_cons.mp m with rfl | m
  · exact h
  · rcases List.mem_singleton.mp m with rfl
    exact k
theorem dn_st (S : Src) : Dn 2 S.data := by
  cases S with
  | lin x =>
    refine (dn_tup (n := 0) fun d m => ?_).up (by decide)
    rcases List.mem_singleton.mp m with rfl
    exact dn_int
  | cnt k q =>
    refine (dn_tup (n := 0) fun d m => ?_).up (by decide)
    rcases List.mem_cons.mp m with rfl | m
    · exact dn_int
    · rcases List.mem_cons.mp m with rfl | m
      · exact dn_int
      · rcases List.mem_singleton.mp m with rfl
        exact dn_int
  | twi row => exact dn_nV.up (by decide)
  | scr ws pl => exact dn_two dn_iV (dn_int.up (by decide))
/-! ### what gives data -/
def EvD (K : PySem.W.Frag) (te : TE) (σ : L2.St) (H : Hp) (d : PyData) : Prop := ∀ H1, Ex H H1 → ∀ Q : VK, (∀ v H2, Ex H1 H2 → (∀ H3, Ex H2 H3 → Dp K H3 v d) → Q v H2) → te σ H1 Q
section
variable {σ : L2.St} {H : Hp} {te ta tb : TE} {r i l p : Addr} {ts : List It} {S : Src} {x : V} {d e : PyData} {n : Nat}
theorem evd_of (h : Ev te σ H x) (k : ∀ H1, Ex H H1 → Dp K H1 x d) : EvD K te σ H d := fun H1 e1 Q q => h H1 e1 _ fun H2 e2 => q x H2 e2 fun H3 e3 => k H3 (Ex.trans (Ex.trans e1 e2) e3)
theorem evd_ne (h1 : EvD K ta σ H d) (h2 : EvD K tb σ H e) (sh : Dn n d) (sh2 : Dn n e) (hn : n ≤ 64) : Ev (tOp (rNeD K) ta tb) σ H (.bl (!PyData.eqv d e)) :=
  fun H1 e1 Q q => h1 H1 e1 _ fun v1 H2 e2 k2 => h2 H2 (Ex.trans e1 e2) _ fun v2 H3 e3 k3 => ⟨d, e, k2 H3 e3, k3 H3 (Ex.refl _), sh.shaped hn, sh2.shaped hn, q H3 (Ex.trans e2 e3)⟩
theorem evd_same (h1 : EvD K ta σ H d) (h2 : EvD K tb σ H d) (sh : Dn n d) (hn : n ≤ 64) : Ev (tOp (rNeD K) ta tb) σ H (.bl false) :=
  ev_is (evd_ne h1 h2 sh sh hn) (by rw [SeqAt.eqv_refl d sh.1]; rfl)
theorem evd_st (h : EvSt te σ H S) : EvD K te σ H S.data := fun H1 e1 Q q => h H1 e1 _ fun v H2 e2 st => q v H2 e2 fun H3 e3 => dp_st (st.ex e3)
theorem evd_two (h1 : EvD K ta σ H d) (h2 : EvD K tb σ H e) : EvD K (tTup (tCons ta (tCons tb tNil))) σ H (.tuple [d, e]) :=
  fun H1 e1 Q q => h1 H1 e1 _ fun v1 H2 e2 k2 => h2 H2 (Ex.trans e1 e2) _ fun v2 H3 e3 k3 => ⟨sz_of (Nat.le_of_ble_eq_true rfl), fun a ha => q _ _ (Ex.trans (Ex.trans e2 e3) (Ex.new ha)) fun H4 e4 => by
    have e34 : Ex H3 H4 := Ex.trans (Ex.new ha) e4
    exact .tup (SqT.of (e4 _ _ upd_same)) (.cons (k2 _ (Ex.trans e3 e34)) (.cons (k3 _ e34) .nil))⟩
theorem evd_upd {xs : List V} {ds : List PyData} (h : EvU te σ H xs) (k : ∀ H1, Ex H H1 → DpAll K H1 xs ds) : EvD K te σ H (.tuple ds) := fun H1 e1 Q q => h H1 e1 _ fun a H2 _ e2 ha => q _ H2 e2 fun H3 e3 => .tup (SqT.of (e3 _ _ ha)) (k H3 (Ex.trans (Ex.trans e1 e2) e3))
theorem evd_upw {xs : List V} {ds : List PyData} (h : EvW te σ H xs) (k : ∀ H1, Ex H H1 → DpAll K H1 xs ds) : EvD K te σ H (.tuple ds) := fun H1 e1 Q q => h H1 e1 _ fun a H2 e2 ha => q _ H2 e2 fun H3 e3 => .tup (SqT.of (e3 _ _ ha)) (k H3 (Ex.trans (Ex.trans e1 e2) e3))
/-- tuple(items) -/
theorem evd_items {m : Addr} {us : List V} (h : Ev te σ H (.ref m)) (hm : H m = some (.lst us)) (hi : Its H ts us) : EvD K (tCB (fun xs H Q => ∃ p ys, xs = [.ref p] ∧ ((SqL K H p ys ∧ ∀ l, H l = none → Q (.ref l) (upd H l (.tup ys))) ∨ (SqT K H p ys ∧ Q (.ref p) H))) (tCons te tNil)) σ H (.tuple (ts.map It.data)) :=
  evd_upd (eu_tuple h hm) fun H1 e1 => dp_items (hi.keep (L := []) (Only.ex e1))
/-- record.tape -/
theorem evd_tape (h : Ev te σ H (.ref r)) (hr : RecAt K H r i l ts) : EvD K (tProp (ga K "Recording") (spTape K) [] E0 te) σ H (.tuple (ts.map It.data)) := fun H1 e1 Q q =>
  rd_tape (H := H1) (fun H2 e2 => h H2 (Ex.trans e1 e2)) (hr.ex e1) fun t us H2 e2 ht hi => q _ H2 e2 fun H3 e3 => .tup (SqT.of (e3 _ _ ht)) (dp_items (hi.keep (L := []) (Only.ex e3)))
/-- record.state -/
def rdata (S : Src) (ts : List It) : PyData := .tuple [S.data, .tuple (ts.map It.data)]
theorem dp_rst {H : Hp} {v : V} (h : RStAt H v S ts) : Dp K H v (rdata S ts) := by
  obtain ⟨a, st, t, us, rfl, ha, hst, ht, hi⟩ := h
  exact .tup (SqT.of ha) (.cons (dp_st hst) (.cons (.tup (SqT.of ht) (dp_items hi)) .nil))
theorem dn_rst (S : Src) (h : ∀ t, t ∈ ts → t.Ok) : Dn 3 (rdata S ts) := dn_two (dn_st S) (dn_itemsT h)
theorem rd_rstate {Q : VK} (h : Ev te σ H (.ref r)) (hr : RecAt K H r i l ts) (hs : SrcAt K H i S) (hv : S.Valid) (k : ∀ v H', Ex H H' → RStAt H' v S ts → Q v H') : tProp (ga K "Recording") (spRState K) [] E0 te σ H Q :=
  h H (Ex.refl _) _ fun H1 e1 => by
    have hr1 := hr.ex e1
    obtain ⟨dx, us, hp, hl, hi⟩ := id hr1
    exact ⟨r, dx, _, rfl, hp, r, i, l, ts, S, rfl, hr1, hs.ex e1, hv, fun v H' e st => k v H' (Ex.trans e1 e) st⟩
theorem evd_rstate (h : Ev te σ H (.ref r)) (hr : RecAt K H r i l ts) (hs : SrcAt K H i S) (hv : S.Valid) : EvD K (tProp (ga K "Recording") (spRState K) [] E0 te) σ H (rdata S ts) := fun H1 e1 Q q =>
  rd_rstate (H := H1) (fun H2 e2 => h H2 (Ex.trans e1 e2)) (hr.ex e1) (hs.ex e1) hv fun v H2 e2 st => q v H2 e2 fun H3 e3 => dp_rst (st.keep (L := []) (Only.ex e3))
theorem rd_rcopy {Q : VK} (h : Ev te σ H (.ref r)) (hr : RecAt K H r i l ts) (hs : SrcAt K H i S) (hv : S.Valid) (k : ∀ r' i' l' H', H r' = none → H i' = none → H l' = none → Ex H H' → RecAt K H' r' i' l' ts → SrcAt K H' i' S → Q (.ref r') H') : tMeth (ga K "Recording") "copy" (spRCopy K) [] E0 te tNil σ H Q :=
  h H (Ex.refl _) _ fun H1 e1 => by
    have hr1 := hr.ex e1
    obtain ⟨dx, us, hp, hl, hi⟩ := id hr1
    exact ⟨r, dx, _, rfl, hp, rfl, r, i, l, ts, S, rfl, hr1, hs.ex e1, hv, fun r' i' l' H' n1 n2 n3 e h1 h2 => k r' i' l' H' (fresh_back e1 n1) (fresh_back e1 n2) (fresh_back e1 n3) (Ex.trans e1 e) h1 h2⟩
theorem rd_rset {Q : VK} {v : V} {S0 : Src} {ts0 : List It} (h : Ev te σ H (.ref r)) (hb : Ev tb σ H v) (hr : RecAt K H r i l ts0) (hs : SrcAt K H i S0) (hst : RStAt H v S ts) (hv : S.Valid) (hc : S.cls = S0.cls) (ok : OkIts ts) (k : ∀ l' H', H l' = none → Only [r, i] H H' → RecAt K H' r i l' ts → SrcAt K H' i S → Q .non H') :
    tMeth (ga K "Recording") "set_state" (spRSet K) [] E0 te (tCons tb tNil) σ H Q :=
  h H (Ex.refl _) _ fun H1 e1 => by
    have hr1 := hr.ex e1
    obtain ⟨dx, us, hp, hl, hi⟩ := id hr1
    exact ⟨r, dx, _, rfl, hp, rfl, hb H1 e1 _ fun H2 e2 => ⟨r, i, l, ts0, S0, v, S, ts, rfl, hr1.ex e2, hs.ex (Ex.trans e1 e2), hst.keep (L := []) (Only.ex (Ex.trans e1 e2)), hv, hc, ok, fun l' H' n o h1 h2 => k l' H' (fresh_back (Ex.trans e1 e2) n) ((Only.ex (Ex.trans e1 e2)).trans o) h1 h2⟩⟩
/-- record.same_state(other) -/
theorem ev_rsame {o : Addr} {b : Bool} (h : Ev te σ H (.ref r)) (hb : Ev tb σ H (.ref o)) (hr : RecAt K H r i l ts) (ok : OkIts ts)
    (ways : ∀ H1, Ex H H1 → (∃ S, SrcAt K H1 o S ∧ b = false) ∨ (∃ j m us, RecAt K H1 o j m us ∧ OkIts us ∧ ts.length ≠ us.length ∧ b = false) ∨ (∃ j m S, RecAt K H1 o j m ts ∧ SrcAt K H1 i S ∧ SrcAt K H1 j S ∧ S.Valid ∧ b = true)) :
    Ev (tMeth (ga K "Recording") "same_state" (spRSame K) [] E0 te (tCons tb tNil)) σ H (.bl b) := fun H0 e0 Q q =>
  h H0 e0 _ fun H1 e1 => by
    have hr1 := hr.ex (Ex.trans e0 e1)
    obtain ⟨dx, us, hp, hl, hi⟩ := id hr1
    exact ⟨r, dx, _, rfl, hp, rfl, hb H1 (Ex.trans e0 e1) _ fun H2 e2 => ⟨r, o, i, l, ts, b, rfl, hr1.ex e2, ok, ways H2 (Ex.trans (Ex.trans e0 e1) e2), fun H3 e3 => q H3 (Ex.trans (Ex.trans e1 e2) e3)⟩⟩
theorem ev_rkind (T : Tx K mg) (h : Ev te σ H (.ref r)) (hr : RecAt K H r i l ts) : Ev (tCon K te "KIND") σ H (.str "recording") := by
  obtain ⟨dx, us, hp, hl, hi⟩ := hr
  exact ev_con h hp (T.cls 4 _ rfl) (T.con 50 rfl) rfl
theorem ev_ckind (T : Tx K mg) : Ev (ClX.tCVal K (tC (.ref (ga K "Recording"))) "KIND") σ H (.str "recording") := by
  obtain ⟨r1, r2⟩ := He.ba (T.fac 55 _ rfl)
  have v := T.fac 58 _ rfl
  unfold fVal at v
  split at v
  · rename_i u e
    exact fun H1 e1 Q q => ⟨ga K "Recording", .type "type", .str "recording", u, rfl, ⟨r1, He.eqO_ok r2⟩, ⟨e, He.relB_ok v⟩, q H1 (Ex.refl _)⟩
  · cases v
end
/-! ### _law_odd_right -/
def spOR (K : PySem.W.Frag) : Sp := fun vs H Q _ => ∃ d g r i l p m S0 S ts, vs = [.ref d, .ref r, .ref p, .ref m] ∧ Wd K d g r i l p m S0 S ts H ∧ ts.length ≤ 900 ∧
  ∀ H', Stp K [d, g, r, i, l, p, m] H H' → Wd K d g r i l p m S0 S ts H' → Q (.bl true) H'
/-- the copy -/
structure Far (K : PySem.W.Frag) (r i l : Addr) (S : Src) (n : Nat) (S' : Src) (ts' : List It) (H : Hp) : Prop where
  rcd : RecAt K H r i l ts'
  si : SrcAt K H i S'
  val : S'.Valid
  cl : S'.cls = S.cls
  len : ts'.length ≤ n
  ok : ∀ t, t ∈ ts' → t.Ok
theorem Far.ex {r i l : Addr} {S S' : Src} {n : Nat} {ts' : List It} {H H' : Hp} (h : Far K r i l S n S' ts' H) (e : Ex H H') : Far K r i l S n S' ts' H' := ⟨h.rcd.ex e, h.si.ex e, h.val, h.cl, h.len, h.ok⟩
theorem add_ok {α : Type} {x : Res α} {g : α → It} {ts : List It} (h : ∀ t, t ∈ ts → t.Ok) (k : ∀ a S', x = .ok a S' → (g a).Ok) : ∀ t, t ∈ x.add g ts → t.Ok := by
  cases x with
  | ok a S => exact fun t m => (List.mem_append.mp m).elim (h t) fun z => by rw [List.mem_singleton.mp z]; exact k a S rfl
  | exh m => exact h
  | bad g => exact h

set_option maxHeartbeats 8000000
theorem h_law_odd_right (T : Tx K mg) (B : Bx K mg base) : Has P w K mg base CX0 "_law_odd_right" 11 ["_law_draw", "_law_record", "_law_plain", "_law_items_so"] (spOR K) := by
  have h_law_next := h_law_next (P := P) (w := w) (base := base) T
  have h_Recording_next_word := h_Recording_next_word (P := P) (w := w) (base := base) T
  have h_Recording_jump := h_Recording_jump (P := P) (w := w) (base := base) T
  have h_Recording_state := h_Recording_state (P := P) (w := w) (base := base) T
  have h_Recording_inner := h_Recording_inner (P := P) (w := w) (base := base) T
  have h_Recording_copy := h_Recording_copy (P := P) (w := w) (base := base) T
  have h_Recording_same_state := h_Recording_same_state (P := P) (w := w) (base := base) T
  have h_Recording_set_state := h_Recording_set_state (P := P) (w := w) (base := base) T
  exact T.hasT 100 67 rfl rfl rfl sc_law_odd_right (fun vs H Q E h => by obtain ⟨d, g, r, i, l, p, m, S0, S, ts, rfl, _⟩ := h; rfl) rfl (fun | _, _, _, _, _, _, [_, _, _, _], _ => rfl) fun A outer s H vs Q E hr h => by
    obtain ⟨d, g, r, i, l, p, m, S0, S, ts, rfl, W, le, h⟩ := h
    refine ⟨_, (pss_cons (ps_asg (pe_tup (pa_cons (pe_hp h_Recording_state (T.cls 4 _ rfl) (hr.mono (by decide)) pass0 (pv 1)) (pa_cons (pe_hm0 h_Recording_copy (T.cls 4 _ rfl) (hr.mono (by decide)) pass0 (pv 1)) pa_nil))) (pg_tup rfl (pgs_cons (pg_name (i := 4) sc_law_odd_right.nd rfl (Or.inl rfl)) (pgs_cons (pg_name (i := 5) sc_law_odd_right.nd rfl (Or.inr rfl)) pgs_nil)))) (pss_cons (ps_if (PW.pt (pw_or (pt_cmpR op_ne (pe_con (pv 1) rfl) pe_str (nomark _)) (pw_or1 (pt_cmpR op_ne (ClX.pe_cval (pe_glo T 30 rfl)) pe_str (nomark _))))) (pss_one (ps_ret pe_bl)) pss_nil) (pss_cons (ps_if (PW.pt (pw_or (pt_cmpR (op_neD hr.units) (pv 4) (pe_tup (pa_cons (pe_polyP T (pp_state T) (hr.mono (by decide)) (pv 2)) (pa_cons (pe_callTy call_tuple_of (by rfl) (T.fre 4 _ rfl) boot_tupleT (pa_cons (pv 3) pa_nil)) pa_nil))) (nomark _)) (pw_or (pt_not (pt_val (pe_hm h_Recording_same_state (T.cls 4 _ rfl) (hr.mono (by decide)) pass0 (pv 5) (pa_cons (pv 1) pa_nil)))) (pw_or1 (pt_val (pe_hm h_Recording_same_state (T.cls 4 _ rfl) (hr.mono (by decide)) pass0 (pv 1) (pa_cons (pv 2) pa_nil))))))) (pss_one (ps_ret pe_bl)) pss_nil) (pss_cons (ps_for PassesOwn.never rfl (pi_range1 (by rfl) (T.fre 3 _ rfl) (pa_cons (pe_op op_add pe_int (pe_h h_law_next (hr.mono (by decide)) pass0 (pa_cons (pv 0) (pa_cons pe_int pa_nil)))) pa_nil)) (pg_name (i := 6) sc_law_odd_right.nd rfl (Or.inl rfl)) (pss_cons (ps_expr (pe_told (k := 8) T (by rfl) B.o rfl (List.mem_cons_of_mem _ (List.mem_cons_self ..)) (tls_o B) (hr.mono (by decide)) (fun A outer s H E f c' hr2 => (by exact pe_hm0 h_Recording_next_word (T.cls 4 _ rfl) (hr2.mono (by decide)) (passes_call (takes_of rfl rfl rfl rfl) (fun _ _ _ _ h => h)) (pv 5))) (LamX.lamS_by (sc := defScope s_law_odd_right) (by decide +kernel)))) (pss_one (ps_expr (pe_told (k := 8) T (by rfl) B.o rfl (List.mem_cons_of_mem _ (List.mem_cons_self ..)) (tls_o B) (hr.mono (by decide)) (fun A outer s H E f c' hr2 => (by exact pe_hm h_Recording_jump (T.cls 4 _ rfl) (hr2.mono (by decide)) (passes_call (takes_of rfl rfl rfl rfl) (fun _ _ _ _ h => h)) (pv 5) (pa_cons pe_int pa_nil))) (LamX.lamS_by (sc := defScope s_law_odd_right) (by decide +kernel))))))) (pss_cons (ps_if (PW.pt (pw_or (pt_cmpR (op_neD hr.units) (pe_hp h_Recording_state (T.cls 4 _ rfl) (hr.mono (by decide)) pass0 (pv 1)) (pv 4) (nomark _)) (pw_or1 (pt_cmpR (op_neD hr.units) (pe_polyP T (pp_state T) (hr.mono (by decide)) (pe_hp h_Recording_inner (T.cls 4 _ rfl) (hr.mono (by decide)) pass0 (pv 1))) (pe_polyP T (pp_state T) (hr.mono (by decide)) (pv 2)) (nomark _))))) (pss_one (ps_ret pe_bl)) pss_nil) (pss_cons (ps_if (PW.pt (pw_or (pt_cmpR op_notN (pe_hm h_Recording_set_state (T.cls 4 _ rfl) (hr.mono (by decide)) pass0 (pv 5) (pa_cons (pv 4) pa_nil)) pe_non (nomark _)) (pw_or1 (pt_cmpR (op_neD hr.units) (pe_hp h_Recording_state (T.cls 4 _ rfl) (hr.mono (by decide)) pass0 (pv 5)) (pv 4) (nomark _))))) (pss_one (ps_ret pe_bl)) pss_nil) (pss_cons (ps_if (PW.pt (pw_or (pt_not (pt_val (pe_hm h_Recording_same_state (T.cls 4 _ rfl) (hr.mono (by decide)) pass0 (pv 5) (pa_cons (pv 1) pa_nil)))) (pw_or1 (pt_not (pt_val (pe_poly1 T (pm_same (E := E0) T) (hr.mono (by decide)) (pe_hp h_Recording_inner (T.cls 4 _ rfl) (hr.mono (by decide)) pass0 (pv 5)) (pa_cons (pv 2) pa_nil))))))) (pss_one (ps_ret pe_bl)) pss_nil) (pss_cons (ps_expr (pe_hm h_Recording_jump (T.cls 4 _ rfl) (hr.mono (by decide)) passL (pv 5) (pa_cons pe_int pa_nil))) (pss_one (ps_ret (pe_and (pe_not (pe_hm h_Recording_same_state (T.cls 4 _ rfl) (hr.mono (by decide)) pass0 (pv 5) (pa_cons (pv 1) pa_nil))) (pe_and (pe_not (pe_hm h_Recording_same_state (T.cls 4 _ rfl) (hr.mono (by decide)) pass0 (pv 1) (pa_cons (pv 5) pa_nil))) (pe_one (pe_poly1 T (pm_same (E := E0) T) (hr.mono (by decide)) (pe_hp h_Recording_inner (T.cls 4 _ rfl) (hr.mono (by decide)) pass0 (pv 5)) (pa_cons (pv 2) pa_nil))))))))))))))), ?_⟩
    have St0 : Stp K [d, g, r, i, l, p, m] H H := Stp.ofEx W.w.tabs (Ex.refl H)
    have ok : OkIts ts := ⟨by omega, W.okIts⟩
    refine rd_rstate (ev_var rfl) W.w.rcd W.w.si W.val fun kv H1 e1 hk1 => ?_
    have W1 := W.ex e1
    refine rd_rcopy (ev_var rfl) W1.w.rcd W1.w.si W1.val fun r' i' l' H2 nr ni nl e2 rec2 src2 => ?_
    have St1 := St0.trans (W.w.stEx (L := [d, g, r, i, l, p, m]) e1)
    have rof := W1.w.fresh nr
    have iof := W1.w.fresh ni
    have lof := W1.w.fresh nl
    have igone := St1.gone ni iof
    have lgone := St1.gone nl lof
    have rgone := St1.gone nr rof
    have W2 := W1.ex e2
    have St2 := St1.trans (W1.w.stEx (L := [d, g, r, i, l, p, m]) e2)
    have F2 : Far K r' i' l' S ts.length S ts H2 := ⟨rec2, src2, W.val, rfl, Nat.le_refl _, W.okIts⟩
    refine ⟨sz_of (Nat.le_of_ble_eq_true rfl), fun tt htt => ⟨tt, _, rfl, SqT.of upd_same, rfl, _, _, rfl, _, _, rfl, rfl, ?_⟩⟩
    have ett : Ex H2 (upd H2 tt (.tup [kv, .ref r'])) := Ex.new htt
    have W3 := W2.ex ett
    have St3 := St2.trans (W2.w.stEx (L := [d, g, r, i, l, p, m]) ett)
    have F3 := F2.ex ett
    have hk3 := (hk1.keep (L := []) (Only.ex e2)).keep (L := []) (Only.ex ett)
    generalize (upd H2 tt (.tup [kv, .ref r'])) = H3 at W3 St3 F3 hk3
    clear W2 St2 F2 ett htt hk1 rec2 src2 e2 e1 nr ni nl W1 St1
    -- KIND
    refine q_when (b := false) (et_is (et_or0 (et_test (ev_op (ev_rkind T (ev_var rfl) W3.w.rcd) ev_c (rv_ne rfl))) (et_test (ev_op (ev_ckind T) ev_c (rv_ne rfl)))) (by decide)) (fun z => by cases z) fun _ H4 e4 => ?_
    have W4 := W3.ex e4
    have St4 := St3.trans (W3.w.stEx (L := [d, g, r, i, l, p, m]) e4)
    have F4 := F3.ex e4
    have hk4 := hk3.keep (L := []) (Only.ex e4)
    obtain ⟨us, hm, hits⟩ := id W4.w.items
    refine q_when (b := false) (et_is (et_or0 (et_test (evd_same (evd_of (ev_var rfl) fun H5 e5 => dp_rst (hk4.keep (L := []) (Only.ex e5))) (evd_two (evd_st (ev_state (ev_var rfl) W4.w.sp W4.val)) (evd_items (ev_var rfl) hm hits)) (dn_rst S W.okIts) (by decide)))
      (et_or0 (et_not (et_B (ev_rsame (b := true) (ev_var rfl) (ev_var rfl) F4.rcd ok fun H5 e5 => .inr (.inr ⟨i, l, S, W4.w.rcd.ex e5, F4.si.ex e5, W4.w.si.ex e5, W.val, rfl⟩)))) (et_B (ev_rsame (b := false) (ev_var rfl) (ev_var rfl) W4.w.rcd ok fun H5 e5 => .inl ⟨S, W4.w.sp.ex e5, rfl⟩)))) rfl) (fun z => by cases z) fun _ H5 e5 => ?_
    have W5 := W4.ex e5
    have St5 := St4.trans (W4.w.stEx (L := [d, g, r, i, l, p, m]) e5)
    have F5 := F4.ex e5
    have hk5 := hk4.keep (L := []) (Only.ex e5)
    -- the copy goes on
    refine rd_draw (ev_var rfl) ev_c W5.w.draw ⟨by decide, by decide⟩ fun v H6 c o6 hd6 => ?_
    obtain ⟨j, rfl, j0, j3⟩ := c
    have W6 := W5.drawn o6 hd6
    have St6 := St5.trans ((W5.w.stD o6).mono sub_dg)
    have hk6 := hk5.keep o6
    have F6 : Far K r' i' l' S ts.length S ts H6 := ⟨F5.rcd.keep o6 (fun z => rof (sub_dg _ z)) (fun z => lof (sub_dg _ z)), F5.si.keep o6 (fun z => iof (sub_dg _ z)), F5.val, F5.cl, F5.len, F5.ok⟩
    have nil : ∀ x, x ∈ [d, g, r, i, l, p, m] → x ∉ [i', l'] := fun x hx z => by
      rcases List.mem_cons.mp z with z | z
      · exact iof (z ▸ hx)
      · exact lof (List.mem_singleton.mp z ▸ hx)
    have gil : ∀ x, x ∈ [i', l'] → ∀ o, H x = some o → (∀ ps, o ≠ .tbl ps) → False := fun x hx => by
      rcases List.mem_cons.mp hx with rfl | hx
      · exact igone
      · rw [List.mem_singleton.mp hx]; exact lgone
    refine ⟨1, j, rfl, rfl, 1 + j, rfl, by omega, by omega, ?_⟩
    refine for_range (lo := 0) (n := (1 + j).toNat) (fun k σ' H' => Wd K d g r i l p m S0 S ts H' ∧ Stp K [d, g, r, i, l, p, m] H H' ∧ RStAt H' kv S ts ∧ (∃ S' ts', Far K r' i' l' S (ts.length + 2 * k) S' ts' H') ∧ ∃ y, σ' = [some (.ref d), some (.ref r), some (.ref p), some (.ref m), some kv, some (.ref r'), y]) ⟨W6, St6, hk6, ⟨S, ts, F6⟩, none, rfl⟩ (fun k σ' H7 hk I => ?_) (fun σ' H7 I => ?_)
    · obtain ⟨W7, St7, hk7, ⟨S7, ts7, F7⟩, y, rfl⟩ := I
      have l7 := F7.len
      refine rd_toldR (x := S7.next) (f := V.int) (g := It.word) W7.w.tabs F7.rcd F7.si (fun E H1 Q' oN k => rd_rnext (ev_var rfl) (rec_ex F7.rcd oN) (src_ex F7.si oN) F7.val (by omega) k) fun v1 H8 s8 t8 n8 r8 i8 => ?_
      have W8 := W7.keep s8 nil
      have St8 := St7.newL s8 gil
      have hk8 := hk7.keepN s8.n
      obtain ⟨v8, c8, ok8⟩ : (S7.next.st S7).Valid ∧ (S7.next.st S7).cls = S7.cls ∧ ∀ t, t ∈ S7.next.add It.word ts7 → t.Ok := by
        cases hx : S7.next with
        | ok a S' =>
          obtain ⟨v, w, c⟩ := F7.val.next hx
          exact ⟨v, c, fun t m => (List.mem_append.mp m).elim (F7.ok t) fun z => by rw [List.mem_singleton.mp z]; exact w⟩
        | exh e => exact ⟨F7.val, rfl, F7.ok⟩
        | bad e => exact ⟨F7.val, rfl, F7.ok⟩
      have l8 := add_len S7.next It.word ts7
      generalize hS8 : S7.next.st S7 = S8 at i8 v8 c8
      generalize hts8 : S7.next.add It.word ts7 = ts8 at r8 ok8 l8
      refine rd_toldR (x := S8.jump 1) (f := fun _ => V.non) (g := fun _ => It.move "jump" 1) W8.w.tabs r8 i8 (fun E H1 Q' oN k => rd_rjump (ev_var rfl) ev_c (rec_ex r8 oN) (src_ex i8 oN) v8 (by omega) (.inr (.inl rfl)) k) fun v2 H9 s9 t9 n9 r9 i9 => ?_
      have W9 := W8.keep s9 nil
      have St9 := St8.newL s9 gil
      have hk9 := hk8.keepN s9.n
      obtain ⟨v9, c9, ok9⟩ : ((S8.jump 1).st S8).Valid ∧ ((S8.jump 1).st S8).cls = S8.cls ∧ ∀ t, t ∈ (S8.jump 1).add (fun _ => It.move "jump" 1) ts8 → t.Ok := by
        cases hx : S8.jump 1 with
        | ok a S' =>
          obtain ⟨v, c⟩ := v8.jump (.inr (.inl rfl)) hx
          exact ⟨v, c, fun t m => (List.mem_append.mp m).elim (ok8 t) fun z => by rw [List.mem_singleton.mp z]; exact ⟨.inl rfl, by decide, by decide⟩⟩
        | exh e => exact ⟨v8, rfl, ok8⟩
        | bad e => exact ⟨v8, rfl, ok8⟩
      have l9 := add_len (S8.jump 1) (fun _ => It.move "jump" 1) ts8
      exact ⟨W9, St9, hk9, ⟨_, _, r9, i9, v9, c9.trans (c8.trans F7.cl), by omega, ok9⟩, _, rfl⟩
    · obtain ⟨W7, St7, hk7, ⟨S7, ts7, F7⟩, y, rfl⟩ := I
      have l7 := F7.len
      -- the recording stays
      refine q_when (b := false) (et_is (et_or0 (et_test (evd_same (evd_rstate (ev_var rfl) W7.w.rcd W7.w.si W.val) (evd_of (ev_var rfl) fun H5 e5 => dp_rst (hk7.keep (L := []) (Only.ex e5))) (dn_rst S W.okIts) (by decide)))
        (et_test (evd_same (evd_st (ev_state (ev_inner (ev_var rfl) W7.w.rcd) W7.w.si W.val)) (evd_st (ev_state (ev_var rfl) W7.w.sp W.val)) (dn_st S) (by decide)))) rfl) (fun z => by cases z) fun _ H8 e8 => ?_
      have W8 := W7.ex e8
      have St8 := St7.trans (W7.w.stEx (L := [d, g, r, i, l, p, m]) e8)
      have F8 := F7.ex e8
      have hk8 := hk7.keep (L := []) (Only.ex e8)
      -- set_state
      refine rd_rset (ev_var rfl) (ev_var rfl) F8.rcd F8.si hk8 W.val F8.cl.symm ok fun l2 H9 nl2 o9 rec9 src9 => ?_
      have nri : ∀ x, x ∈ [d, g, r, i, l, p, m] → x ∉ [r', i'] := fun x hx z => by
        rcases List.mem_cons.mp z with z | z
        · exact rof (z ▸ hx)
        · exact iof (List.mem_singleton.mp z ▸ hx)
      have gri : ∀ x, x ∈ [r', i'] → ∀ o, H x = some o → (∀ ps, o ≠ .tbl ps) → False := fun x hx => by
        rcases List.mem_cons.mp hx with rfl | hx
        · exact rgone
        · rw [List.mem_singleton.mp hx]; exact igone
      have s9 : Stp K [r', i'] H8 H9 := Stp.of W8.w.tabs o9 fun x hx => by
        rcases List.mem_cons.mp hx with z | z
        · rw [z]; exact (rec_bare F8.rcd).1
        · rw [List.mem_singleton.mp z]; exact src_bare F8.si
      have W9 := W8.keep s9 nri
      have St9 := St8.newL s9 gri
      have hk9 := hk8.keep o9
      have l2of := W8.w.fresh nl2
      have l2gone := St8.gone nl2 l2of
      refine ⟨rfl, _, rfl, ?_⟩
      rw [decide_eq_true rfl]
      have F9 : Far K r' i' l2 S ts.length S ts H9 := ⟨rec9, src9, W.val, rfl, Nat.le_refl _, W.okIts⟩
      refine (et_is (et_test (evd_same (evd_rstate (ev_var rfl) F9.rcd F9.si W.val) (evd_of (ev_var rfl) fun H5 e5 => dp_rst (hk9.keep (L := []) (Only.ex e5))) (dn_rst S W.okIts) (by decide))) rfl : EvT _ _ H9 false) H9 (Ex.refl _) _ fun H10 e10 => ?_
      have W10 := W9.ex e10
      have St10 := St9.trans (W9.w.stEx (L := [d, g, r, i, l, p, m]) e10)
      have F10 := F9.ex e10
      refine q_when (b := false) (et_is (et_or0 (et_not (et_B (ev_rsame (b := true) (ev_var rfl) (ev_var rfl) F10.rcd ok fun H5 e5 => .inr (.inr ⟨i, l, S, W10.w.rcd.ex e5, F10.si.ex e5, W10.w.si.ex e5, W.val, rfl⟩))))
        (et_not (et_B (ev_same (ev_inner (ev_var rfl) F10.rcd) (ev_var rfl) F10.si W10.w.sp W.val)))) rfl) (fun z => by cases z) fun _ H11 e11 => ?_
      have W11 := W10.ex e11
      have St11 := St10.trans (W10.w.stEx (L := [d, g, r, i, l, p, m]) e11)
      have F11 := F10.ex e11
      -- jump(0)
      refine rd_rjump (ev_var rfl) ev_c F11.rcd F11.si W.val (by omega) (.inl rfl) ?_
      rw [W.val.jump0]
      intro H12 o12 rec12 src12
      have nil2 : ∀ x, x ∈ [d, g, r, i, l, p, m] → x ∉ [i', l2] := fun x hx z => by
        rcases List.mem_cons.mp z with z | z
        · exact iof (z ▸ hx)
        · exact l2of (List.mem_singleton.mp z ▸ hx)
      have gil2 : ∀ x, x ∈ [i', l2] → ∀ o, H x = some o → (∀ ps, o ≠ .tbl ps) → False := fun x hx => by
        rcases List.mem_cons.mp hx with rfl | hx
        · exact igone
        · rw [List.mem_singleton.mp hx]; exact l2gone
      have s12 : Stp K [i', l2] H11 H12 := Stp.of W11.w.tabs o12 fun x hx => by
        rcases List.mem_cons.mp hx with z | z
        · rw [z]; exact src_bare F11.si
        · rw [List.mem_singleton.mp z]; exact (rec_bare F11.rcd).2
      have W12 := W11.keep s12 nil2
      have St12 := St11.newL s12 gil2
      have ok12 : OkIts (ts ++ [It.move "jump" 0]) := ⟨by rw [List.length_append]; show ts.length + 1 ≤ 1000; omega, fun t m => (List.mem_append.mp m).elim (W.okIts t) fun z => by rw [List.mem_singleton.mp z]; exact ⟨.inl rfl, by decide, by decide⟩⟩
      have ne12 : (ts ++ [It.move "jump" 0]).length ≠ ts.length := by rw [List.length_append]; show ts.length + 1 ≠ ts.length; omega
      refine s_ret (ev_is (ev_and0 (ev_notV (ev_rsame (b := false) (ev_var rfl) (ev_var rfl) rec12 ok12 fun H5 e5 => .inr (.inl ⟨i, l, ts, W12.w.rcd.ex e5, ok, ne12, rfl⟩))) (ev_and0 (ev_notV (ev_rsame (b := false) (ev_var rfl) (ev_var rfl) W12.w.rcd ok fun H5 e5 => .inr (.inl ⟨i', l2, _, rec12.ex e5, ok12, ne12.symm, rfl⟩)))
        (ev_same (ev_inner (ev_var rfl) rec12) (ev_var rfl) src12 W12.w.sp W.val))) rfl) fun H13 e13 => h H13 (St12.trans (W12.w.stEx e13)) (W12.ex e13)

end
end Kx
set_option Elab.async false
set_option linter.all false
set_option maxRecDepth 100000
set_option maxHeartbeats 2000000
namespace Kx
open PySem PySem.Spec PyProof.Rows L2 Evl
open He (ga ma)
section
variable {P : Program} {w : World} {K : PySem.W.Frag} {mg : Str → Option Value} {base : Heap}
def N_law : List Str := ["_law_script", "_law_draw", "_law_turn", "_law_kind_so", "_law_state_so", "_law_record", "_law_again", "_law_source_so", "_law_plain", "_law_items_so", "_law_item"]
theorem sc_law : FnScope N_law ["_law_script"] (defScope s_law) := ⟨rfl, rfl, rfl, by decide +kernel, rfl, by decide +kernel, by decide +kernel⟩
section
variable {σ : L2.St} {H : Hp} {te ta tb tc td : TE} {d g r i l p m : Addr} {S S0 : Src} {ts : List It} {Q : VK} {k : Str} {v : V}
theorem rd_callA {sp : Sp} {dvs : List V} {E : XK} {t : TA} (h : t σ H fun vs H1 => sp (vs ++ dvs) H1 Q E) : tCall sp dvs E t σ H Q := h
theorem rd_cons {tr : TA} {Q : List V → Hp → Prop} (h : ta σ H fun x H1 => tr σ H1 fun xs H2 => Q (x :: xs) H2) : tCons ta tr σ H Q := h
theorem rd_begun {a : Addr} {ns : List Int} (h : Ev ta σ H (.ref a)) (ha : SqL K H a (iV ns)) (len : ns.length ≤ 63) (kk : ∀ d g H', Ex H H' → H d = none → H g = none → DrawAt H' d g → Q (.ref d) H') : tCall (sp_begun K) [] E0 (tCons ta tNil) σ H Q :=
  rd_callA (ea_cons h ea_nil H (Ex.refl _) _ fun H1 e1 => ⟨a, ns, rfl, ex_l e1 ha, len, fun d g H' e n1 n2 hd => kk d g H' (Ex.trans e1 e) (fresh_back e1 n1) (fresh_back e1 n2) hd⟩)
theorem rd_lstate (h1 : Ev ta σ H (.ref d)) (h2 : Ev tb σ H (.str k)) (hd : DrawAt H d g) (hk : k = "linear" ∨ k = "counter" ∨ k = "twisted" ∨ k = "script") (kk : ∀ v S H', S.Valid → S.kind = k → Only [d, g] H H' → DrawAt H' d g → StAt H' v S → Q v H') : tCall spLState [] E0 (tCons ta (tCons tb tNil)) σ H Q :=
  rd_callA (ea_cons h1 (ea_cons h2 ea_nil) H (Ex.refl _) _ fun H1 e1 => ⟨d, g, k, rfl, hd.ex e1, hk, fun v S H' a b o => kk v S H' a b ((Only.ex e1).trans o)⟩)
theorem rd_lsource (h1 : Ev ta σ H (.str k)) (h2 : Ev tb σ H v) (hk : S.kind = k) (hst : StAt H v S) (hv : S.Valid) (kk : RetN K S H Q) : tCall (spLSource K) [] E0 (tCons ta (tCons tb tNil)) σ H Q :=
  rd_callA (ea_cons h1 (ea_cons h2 ea_nil) H (Ex.refl _) _ fun H1 e1 => ⟨v, k, S, rfl, hk, hst.ex e1, hv, kk.back e1⟩)
theorem rd_rmake (h : Ev te σ H (.ref i)) (hs : SrcAt K H i S) (kk : ∀ r l H', H r = none → H l = none → Ex H H' → RecAt K H' r i l [] → Q (.ref r) H') : tMake (ga K "Recording") (sp_rinit K) [] E0 (tCons te tNil) σ H Q :=
  h H (Ex.refl _) _ fun H1 e1 x dy hx hdy ne => by
    have e2 : Ex H1 (upd (upd H1 dy (.own x)) x (.ins (ga K "Recording") dy [])) := Ex.mut (Ex.new hdy) hx
    refine ⟨x, dy, i, S, rfl, upd_same, (hs.ex e1).ex e2, fun l0 H3 hl0 o3 hrec3 => ⟨rfl, ?_⟩⟩
    have e13 : Ex H1 H3 := ((Only.ex e2).trans o3).new fun y m => by rw [List.mem_singleton.mp m]; exact hx
    exact kk x l0 H3 (fresh_back e1 hx) (fresh_back (Ex.trans e1 e2) hl0) (Ex.trans e1 e13) hrec3
theorem rd_cr (h1 : Ev ta σ H (.ref d)) (h2 : Ev tb σ H (.ref r)) (h3 : Ev tc σ H (.ref p)) (h4 : Ev td σ H (.ref m)) (W : Wd K d g r i l p m S0 S ts H) (le : ts.length ≤ 900)
    (kk : ∀ S' ts' H', Stp K [d, g, r, i, l, p, m] H H' → Wd K d g r i l p m S0 S' ts' H' → ts'.length ≤ ts.length + 3 → Q (.bl true) H') : tCall (spCR K) [] E0 (tCons ta (tCons tb (tCons tc (tCons td tNil)))) σ H Q :=
  rd_callA (ea_cons h1 (ea_cons h2 (ea_cons h3 (ea_cons h4 ea_nil))) H (Ex.refl _) _ fun H1 e1 => ⟨d, g, r, i, l, p, m, S0, S, ts, rfl, W.ex e1, le, fun S' ts' H' s w => kk S' ts' H' ((W.w.stEx e1).trans s) w⟩)
theorem rd_or (h1 : Ev ta σ H (.ref d)) (h2 : Ev tb σ H (.ref r)) (h3 : Ev tc σ H (.ref p)) (h4 : Ev td σ H (.ref m)) (W : Wd K d g r i l p m S0 S ts H) (le : ts.length ≤ 900)
    (kk : ∀ H', Stp K [d, g, r, i, l, p, m] H H' → Wd K d g r i l p m S0 S ts H' → Q (.bl true) H') : tCall (spOR K) [] E0 (tCons ta (tCons tb (tCons tc (tCons td tNil)))) σ H Q :=
  rd_callA (ea_cons h1 (ea_cons h2 (ea_cons h3 (ea_cons h4 ea_nil))) H (Ex.refl _) _ fun H1 e1 => ⟨d, g, r, i, l, p, m, S0, S, ts, rfl, W.ex e1, le, fun H' s w => kk H' ((W.w.stEx e1).trans s) w⟩)
theorem ev_first (h1 : Ev ta σ H (.str k)) (h2 : Ev tb σ H v) (h3 : Ev tc σ H (.ref r)) (hk : S0.kind = k) (hst : StAt H v S0) (hv : S0.Valid) (hr : RecAt K H r i l ts) (len : ts.length ≤ 1000) (go : Goes ts S0 S) :
    Ev (tCall (spFirst K) [] E0 (tCons (tCall (spLSource K) [] E0 (tCons ta (tCons tb tNil))) (tCons (tProp (ga K "Recording") (spTape K) [] E0 tc) tNil))) σ H .non := fun H0 e0 Q q =>
  rd_callA (rd_cons (rd_lsource (h1.mono e0) (h2.mono e0) hk (hst.ex e0) hv fun x H1 nx e1 sx => rd_cons (rd_tape (h3.mono (Ex.trans e0 e1)) (hr.ex (Ex.trans e0 e1)) fun t us H2 e2 ht hi => ⟨x, S0, t, us, ts, S, rfl, sx.ex e2, hv, ht, hi, len, go, fun H3 e3 => q H3 (Ex.trans (Ex.trans e1 e2) e3)⟩)))
theorem ew_words (h3 : Ev tc σ H (.ref r)) (hr : RecAt K H r i l ts) (ok : OkIts ts) : EvW (tCall sp_words_on [] E0 (tCons (tProp (ga K "Recording") (spTape K) [] E0 tc) tNil)) σ H (iV (wordsOf ts)) := fun H0 e0 Q q =>
  rd_callA (rd_cons (rd_tape (h3.mono e0) (hr.ex e0) fun t us H2 e2 ht hi => ⟨t, us, ts, rfl, ht, hi, ok, fun p H3 e3 h3 => q p H3 (Ex.trans e2 e3) h3⟩))
theorem rd_empty (h : Ev te σ H (.ref r)) (hr : RecAt K H r i l ts) (kk : ∀ l' H', H l' = none → Only [r] H H' → RecAt K H' r i l' [] → Q .non H') : tMeth (ga K "Recording") "empty" (spREmpty K) [] E0 te tNil σ H Q :=
  h H (Ex.refl _) _ fun H1 e1 => by
    have hr1 := hr.ex e1
    obtain ⟨dx, us, hp, hl, hi⟩ := id hr1
    exact ⟨r, dx, _, rfl, hp, rfl, r, i, l, ts, rfl, hr1, fun l' H' n o rec => kk l' H' (fresh_back e1 n) ((Only.ex e1).trans o) rec⟩
/-- a for over a new tuple -/
theorem s_forU {xs : List V} {tl : TE} {tu : TS} {g : TG} {D : Ends} (h : EvU tl σ H xs) (Pv : Addr → Nat → L2.St → Hp → Prop) (h0 : ∀ p H1, Ex H H1 → H1 p = some (.tup xs) → Pv p 0 σ H1) (hl : ∀ p i σ' H', Pv p i σ' H' → H' p = some (.tup xs))
    (hs : ∀ p i x σ' H', xs[i]? = some x → Pv p i σ' H' → g x σ' H' fun σ2 H2 => tu { D with nx := Pv p (i + 1), ct := Pv p (i + 1), bk := D.nx } σ2 H2) (hd : ∀ p σ' H', Pv p xs.length σ' H' → D.nx σ' H') : tFor (iTup K tl) g tu D σ H :=
  h H (Ex.refl _) _ fun p H1 _ e1 hp => ⟨p, rfl, ⟨xs, SqT.of hp⟩, for_tup (Pv p) (h0 p H1 e1 hp) (fun i σ' H' _ z => SqT.of (hl p i σ' H' z)) (hs p) (hd p)⟩
end
/-! ### the classes of sources have object's == -/
theorem Tx.noEq (T : Tx K mg) (S : Src) : NoEq K (ga K S.cls) := by
  have key : ∀ (a b : Nat) (c : Str), facs[a]? = some (fEqs c) → facs[b]? = some (fIns c) → NoEq K (ga K c) := fun a b c ha hb => by
    obtain ⟨h1, h2⟩ := He.ba (T.fac a _ ha)
    obtain ⟨_, h⟩ := He.ba (T.fac b _ hb)
    obtain ⟨_, h⟩ := He.ba h
    obtain ⟨_, h3⟩ := He.ba h
    exact ⟨He.eqO_ok h1, He.eqO_ok h2, of_decide_eq_true h3⟩
  cases S with
  | lin x => exact key 79 74 _ rfl rfl
  | cnt k q => exact key 78 73 _ rfl rfl
  | twi row => exact key 80 75 _ rfl rfl
  | scr ws pl => exact key 77 72 _ rfl rfl
def GS (K : PySem.W.Frag) (C : Addr) : Prop := ∃ S : Src, C = ga K S.cls
theorem rv_neS {H : Hp} {i : Addr} {S : Src} (h : SrcAt K H i S) : RV (rNeS (GS K)) (.ref i) (.ref i) H (.bl false) := fun H1 e Q q => by
  obtain ⟨dx, fs, z⟩ := (h.ex e).ins
  exact ⟨i, _, dx, fs, ⟨S, rfl⟩, rfl, rfl, z, q H1 (Ex.refl _)⟩
theorem rv_notN {H : Hp} : RV (fun x y H Q => y = .non ∧ Q (.bl (!decide (x = .non))) H) .non .non H (.bl false) := fun H1 _ _ q => ⟨rfl, q H1 (Ex.refl _)⟩
/-! ### law -/
def spLaw (K : PySem.W.Frag) : Sp := fun vs H Q _ => ∃ a ns, vs = [.ref a] ∧ SqL K H a (iV ns) ∧ ns.length ≤ 63 ∧ LamX.Tabs (TLs K) H ∧ ∀ H', Q (.bl true) H'
def kinds : List V := [.str "linear", .str "counter", .str "twisted", .str "script"]
theorem kinds_at {i : Nat} {x : V} (h : kinds[i]? = some x) : ∃ k, x = .str k ∧ (k = "linear" ∨ k = "counter" ∨ k = "twisted" ∨ k = "script") := by
  match i, h with
  | 0, h => exact ⟨_, (Option.some.inj h).symm, .inl rfl⟩
  | 1, h => exact ⟨_, (Option.some.inj h).symm, .inr (.inl rfl)⟩
  | 2, h => exact ⟨_, (Option.some.inj h).symm, .inr (.inr (.inl rfl))⟩
  | 3, h => exact ⟨_, (Option.some.inj h).symm, .inr (.inr (.inr rfl))⟩
  | n + 4, h => cases h
def Sl (a d : Addr) (σ : L2.St) : Prop := ∃ x2 x3 x4 x5 x6 x7 x8 x9 x10 : Option V, σ = [some (.ref a), some (.ref d), x2, x3, x4, x5, x6, x7, x8, x9, x10]

set_option maxHeartbeats 8000000
theorem law_ok (T : Tx K mg) (B : Bx K mg base) {f : Addr} {fd : FuncData} {dvs : List V} {kws : List (Str × V)} (F : FunD K d_law.name d_law.qual d_law.params d_law.body d_law.scope dvs kws f fd) : FnOk P w K mg base CX0 15 f fd ["_law_script"] (spLaw K) := by
  have h_law_call_right := h_law_call_right (P := P) (w := w) (base := base) T B
  have h_law_odd_right := h_law_odd_right (P := P) (w := w) (base := base) T B
  have hG : ∀ C, GS K C → NoEq K C := fun C ⟨S, e⟩ => by rw [e]; exact T.noEq S
  have h_law_begun := h_law_begun (P := P) (w := w) (base := base) T
  have h_law_state := h_law_state (P := P) (w := w) (base := base) T
  have h_law_source := h_law_source (P := P) (w := w) (base := base) T
  have h_first_difference := h_first_difference (P := P) (w := w) (base := base) T
  have h_words_on := h_words_on (P := P) (w := w) (base := base) T
  have h_Recording_init := h_Recording_init (P := P) (w := w) (base := base) T
  have h_Recording_state := h_Recording_state (P := P) (w := w) (base := base) T
  have h_Recording_inner := h_Recording_inner (P := P) (w := w) (base := base) T
  have h_Recording_tape := h_Recording_tape (P := P) (w := w) (base := base) T
  have h_Recording_empty := h_Recording_empty (P := P) (w := w) (base := base) T
  exact FunD.ok0 F sc_law (fun vs H Q E h => by obtain ⟨a, ns, rfl, _⟩ := h; rfl) fun cdv A outer s H vs Q E hr h => by
    obtain ⟨a, ns, rfl, ha, len, tabs, h⟩ := h
    refine ⟨_, (pss_cons (ps_set (i := 1) sc_law.nd rfl (Or.inl rfl) (pe_h h_law_begun (hr.mono (by decide)) pass0 (pa_cons (pv 0) pa_nil))) (pss_cons (ps_for PassesOwn.never rfl (pi_range1 (by rfl) (T.fre 3 _ rfl) (pa_cons (pe_op op_add pe_int (pe_callB (call_min2 rfl) (by rfl) (T.fre 7 _ rfl) boot_minB (pa_cons pe_int (pa_cons (pe_callB call_len (by rfl) (T.fre 1 _ rfl) PySem.boot_len (pa_cons (pv 0) pa_nil)) pa_nil)))) pa_nil)) (pg_name (i := 2) sc_law.nd rfl (Or.inl rfl)) (pss_one (ps_for PassesOwn.never rfl (pi_tup (pe_tup (pa_cons pe_str (pa_cons pe_str (pa_cons pe_str (pa_cons pe_str pa_nil)))))) (pg_name (i := 3) sc_law.nd rfl (Or.inl rfl)) (pss_cons (ps_set (i := 4) sc_law.nd rfl (Or.inl rfl) (pe_h h_law_state (hr.mono (by decide)) pass0 (pa_cons (pv 1) (pa_cons (pv 3) pa_nil)))) (pss_cons (ps_par3 (i := 7) (j := 8) (l := 9) (by rfl) sc_law.nd rfl rfl rfl (by decide) (by decide) (by decide) rfl rfl rfl (pa_cons (pe_h h_law_source (hr.mono (by decide)) pass0 (pa_cons (pv 3) (pa_cons (pv 4) pa_nil))) (pa_cons (pe_h h_law_source (hr.mono (by decide)) pass0 (pa_cons (pv 3) (pa_cons (pv 4) pa_nil))) (pa_cons (pe_lst pa_nil) pa_nil))) (by rfl)) (pss_cons (ps_set (i := 5) sc_law.nd rfl (Or.inl rfl) (pe_hi h_Recording_init (hr.mono (by decide)) (T.glo 30 _ rfl) pass0 (pa_cons (pv 7) pa_nil))) (pss_cons (ps_for PassesOwn.never rfl (pi_range1 (by rfl) (T.fre 3 _ rfl) (pa_cons pe_int pa_nil)) (pg_name (i := 6) sc_law.nd rfl (Or.inl rfl)) (pss_cons (ps_if (PW.pt (pw_or (pt_not (pt_val (pe_h h_law_call_right (hr.mono (by decide)) pass0 (pa_cons (pv 1) (pa_cons (pv 5) (pa_cons (pv 8) (pa_cons (pv 9) pa_nil))))))) (pw_or1 (pt_cmpR (op_neD hr.units) (pe_hp h_Recording_tape (T.cls 4 _ rfl) (hr.mono (by decide)) pass0 (pv 5)) (pe_callTy call_tuple_of (by rfl) (T.fre 4 _ rfl) boot_tupleT (pa_cons (pv 9) pa_nil)) (nomark _))))) (pss_one (ps_ret pe_bl)) pss_nil) (pss_one (ps_if (PW.pt (pw_or (pt_cmpR (op_neD hr.units) (pe_polyP T (pp_state T) (hr.mono (by decide)) (pv 7)) (pe_polyP T (pp_state T) (hr.mono (by decide)) (pv 8)) (nomark _)) (pw_or1 (pt_cmpR (op_neS hr.units hG) (pe_hp h_Recording_inner (T.cls 4 _ rfl) (hr.mono (by decide)) pass0 (pv 5)) (pv 7) (nomark _))))) (pss_one (ps_ret pe_bl)) pss_nil)))) (pss_cons (ps_if (pt_not (pt_val (pe_h h_law_odd_right (hr.mono (by decide)) pass0 (pa_cons (pv 1) (pa_cons (pv 5) (pa_cons (pv 8) (pa_cons (pv 9) pa_nil))))))) (pss_one (ps_ret pe_bl)) pss_nil) (pss_cons (ps_if (pt_cmpR op_notN (pe_h h_first_difference (hr.mono (by decide)) pass0 (pa_cons (pe_h h_law_source (hr.mono (by decide)) pass0 (pa_cons (pv 3) (pa_cons (pv 4) pa_nil))) (pa_cons (pe_hp h_Recording_tape (T.cls 4 _ rfl) (hr.mono (by decide)) pass0 (pv 5)) pa_nil))) pe_non (nomark _)) (pss_one (ps_ret pe_bl)) pss_nil) (pss_cons (ps_if (pt_cmpR (op_neD hr.units) (pe_h h_words_on (hr.mono (by decide)) pass0 (pa_cons (pe_hp h_Recording_tape (T.cls 4 _ rfl) (hr.mono (by decide)) pass0 (pv 5)) pa_nil)) (pe_callTy call_tuple_of (by rfl) (T.fre 4 _ rfl) boot_tupleT (pa_cons (pe_lc (own := [("_law_item", 10)]) (g := gName 10) rfl sc_law.nd (pi_list (pv 9)) (blkOk_by (own := [("_law_item", 10)]) (N := N_law) (sc := defScope s_law) (by decide +kernel)) (fun _ _ _ _ _ => pg_name (i := 10) sc_law.nd rfl (Or.inl rfl)) (fun _ _ _ _ _ => pts_one (pt_not (pt_val (pe_isB T 4 rfl boot_tupleT (pv 10))))) (fun _ _ _ _ _ => (pv 10))) pa_nil)) (nomark _)) (pss_one (ps_ret pe_bl)) pss_nil) (pss_one (ps_if (PW.pt (pw_or (pt_cmpR op_notN (pe_hm0 h_Recording_empty (T.cls 4 _ rfl) (hr.mono (by decide)) pass0 (pv 5)) pe_non (nomark _)) (pw_or1 (pt_cmpR (op_neD hr.units) (pe_hp h_Recording_state (T.cls 4 _ rfl) (hr.mono (by decide)) pass0 (pv 5)) (pe_tup (pa_cons (pe_polyP T (pp_state T) (hr.mono (by decide)) (pv 8)) (pa_cons (pe_tup pa_nil) pa_nil))) (nomark _))))) (pss_one (ps_ret pe_bl)) pss_nil)))))))))))) (pss_one (ps_ret pe_bl)))), ?_⟩
    refine rd_begun (ev_var rfl) ha len fun d g H1 e1 nd ng hd1 => ?_
    have ha1 := ex_l e1 ha
    have T1 := tabs.ext e1
    have bd : ∀ {H' : Hp}, DrawAt H' d g → ∀ x, x ∈ [d, g] → Bare H' x := fun {H'} hd x hx => by
      obtain ⟨mm, t, gs, q1, q2, _⟩ := hd
      rcases List.mem_cons.mp hx with z | z
      · rw [z]; exact bare_dK q1
      · rw [List.mem_singleton.mp z]; exact bare_lst q2
    refine q_forR1 (n := 1 + (if ((iV ns).length : Int) < 2 then ((iV ns).length : Int) else 2)) (ea_cons (ev_op ev_c (ev_min ev_c (ev_lenS (ev_var rfl) ha1)) rv_I0) ea_nil) (by split <;> omega) (fun k σ' H' => DrawAt H' d g ∧ LamX.Tabs (TLs K) H' ∧ Sl a d σ') (fun H2 e2 => ⟨hd1.ex e2, T1.ext e2, none, none, none, none, none, none, none, none, none, rfl⟩) (fun k σ' H2 hk I => ?_) (fun σ' H2 I => ?_)
    · obtain ⟨hd2, T2, x2, x3, x4, x5, x6, x7, x8, x9, x10, rfl⟩ := I
      refine s_forU (xs := kinds) (eu_tup (ea_cons ev_c (ea_cons ev_c (ea_cons ev_c (ea_cons ev_c ea_nil)))) (Nat.le_of_ble_eq_true rfl)) (fun tp k σ' H' => H' tp = some (.tup kinds) ∧ DrawAt H' d g ∧ LamX.Tabs (TLs K) H' ∧ Sl a d σ') (fun tp H3 e3 htp => ⟨htp, hd2.ex e3, T2.ext e3, _, _, _, _, _, _, _, _, _, rfl⟩) (fun tp k σ' H' I => I.1) (fun tp k x σ' H3 hx I => ?_) (fun tp σ' H3 I => I.2)
      obtain ⟨tp3, hd3, T3, y2, y3, y4, y5, y6, y7, y8, y9, y10, rfl⟩ := I
      obtain ⟨kd, rfl, hkd⟩ := kinds_at hx
      -- the state, the sources, the items, the recording
      refine rd_lstate (ev_var rfl) (ev_var rfl) hd3 hkd fun sv S0 H4 hv0 hk0 o4 hd4 st4 => ?_
      have T4 := tabs_keep T3 o4 (bd hd3)
      have tp4 := o4.tups _ _ tp3
      refine rd_lsource (ev_var rfl) (ev_var rfl) hk0 st4 hv0 fun i H5 ni e5 si5 => rd_lsource (ev_var rfl) (ev_var rfl) hk0 (st4.ex e5) hv0 fun p H6 np e6 sp6 => (el_lst ea_nil (by decide)) H6 (Ex.refl _) _ fun m H7 nm e7 hm7 => ?_
      refine ⟨_, _, _, rfl, ?_⟩
      have e57 := Ex.trans (Ex.trans e5 e6) e7
      have si7 := si5.ex (Ex.trans e6 e7)
      have sp7 := sp6.ex e7
      dsimp only [tSeq]
      refine rd_rmake (ev_var rfl) si7 fun r l H8 nr nl e8 rec8 => ?_
      have e48 := Ex.trans e57 e8
      have hd8 := hd4.ex e48
      have ip : i ≠ p := fun z => by
        obtain ⟨_, _, s⟩ := si5.ins
        rw [← z, s] at np
        cases np
      have lm : l ≠ m := fun z => by rw [z, hm7] at nl; cases nl
      have gl : g ≠ l := fun z => by
        obtain ⟨mm, t, gs, q1, q2, _⟩ := hd4
        rw [← z, e57 _ _ q2] at nl
        cases nl
      have gm : g ≠ m := fun z => by
        obtain ⟨mm, t, gs, q1, q2, _⟩ := hd4
        rw [← z, (Ex.trans e5 e6) _ _ q2] at nm
        cases nm
      have W8 : Wd K d g r i l p m S0 S0 [] H8 := ⟨⟨hd8, rec8, si7.ex e8, sp7.ex e8, ⟨[], e8 _ _ hm7, .nil⟩, T4.ext e48, gl, gm, lm, ip⟩, hv0, hv0, .nil _, rfl⟩
      have tp8 := e48 _ _ tp4
      have st8 := st4.ex e48
      clear T4 tp4 e57 si7 sp7 ip lm gl gm hd8 rec8 e48 nl nr e8 e7 e6 e5 hm7 nm np ni st4 hd4 o4 tp3 hd3 T3
      refine q_forR1 (n := 6) (ea_cons ev_c ea_nil) (by decide) (fun k σ' H' => (∃ S ts, Wd K d g r i l p m S0 S ts H' ∧ ts.length ≤ 3 * k) ∧ StAt H' sv S0 ∧ H' tp = some (.tup kinds) ∧ ∃ z6 z10 : Option V, σ' = [some (.ref a), some (.ref d), y2, some (.str kd), some sv, some (.ref r), z6, some (.ref i), some (.ref p), some (.ref m), z10])
        (fun H9 e9 => ⟨⟨S0, [], W8.ex e9, Nat.le_refl _⟩, st8.ex e9, e9 _ _ tp8, _, _, rfl⟩) (fun k σ' H9 hk9 I => ?_) (fun σ' H9 I => ?_)
      · obtain ⟨⟨S, ts, W9, l9⟩, st9, tp9, z6, z10, rfl⟩ := I
        refine rd_cr (ev_var rfl) (ev_var rfl) (ev_var rfl) (ev_var rfl) W9 (by omega) fun S' ts' H10 s10 W10 l10 => ?_
        refine ⟨true, rfl, ?_⟩
        have st10 := st9.keepN s10.n
        have tp10 := s10.n.tups _ _ tp9
        obtain ⟨us, hm, hits⟩ := id W10.w.items
        refine (et_is (et_test (evd_same (evd_tape (ev_var rfl) W10.w.rcd) (evd_items (ev_var rfl) hm hits) (dn_itemsT W10.okIts) (by decide))) rfl : EvT _ _ H10 false) H10 (Ex.refl _) _ fun H11 e11 => ?_
        have W11 := W10.ex e11
        refine s_when (b := false) (et_is (et_or0 (et_test (evd_same (evd_st (ev_state (ev_var rfl) W11.w.si W11.val)) (evd_st (ev_state (ev_var rfl) W11.w.sp W11.val)) (dn_st S') (by decide))) (et_test (ev_op (ev_inner (ev_var rfl) W11.w.rcd) (ev_var rfl) (rv_neS W11.w.si)))) rfl) (fun z => by cases z) fun _ H12 e12 => ?_
        exact ⟨⟨S', ts', W11.ex e12, by omega⟩, (st10.ex e11).ex e12, (Ex.trans e11 e12) _ _ tp10, _, _, rfl⟩
      · obtain ⟨⟨S, ts, W9, l9⟩, st9, tp9, z6, z10, rfl⟩ := I
        have l9' : ts.length ≤ 18 := l9
        refine rd_or (ev_var rfl) (ev_var rfl) (ev_var rfl) (ev_var rfl) W9 (by omega) fun H10 s10 W10 => ?_
        refine ⟨true, rfl, ?_⟩
        have st10 := st9.keepN s10.n
        have tp10 := s10.n.tups _ _ tp9
        refine q_when (b := false) (et_is (et_test (ev_op (ev_first (ev_var rfl) (ev_var rfl) (ev_var rfl) hk0 st10 hv0 W10.w.rcd (by omega) W10.goes) ev_c rv_notN)) rfl) (fun z => by cases z) fun _ H11 e11 => ?_
        have W11 := W10.ex e11
        obtain ⟨us, hm, hits⟩ := id W11.w.items
        have ok : OkIts ts := ⟨by omega, W11.okIts⟩
        refine q_when (b := false) (et_is (et_test (evd_same (d := .tuple ((wordsOf ts).map PyData.int)) (evd_upw (ew_words (ev_var rfl) W11.w.rcd ok) fun H1 e1 => dp_iV) (evd_upd (eu_is (eu_tupleL (lc_l _ (fun x => x) (ev_var rfl) hm (by have := hits.len; omega) (fun x => rfl) (fun x mx H2 e2 => ?_) (fun x mx H2 e2 _ => ev_var rfl))) (wordsOf_eq hits)) fun H1 e1 => dp_iV) dn_iV (by decide))) rfl) (fun z => by cases z) fun _ H12 e12 => ?_
        · obtain ⟨t, _, ht⟩ := hits.mem mx
          cases t with
          | word w =>
            obtain rfl : x = .int w := ht
            exact et_is (et_not (et_B (ev_isBit (ev_var rfl)))) rfl
          | move n s =>
            obtain ⟨b, rfl, hb⟩ := ht
            exact et_is (et_not (et_B (ev_isBtt (ev_var rfl) (e2 _ _ hb)))) rfl
        have W12 := W11.ex e12
        have tp12 := (Ex.trans e11 e12) _ _ tp10
        refine rd_empty (ev_var rfl) W12.w.rcd fun l2 H13 nl2 o13 rec13 => ?_
        have n12 := W12.w.nes
        have si13 := W12.w.si.keep o13 (not1 n12.ri.symm)
        have sp13 := W12.w.sp.keep o13 (not1 n12.rp.symm)
        have hd13 := W12.w.draw.keep o13 (not1 n12.dr) (not1 n12.gr)
        have T13 := tabs_keep W12.w.tabs o13 fun x hx => by rw [List.mem_singleton.mp hx]; exact (rec_bare W12.w.rcd).1
        have tp13 := o13.tups _ _ tp12
        refine ⟨rfl, _, rfl, ?_⟩
        rw [decide_eq_true rfl]
        refine (et_is (et_test (evd_same (evd_rstate (ts := []) (ev_var rfl) rec13 si13 W12.val) (evd_two (evd_st (ev_state (ev_var rfl) sp13 W12.val)) (evd_upd (xs := []) (ds := []) (eu_tup ea_nil (by decide)) fun H1 e1 => .nil)) (dn_rst S fun t m => by cases m) (by decide))) rfl : EvT _ _ H13 false) H13 (Ex.refl _) _ fun H14 e14 => ?_
        exact ⟨e14 _ _ tp13, hd13.ex e14, T13.ext e14, _, _, _, _, _, _, _, _, _, rfl⟩
    · obtain ⟨hd2, T2, x2, x3, x4, x5, x6, x7, x8, x9, x10, rfl⟩ := I
      exact s_ret ev_c fun H3 e3 => h H3

end
end Kx
set_option Elab.async false
set_option linter.all false
set_option maxRecDepth 100000
set_option maxHeartbeats 2000000
namespace KxH
open PySem PySem.W PySem.Calls PyProof.Rows
open He (ga ma ba)
abbrev BZ : Type := (Bool × (Bool × Bool)) × (List He.FnW × (Bool × (Bool × ((Bool × Bool) × Bool))))
def obsZ (g : Addr → Option Obj) : BZ := (obs1 g, (obs2 g, (obs3 g, (obs4 g, (obs5 g, obs6 g)))))
def valZ : BZ := ((true, (true, true)), (Kx.fns.map He5.DefA.val, (true, (true, ((true, true), true)))))
theorem join_two {α δ ε : Type} {o : Option α} {h : α → δ} {k : α → ε} {z : δ} {v : ε} (a : o.map h = some z) (b : o.map k = some v) : o.map (fun s => (h s, k s)) = some (z, v) := by
  cases o with
  | none => cases a
  | some s =>
    have a' : h s = z := Option.some.inj a
    have b' : k s = v := Option.some.inj b
    subst a' b'
    rfl
theorem join_map {α β γ δ ε : Type} {o : Option α} {f : α → β} {g : α → γ} {h : α → δ} {k : α → ε} {x : β} {y : γ} {z : δ} {v : ε} (a : o.map (fun s => (f s, g s, h s)) = some (x, y, z)) (b : o.map k = some v) : o.map (fun s => (f s, g s, (h s, k s))) = some (x, y, (z, v)) := by
  cases o with
  | none => cases a
  | some s =>
    have a' := Option.some.inj a
    have b' : k s = v := Option.some.inj b
    obtain ⟨h1, h2⟩ := Prod.mk.inj a'
    obtain ⟨h2, h3⟩ := Prod.mk.inj h2
    subst h1 h2 h3 b'
    rfl
structure SaysZ (h : Heap) (K : Frag) : Prop where
  nms : fNames K = true
  cls : fCls K = true
  facs : (Kx.facs.all fun f => f K) = true
  ff : (Kx.fns.all fun d => d.ok K) = true
  fns : (Kx.fns.map fun d => He5.fnA K (d.at_ K)) = Kx.fns.map He5.DefA.val
  ne : (He.cT K ("_law_call_right", none)).2 ≠ (He.cT K ("_law_odd_right", none)).2
  hd : ∀ p ∈ tf, codeHdIn K (He.cT K p).1 (He.cT K p).2 = true
  out : ∀ p ∈ tf, K.lookup (He.cT K p).2 = none
  emp : ∀ p ∈ tf, h.get? (He.cT K p).2 = some { cls := .none, data := .fields #[] }
theorem all_split {α : Type} {p : α → Bool} {xs : List α} (n : Nat) (h : (xs.take n).all p = true) (k : (xs.drop n).all p = true) : xs.all p = true := by
  rw [← List.take_append_drop n xs, List.all_append, h, k]
  rfl
theorem saysZ_of {h : Heap} (e : obsZ h.get? = valZ) : SaysZ h (kOf h.get?) := by
  have e1 : fNames (kOf h.get?) = true := congrArg (fun z : BZ => z.1.1) e
  have e0 : neB (kOf h.get?) = true := congrArg (fun z : BZ => z.1.2.1) e
  have e2 : He.tabsB h.get? tf (kOf h.get?) = true := congrArg (fun z : BZ => z.1.2.2) e
  have e3 : (Kx.fns.map fun d => He5.fnA (kOf h.get?) (d.at_ (kOf h.get?))) = Kx.fns.map He5.DefA.val := congrArg (fun z : BZ => z.2.1) e
  have e4 : ((Kx.fns.take 42).all fun d => d.ok (kOf h.get?)) = true := congrArg (fun z : BZ => z.2.2.1) e
  have e5 : ((Kx.fns.drop 42).all fun d => d.ok (kOf h.get?)) = true := congrArg (fun z : BZ => z.2.2.2.1) e
  have e6 : fCls (kOf h.get?) = true := congrArg (fun z : BZ => z.2.2.2.2.1.1) e
  have e7 : ((Kx.facs.take 47).all fun f => f (kOf h.get?)) = true := congrArg (fun z : BZ => z.2.2.2.2.1.2) e
  have e8 : ((Kx.facs.drop 47).all fun f => f (kOf h.get?)) = true := congrArg (fun z : BZ => z.2.2.2.2.2) e
  have key : ∀ p ∈ tf, codeHdIn (kOf h.get?) (He.cT (kOf h.get?) p).1 (He.cT (kOf h.get?) p).2 = true ∧ ∃ o, h.get? (He.cT (kOf h.get?) p).2 = some o ∧ He.emptyTab o = true := fun p hp => by
    obtain ⟨h3, h4⟩ := ba (List.all_eq_true.mp e2 p hp)
    refine ⟨h3, ?_⟩
    cases q : h.get? (He.cT (kOf h.get?) p).2 with
    | none =>
      rw [q] at h4
      cases h4
    | some o =>
      rw [q] at h4
      exact ⟨o, rfl, h4⟩
  refine ⟨e1, e6, all_split 47 e7 e8, all_split 42 e4 e5, e3, fun z => ?_, fun p hp => (key p hp).1, fun p hp => ?_, fun p hp => ?_⟩
  · unfold neB at e0
    rw [z, Nat.beq_refl] at e0
    cases e0
  · obtain ⟨_, o, q, z⟩ := key p hp
    exact He.frT_none q z
  · obtain ⟨_, o, q, z⟩ := key p hp
    rw [q, He.emptyTab_eq z]
def hookZ : Hook where
  α := BZ
  obs := fun s => obsZ s.heap.get?
  val := fun _ => valZ
  says := fun _ h => ∃ K : Frag, K.In h ∧ SaysZ h K
  of := fun _ _ e => ⟨_, He.frT_in, saysZ_of e⟩
  keeps := fun _ _ _ ⟨K, hK, c⟩ k => ⟨K, Frag.In.keeps hK k, ⟨c.nms, c.cls, c.facs, c.ff, c.fns, c.ne, c.hd, c.out, fun p hp => k _ _ (c.emp p hp)⟩⟩
def ob (s : SharedT) : BZ := obsZ (HandSHeadRun.getT s)
theorem ob_eq (s : SharedT) : ob s = hookZ.obs s.abs := by
  have e : HandSHeadRun.getT s = s.abs.heap.get? := funext fun a => HandSHeadRun.getT_eq s a
  show obsZ (HandSHeadRun.getT s) = obsZ s.abs.heap.get?
  rw [e]
theorem run (w : World) : HandSHeadRun.RunEq R qv hookZ ob 100000 names w := fun os => join_map (run1 w os) (join_two (run2 w os) (join_two (run3 w os) (join_two (run4 w os) (join_two (run5 w os) (run6 w os)))))
/-! ### what the head tells -/
theorem all_at {α : Type} {p : α → Bool} {xs : List α} {i : Nat} {x : α} (h : xs.all p = true) (e : xs[i]? = some x) : p x = true := List.all_eq_true.mp h x (List.mem_of_getElem? e)
theorem tx_of {h : Heap} {K : Frag} {mg : PySem.Str → Option Value} (X : K.In h) (G : h.Ns mainGlobals mg) (c : SaysZ h K) : Kx.Tx K mg := by
  obtain ⟨g1, c1⟩ := ba c.nms
  obtain ⟨g2, g3⟩ := ba c1
  obtain ⟨k1, k2⟩ := ba c.cls
  have k3 := c.facs
  refine ⟨fun i d e => ?_, fun i x e => He.glo_ok X G (all_at (p := fun x => (He.Fa.glo x).ok K) g1 e), fun i q e => He.int_ok X G (all_at (p := fun q => (He.Fa.int q.1 q.2).ok K) g2 e), fun i x e => He.free_ok X G (all_at (p := fun x => (He.Fa.free x).ok K) g3 e), fun i x e => He.cls_ok (all_at (p := fun c => (He.Fa.cls c).ok K) k1 e), fun i q e => He.noat_ok (all_at (p := fun q => (He.Fa.noat q.1 q.2).ok K) k2 e), fun i f e => all_at (p := fun f => f K) k3 e⟩
  refine He5.DefA.funD ?_ (all_at (p := fun d => He5.DefA.ok K d) c.ff e)
  have z : (Kx.fns.map fun d => He5.fnA K (d.at_ K))[i]? = (Kx.fns.map He5.DefA.val)[i]? := congrArg (fun l => l[i]?) c.fns
  rw [List.getElem?_map, List.getElem?_map, e] at z
  exact Option.some.inj z
theorem law_at {w : World} {h : Heap} {K : Frag} {mg : PySem.Str → Option Value} {fa : Addr} (X : K.In h) (G : h.Ns mainGlobals mg) (c : SaysZ h K) (hmg : mg ("law" : PySem.Str) = some (.ref fa)) : LamX.LawAtS PySem.Challenge.rw_drawstate_k64_whole_recordings w K L2.CX0 15 63 "_law_script" mg fa h := by
  have T := tx_of X G c
  obtain ⟨fd, F⟩ := T.fn 101 Kx.d_law rfl
  have e := hmg.symm.trans (T.glo 68 "law" rfl)
  cases e
  have b := L2.FunD.bindsA (ps := ["_law_script"]) F fun | _, _, _, _, _, _, [_], _ => rfl
  have mem : ∀ {q : Addr × Addr}, q ∈ tf.map (He.cT K) → ∃ p, p ∈ tf ∧ He.cT K p = q := fun hq => List.mem_map.mp hq
  refine ⟨fd, tf.map (He.cT K), Kx.spLaw K, fun q hq => ?_, fun q hq => ?_, fun q hq => ?_, fun s v => b s [v] rfl, fun H a ns hl _ hT hS => ?_, fun base hB hN hTB => ?_⟩
  · obtain ⟨p, hp, rfl⟩ := mem hq
    exact c.emp p hp
  · obtain ⟨p, hp, rfl⟩ := mem hq
    exact c.out p hp
  · obtain ⟨p, hp, rfl⟩ := mem hq
    exact codeHd_of_K X (c.hd p hp)
  · refine ⟨a, ns, rfl, hS, hl, fun q hq => ?_, fun _ => rfl⟩
    rcases List.mem_cons.mp hq with rfl | hq
    · exact LamX.TabS.nil (hT _ (List.mem_map.mpr ⟨("_law_call_right", none), List.mem_cons_self .., rfl⟩))
    · rcases List.mem_singleton.mp hq with rfl
      exact LamX.TabS.nil (hT _ (List.mem_map.mpr ⟨("_law_odd_right", none), List.mem_cons_of_mem _ (List.mem_cons_self ..), rfl⟩))
  · exact Kx.law_ok T ⟨hTB _ (List.mem_map.mpr ⟨("_law_call_right", none), List.mem_cons_self .., rfl⟩), hTB _ (List.mem_map.mpr ⟨("_law_odd_right", none), List.mem_cons_of_mem _ (List.mem_cons_self ..), rfl⟩), c.ne⟩ F
end KxH
open PySem PySem.W PySem.Calls PyProof.Rows
set_option maxHeartbeats 0 in
theorem PySem.Challenge.cw_drawstate_k64_whole_recordings_holds : PySem.Challenge.rw_drawstate_k64_whole_recordings.Holds := by
  w_on; o_law
  refine HandSHeadRun.head_any (r := OpenLaw.row PySem.Challenge.rw_drawstate_k64_whole_recordings) (q := KxH.qv) (H := KxH.hookZ) (ob := KxH.ob) (M := 100000) (loose := KxH.names) (d := HandSHeadRun.topDef (OpenLaw.row PySem.Challenge.rw_drawstate_k64_whole_recordings).prog 94) (kwd := []) KxH.ob_eq
    (by kernel_rfl) (fun s => by kernel_rfl) KxH.run (by kernel_rfl) (by kernel_rfl) (by kernel_rfl) (by rfl) (by first | assumption | decide +kernel) (by decide +kernel) ⟨rfl, rfl, rfl, rfl, rfl, by decide +kernel⟩ ?hw ?hc
  case hw => w_witness2
  case hc =>
    refine LamX.walk_ofTsE (l := PySem.Challenge.rw_drawstate_k64_whole_recordings) (n := 63) (k := 15) (x := "_law_script") (CX := fun _ => L2.CX0) rfl (by decide) (by kernel_rfl) ⟨rfl, by decide, by decide⟩ ?F (fun _ _ _ _ _ z => z)
    intro w mg fa h Y G hmg0
    obtain ⟨K, KX, c⟩ := Y
    have hmg : mg ("law" : PySem.Str) = some (.ref fa) := by
      have e : (HandSHeadRun.topDef (OpenLaw.row PySem.Challenge.rw_drawstate_k64_whole_recordings).prog 94).name = ("law" : PySem.Str) := by kernel_rfl
      rw [← e]
      exact hmg0
    exact ⟨K, KX, KxH.law_at KX G c hmg⟩
